import PyProof.Rows.All
import Wide.All
import OpenK.AllK
import Wide.FinOn
import HandS.ForMost
import HandS.ForExc
import HandS.TupAny
import HandS.Codes
import HandS.Lambda
import HandS.ExcInit
import HandS.Style
import HandS.Deep
import HandS.IsInst
import HandS.TupLe
import HandS.ExcOwn
import HandS.WordsExc
import HandS.Small
import HandS.ExcIs
import HandS.EndTab
import HandS.Head0
import HandS.Head1
import HandS.Head2
import HandS.HeadHook4
import HandS.Iter
import HandS.More
import HandS.Finally
import HandS.Conv
import HandS.Strs
import HandS.SetKeys
import HandS.ListItems
import KE.SortData
import HandS.FStr
import HandS.ExcField
import HandS.RaiseMore
import HandS.Set
import PyProof.StrWalks
import PyProof.WalksMore
import PyProof.Rows.SetFrom
import PyProof.Rows.SortShellAny
import HandS.SetFor
import HandS.Replace
import HandS.Text
import PyProof.StrLawsIn
import PyProof.CollectStr
import KE.KDictList
import KE.GoesEnum
import PyProof.Rows.Digits
import HandS.TupMul
import PySem.Challenge.RW_oneuseheads_k71_box_machines_judged_and
set_option Elab.async false
set_option linter.all false
set_option maxRecDepth 100000
set_option maxHeartbeats 200000
namespace Q
open PySem PySem.Spec PyProof.Rows L2

/-- an exception object that is held on to -/
def excO (a : Addr) (cls : Value) (d : Option Addr) : HO := .ext fun h => ∃ (oe : Obj) (vs : Array Value), h.get? a = some oe ∧ Zc cls d oe ∧ oe.data = .fields vs
/-- tables of code objects that are known -/
abbrev Tb := List (Addr × Str)
/-! ### values, objects, the store -/
inductive Vl where
  | non | bl (b : Bool) | int (i : Int) | str (s : Str) | tup (xs : List Vl) | ref (n : Nat) | gl (x : Str) | ty (t : String) | exc (c f : Str) (v : Vl)
inductive Ob where
  | non | lst (xs : List Vl) | ro (xs : List Vl) | dic (lk : Bool) (kvs : List (Vl × Vl)) | ins (c : Str) (fs : List (Str × Vl))
structure Sto where
  n : Nat
  at_ : Nat → Ob
def Sto.push (S : Sto) (o : Ob) : Sto := ⟨S.n + 1, fun i => if i = S.n then o else S.at_ i⟩
def Sto.set (S : Sto) (k : Nat) (o : Ob) : Sto := ⟨S.n, fun i => if i = k then o else S.at_ i⟩
inductive R (α : Type) where
  | ok (a : α) | exc (c f : Str) (v : Vl)
abbrev M (α : Type) := Sto → Option (R α × Sto)
abbrev En := List (Option Vl)
/-- the flow of a statement -/
inductive Fl where
  | nx | bk | ct | rt (v : Vl) | ex (c f : Str) (v : Vl)
abbrev MS := En → Sto → Option (Fl × En × Sto)
def ret {α : Type} (a : α) : M α := fun S => some (.ok a, S)
def bnd {α β : Type} (m : M α) (k : α → M β) : M β := fun S =>
  match m S with
  | none => none
  | some (.ok a, S') => k a S'
  | some (.exc c f v, S') => some (.exc c f v, S')
def fail {α : Type} : M α := fun _ => none
def isMut : Ob → Bool
  | .lst _ => true
  | .dic _ _ => true
  | .ins _ _ => true
  | _ => false
/-! ### the relation to the abstract heap -/
section
variable (K : PySem.W.Frag) (mg : Str → Option Value) (T : Tb) (H : Hp) (μ : Nat → Addr) (N : Nat)
mutual
inductive Rp : Vl → V → Prop
  | non : Rp .non .non
  | bl (b : Bool) : Rp (.bl b) (.bl b)
  | int (i : Int) : Rp (.int i) (.int i)
  | str (s : Str) : Rp (.str s) (.str s)
  | tup {xs : List Vl} {a : Addr} {vs : List V} : SqT K H a vs → RpAll xs vs → Rp (.tup xs) (.ref a)
  | ref (n : Nat) : n < N → Rp (.ref n) (.ref (μ n))
  | gl (x : Str) (a : Addr) : mg x = some (.ref a) → Rp (.gl x) (.ref a)
  | ty (t : String) : Rp (.ty t) (.ty t)
  | exc (c : Str) {a C : Addr} : mg c = some (.ref C) → H a = some (excO a (.ref C) none) → Rp (.exc c "" .non) (.ref a)
  | excF (c f : Str) {a C dd : Addr} {v : Vl} {w : V} : f ≠ "" → mg c = some (.ref C) → H a = some (excO a (.ref C) (some dd)) → H dd = some (exd dd [(f, w)]) → Rp v w → Rp (.exc c f v) (.ref a)
inductive RpAll : List Vl → List V → Prop
  | nil : RpAll [] []
  | cons {x : Vl} {v : V} {xs : List Vl} {vs : List V} : Rp x v → RpAll xs vs → RpAll (x :: xs) (v :: vs)
end
/-- a key of a dict -/
def keyOf : Vl → Option Key
  | .int i => some (.inl i)
  | .str s => some (.inr s)
  | _ => none
inductive RpK : List (Vl × Vl) → List (Key × V) → Prop
  | nil : RpK [] []
  | cons {k : Vl} {x : Vl} {κ : Key} {v : V} {xs : List (Vl × Vl)} {vs : List (Key × V)} : keyOf k = some κ → Rp K mg H μ N x v → RpK xs vs → RpK ((k, x) :: xs) ((κ, v) :: vs)
inductive RpF : List (Str × Vl) → List (Str × V) → Prop
  | nil : RpF [] []
  | cons {f : Str} {x : Vl} {v : V} {xs : List (Str × Vl)} {vs : List (Str × V)} : Rp K mg H μ N x v → RpF xs vs → RpF ((f, x) :: xs) ((f, v) :: vs)
def ObR (a : Addr) : Ob → Prop
  | .non => True
  | .lst xs => ∃ vs, H a = some (.lst vs) ∧ RpAll K mg H μ N xs vs
  | .ro xs => ∃ vs, ((∃ o, H a = some (.frz o (.lst vs))) ∨ (∃ (o : Obj) (its : Array Value) (n : Nat), K.lookup a = some o ∧ o.cls = .type "list" ∧ o.dict = none ∧ o.data = .seq its n ∧ its.size ≤ sizeLine ∧ Vals vs its.toList)) ∧ RpAll K mg H μ N xs vs
  | .dic false kvs => ∃ vs, H a = some (.dK vs) ∧ RpK K mg H μ N kvs vs
  | .dic true kvs => ∃ o vs, H a = some (.frz o (.dK vs)) ∧ RpK K mg H μ N kvs vs
  | .ins c fs => ∃ C dx vs, mg c = some (.ref C) ∧ H a = some (.ins C dx vs) ∧ RpF K mg H μ N fs vs
end
structure SRel (K : PySem.W.Frag) (mg : Str → Option Value) (T : Tb) (H : Hp) (μ : Nat → Addr) (S : Sto) : Prop where
  at_ : ∀ n, n < S.n → ObR K mg H μ S.n (μ n) (S.at_ n)
  inj : ∀ n m, n < S.n → m < S.n → isMut (S.at_ n) = true → isMut (S.at_ m) = true → μ n = μ m → n = m
  tab : LamX.Tabs T H
structure Ext (H : Hp) (μ : Nat → Addr) (N : Nat) (H' : Hp) (μ' : Nat → Addr) (N' : Nat) : Prop where
  tup : ∀ b xs, H b = some (.tup xs) → H' b = some (.tup xs)
  frz : ∀ b o u, H b = some (.frz o u) → H' b = some (.frz o u)
  ext : ∀ b φ, H b = some (.ext φ) → H' b = some (.ext φ)
  le : N ≤ N'
  mu : ∀ n, n < N → μ' n = μ n
structure ERel (K : PySem.W.Frag) (mg : Str → Option Value) (H : Hp) (μ : Nat → Addr) (N : Nat) (ρ : En) (σ : L2.St) : Prop where
  len : ρ.length = σ.length
  at_ : ∀ (i : Nat) (v : Vl), ρ[i]? = some (some v) → ∃ x, σ[i]? = some (some x) ∧ Rp K mg H μ N v x
section
variable {K : PySem.W.Frag} {mg : Str → Option Value} {T : Tb} {H H' H2 : Hp} {μ μ' μ2 : Nat → Addr} {N N' N2 : Nat}
theorem Ext.refl : Ext H μ N H μ N := ⟨fun _ _ h => h, fun _ _ _ h => h, fun _ _ h => h, Nat.le_refl _, fun _ _ => rfl⟩
theorem Ext.trans (a : Ext H μ N H' μ' N') (b : Ext H' μ' N' H2 μ2 N2) : Ext H μ N H2 μ2 N2 :=
  ⟨fun c xs h => b.tup c xs (a.tup c xs h), fun c o u h => b.frz c o u (a.frz c o u h), fun c u h => b.ext c u (a.ext c u h), Nat.le_trans a.le b.le, fun n hn => (b.mu n (Nat.lt_of_lt_of_le hn a.le)).trans (a.mu n hn)⟩
theorem Ext.sqT (e : Ext H μ N H' μ' N') {a : Addr} {vs : List V} (h : SqT K H a vs) : SqT K H' a vs := by
  rcases h with (h | ⟨o, h⟩) | h
  · exact .inl (.inl (e.tup _ _ h))
  · exact .inl (.inr ⟨o, e.frz _ _ _ h⟩)
  · exact .inr h
mutual
theorem Rp.ext (e : Ext H μ N H' μ' N') : ∀ {x : Vl} {v : V}, Rp K mg H μ N x v → Rp K mg H' μ' N' x v
  | _, _, .non => .non
  | _, _, .bl b => .bl b
  | _, _, .int b => .int b
  | _, _, .str b => .str b
  | _, _, .tup h a => .tup (e.sqT h) (RpAll.ext e a)
  | _, _, .ref n h => by rw [← e.mu n h]; exact .ref n (Nat.lt_of_lt_of_le h e.le)
  | _, _, .gl x a h => .gl x a h
  | _, _, .ty t => .ty t
  | _, _, .exc c h1 h2 => .exc c h1 (e.ext _ _ h2)
  | _, _, .excF c f h0 h1 h2 h3 r => .excF c f h0 h1 (e.ext _ _ h2) (e.ext _ _ h3) (Rp.ext e r)
theorem RpAll.ext (e : Ext H μ N H' μ' N') : ∀ {x : List Vl} {v : List V}, RpAll K mg H μ N x v → RpAll K mg H' μ' N' x v
  | _, _, .nil => .nil
  | _, _, .cons h a => .cons (Rp.ext e h) (RpAll.ext e a)
end
theorem RpK.ext (e : Ext H μ N H' μ' N') {x : List (Vl × Vl)} {v : List (Key × V)} (h : RpK K mg H μ N x v) : RpK K mg H' μ' N' x v := by
  induction h with
  | nil => exact .nil
  | cons k r _ ih => exact .cons k (r.ext e) ih
theorem RpF.ext (e : Ext H μ N H' μ' N') {x : List (Str × Vl)} {v : List (Str × V)} (h : RpF K mg H μ N x v) : RpF K mg H' μ' N' x v := by
  induction h with
  | nil => exact .nil
  | cons r _ ih => exact .cons (r.ext e) ih
theorem ERel.ext (e : Ext H μ N H' μ' N') {ρ : En} {σ : L2.St} (h : ERel K mg H μ N ρ σ) : ERel K mg H' μ' N' ρ σ :=
  ⟨h.len, fun i v q => let ⟨x, h1, h2⟩ := h.at_ i v q; ⟨x, h1, h2.ext e⟩⟩
theorem RpAll.length {x : List Vl} {v : List V} (h : RpAll K mg H μ N x v) : x.length = v.length := by
  induction x generalizing v with
  | nil => cases h; rfl
  | cons y ys ih => cases h with | cons _ h2 => simp [ih h2]
theorem RpAll.get : ∀ {xs : List Vl} {vs : List V} {i : Nat} {x : Vl}, RpAll K mg H μ N xs vs → xs[i]? = some x → ∃ v, vs[i]? = some v ∧ Rp K mg H μ N x v
  | _, _, _, _, .nil, h => by simp at h
  | _, _, 0, _, .cons h _, e => by simp at e; subst e; exact ⟨_, rfl, h⟩
  | _, _, i + 1, x, .cons _ t, e => by
    obtain ⟨v, h1, h2⟩ := RpAll.get (i := i) t (by simpa using e)
    exact ⟨v, by simpa using h1, h2⟩
theorem RpAll.append : ∀ {xs ys : List Vl} {vs ws : List V}, RpAll K mg H μ N xs vs → RpAll K mg H μ N ys ws → RpAll K mg H μ N (xs ++ ys) (vs ++ ws)
  | _, _, _, _, .nil, h => h
  | _, _, _, _, .cons h t, k => .cons h (RpAll.append t k)
theorem RpAll.take : ∀ {xs : List Vl} {vs : List V} (n : Nat), RpAll K mg H μ N xs vs → RpAll K mg H μ N (xs.take n) (vs.take n)
  | _, _, 0, _ => by simp; exact .nil
  | _, _, _ + 1, .nil => .nil
  | _, _, n + 1, .cons h t => .cons h (RpAll.take n t)
theorem RpAll.drop : ∀ {xs : List Vl} {vs : List V} (n : Nat), RpAll K mg H μ N xs vs → RpAll K mg H μ N (xs.drop n) (vs.drop n)
  | _, _, 0, h => h
  | _, _, _ + 1, .nil => .nil
  | _, _, n + 1, .cons h t => RpAll.drop n t
theorem RpAll.reverse {xs : List Vl} {vs : List V} (h : RpAll K mg H μ N xs vs) : RpAll K mg H μ N xs.reverse vs.reverse := by
  induction xs generalizing vs with
  | nil => cases h; exact .nil
  | cons y ys ih => cases h with | cons h1 h2 => rw [List.reverse_cons, List.reverse_cons]; exact (ih h2).append (.cons h1 .nil)
theorem RpAll.dropLast {xs : List Vl} {vs : List V} (h : RpAll K mg H μ N xs vs) : RpAll K mg H μ N xs.dropLast vs.dropLast := by
  rw [List.dropLast_eq_take, List.dropLast_eq_take, ← h.length]; exact h.take _
theorem RpAll.set : ∀ {xs : List Vl} {vs : List V} (i : Nat) {x : Vl} {v : V}, RpAll K mg H μ N xs vs → Rp K mg H μ N x v → RpAll K mg H μ N (xs.set i x) (vs.set i v)
  | _, _, _, _, _, .nil, _ => .nil
  | _, _, 0, _, _, .cons _ t, r => .cons r t
  | _, _, i + 1, _, _, .cons h t, r => .cons h (RpAll.set i t r)
theorem ERel.set {ρ : En} {σ : L2.St} (h : ERel K mg H μ N ρ σ) (i : Nat) {x : Vl} {v : V} (r : Rp K mg H μ N x v) : ERel K mg H μ N (ρ.set i (some x)) (σ.set i (some v)) := by
  refine ⟨by simp [h.len], fun j w q => ?_⟩
  by_cases e : i = j
  · subst e
    by_cases hl : i < ρ.length
    · rw [List.getElem?_set_self hl] at q
      cases q
      exact ⟨v, by rw [List.getElem?_set_self (by rw [← h.len]; exact hl)], r⟩
    · rw [List.getElem?_eq_none (by simpa using hl)] at q; cases q
  · rw [List.getElem?_set_ne e] at q
    obtain ⟨y, h1, h2⟩ := h.at_ j w q
    exact ⟨y, by rw [List.getElem?_set_ne e]; exact h1, h2⟩
end

/-! ### the heap grows, the store with it -/
section
variable {K : PySem.W.Frag} {mg : Str → Option Value} {T : Tb} {H : Hp} {μ : Nat → Addr} {S : Sto} {p : Addr} {o : HO} {ob : Ob}
def mu1 (μ : Nat → Addr) (n : Nat) (p : Addr) : Nat → Addr := fun i => if i = n then p else μ i
theorem ext_new (hp : H p = none) (N N' : Nat) (hN : N ≤ N') : Ext H μ N (upd H p o) (mu1 μ N p) N' :=
  ⟨fun b xs h => by rw [upd_ne (ne_of_none h hp)]; exact h, fun b o u h => by rw [upd_ne (ne_of_none h hp)]; exact h, fun b u h => by rw [upd_ne (ne_of_none h hp)]; exact h, hN, fun n hn => by unfold mu1; rw [if_neg (Nat.ne_of_lt hn)]⟩
theorem ext_upd (hp : H p = none) (N : Nat) : Ext H μ N (upd H p o) μ N :=
  ⟨fun b xs h => by rw [upd_ne (ne_of_none h hp)]; exact h, fun b o u h => by rw [upd_ne (ne_of_none h hp)]; exact h, fun b u h => by rw [upd_ne (ne_of_none h hp)]; exact h, Nat.le_refl _, fun _ _ => rfl⟩
theorem ObR.mono {K : PySem.W.Frag} {mg : Str → Option Value} {H H' : Hp} {μ μ' : Nat → Addr} {N N' : Nat} {a : Addr} {ob : Ob} (e : Ext H μ N H' μ' N') (ha : ob ≠ .non → ∀ o, H a = some o → H' a = some o) (h : ObR K mg H μ N a ob) : ObR K mg H' μ' N' a ob := by
  match ob, h, ha with
  | .non, _, _ => trivial
  | .lst xs, ⟨vs, h1, h2⟩, ha => exact ⟨vs, ha (fun z => by cases z) _ h1, h2.ext e⟩
  | .ro xs, ⟨vs, h1, h2⟩, ha => exact ⟨vs, h1.imp (fun ⟨o, q⟩ => ⟨o, ha (fun z => by cases z) _ q⟩) id, h2.ext e⟩
  | .dic false kvs, ⟨vs, h1, h2⟩, ha => exact ⟨vs, ha (fun z => by cases z) _ h1, h2.ext e⟩
  | .dic true kvs, ⟨o, vs, h1, h2⟩, ha => exact ⟨o, vs, ha (fun z => by cases z) _ h1, h2.ext e⟩
  | .ins c fs, ⟨C, dx, vs, h0, h1, h2⟩, ha => exact ⟨C, dx, vs, h0, ha (fun z => by cases z) _ h1, h2.ext e⟩
theorem tabs_upd {T : Tb} {H : Hp} {p : Addr} {o : HO} (t : LamX.Tabs T H) (h1 : ∀ ps, H p ≠ some (.tbl ps)) (h2 : ∀ φ, H p ≠ some (.ext φ)) : LamX.Tabs T (upd H p o) := fun q hq => by
  obtain ⟨ps, a, b, c⟩ := t q hq
  refine ⟨ps, ?_, b, fun pos cv e => ?_⟩
  · rw [upd_ne (fun z => h1 ps (by rw [← z]; exact a))]; exact a
  · obtain ⟨k, e1, e2⟩ := c pos cv e
    refine ⟨k, e1, ?_⟩
    rw [upd_ne (fun z => h2 _ (by rw [← z]; exact e2))]; exact e2
theorem tabs_new {T : Tb} {H : Hp} {p : Addr} {o : HO} (t : LamX.Tabs T H) (h : H p = none) : LamX.Tabs T (upd H p o) := tabs_upd t (fun _ z => by rw [h] at z; cases z) (fun _ z => by rw [h] at z; cases z)
/-- something untracked by the store is laid -/
theorem SRel.laid (r : SRel K mg T H μ S) (hp : H p = none) : SRel K mg T (upd H p o) μ S :=
  ⟨fun n hn => (r.at_ n hn).mono (ext_upd hp _) (fun _ u h => by rw [upd_ne (ne_of_none h hp)]; exact h), r.inj, tabs_new r.tab hp⟩
theorem ObR.some {K : PySem.W.Frag} {mg : Str → Option Value} {H : Hp} {μ : Nat → Addr} {N : Nat} {a : Addr} {ob : Ob} (h : ObR K mg H μ N a ob) (m : isMut ob = true) : ∃ o, H a = some o := by
  cases ob with
  | non => exact Bool.noConfusion m
  | ro xs => exact Bool.noConfusion m
  | lst xs => obtain ⟨vs, h1, _⟩ := h; exact ⟨_, h1⟩
  | dic lk kvs =>
    cases lk with
    | false => obtain ⟨vs, h1, _⟩ := h; exact ⟨_, h1⟩
    | true => obtain ⟨o, vs, h1, _⟩ := h; exact ⟨_, h1⟩
  | ins c fs => obtain ⟨C, dx, vs, _, h1, _⟩ := h; exact ⟨_, h1⟩
theorem mu1_same {n : Nat} : mu1 μ n p n = p := if_pos rfl
theorem mu1_lt {n k : Nat} (h : k < n) : mu1 μ n p k = μ k := if_neg (Nat.ne_of_lt h)
theorem push_same : (S.push ob).at_ S.n = ob := if_pos rfl
theorem push_lt {n : Nat} (h : n < S.n) : (S.push ob).at_ n = S.at_ n := if_neg (Nat.ne_of_lt h)
theorem push_n : (S.push ob).n = S.n + 1 := rfl
theorem set_same {k : Nat} : (S.set k ob).at_ k = ob := if_pos rfl
theorem set_ne {k n : Nat} (h : n ≠ k) : (S.set k ob).at_ n = S.at_ n := if_neg h
theorem set_n {k : Nat} : (S.set k ob).n = S.n := rfl
/-- a new object of the store -/
theorem SRel.push (r : SRel K mg T H μ S) (hp : H p = none) (h : ObR K mg (upd H p o) (mu1 μ S.n p) (S.n + 1) p ob) : SRel K mg T (upd H p o) (mu1 μ S.n p) (S.push ob) := by
  refine ⟨?_, ?_, tabs_new r.tab hp⟩
  · intro n hn
    rw [push_n] at hn ⊢
    rcases Nat.lt_or_eq_of_le (Nat.le_of_lt_succ hn) with hl | q
    · rw [mu1_lt hl, push_lt hl]
      exact (r.at_ n hl).mono (ext_new hp _ _ (Nat.le_succ _)) (fun _ u h => by rw [upd_ne (ne_of_none h hp)]; exact h)
    · subst q
      rw [mu1_same, push_same]
      exact h
  · intro n m hn hm h1 h2 e
    have key : ∀ k, k < S.n → isMut (S.at_ k) = true → μ k ≠ p := fun k hk mk z => by
      obtain ⟨o, ho⟩ := (r.at_ k hk).some mk
      rw [z, hp] at ho; cases ho
    rw [push_n] at hn hm
    rcases Nat.lt_or_eq_of_le (Nat.le_of_lt_succ hn) with hln | qn
    · rw [push_lt hln] at h1
      rcases Nat.lt_or_eq_of_le (Nat.le_of_lt_succ hm) with hl | qm
      · rw [push_lt hl] at h2
        rw [mu1_lt hln, mu1_lt hl] at e
        exact r.inj n m hln hl h1 h2 e
      · subst qm
        rw [mu1_lt hln, mu1_same] at e
        exact absurd e (key n hln h1)
    · subst qn
      rcases Nat.lt_or_eq_of_le (Nat.le_of_lt_succ hm) with hl | qm
      · rw [push_lt hl] at h2
        rw [mu1_lt hl, mu1_same] at e
        exact absurd e.symm (key m hl h2)
      · exact qm.symm
theorem ro_frz {K : PySem.W.Frag} {mg : Str → Option Value} {H : Hp} {μ : Nat → Addr} {N : Nat} {a : Addr} {ob : Ob} (h : ObR K mg H μ N a ob) (m : isMut ob = false) (z : ob ≠ .non) (hnf : ∀ o u, H a ≠ some (.frz o u)) :
    ∀ {H' : Hp} {μ' : Nat → Addr} {N' : Nat}, Ext H μ N H' μ' N' → ObR K mg H' μ' N' a ob := by
  intro H' μ' N' e
  cases ob with
  | non => exact absurd rfl z
  | ro xs =>
    obtain ⟨vs, h1, h2⟩ := h
    rcases h1 with ⟨o, q⟩ | h1
    · exact absurd q (hnf _ _)
    · exact ⟨vs, .inr h1, h2.ext e⟩
  | lst xs => exact Bool.noConfusion m
  | dic lk kvs => exact Bool.noConfusion m
  | ins c fs => exact Bool.noConfusion m
/-- a mutable object of the store is changed -/
theorem SRel.write {k : Nat} (r : SRel K mg T H μ S) (hk : k < S.n) (mk : isMut (S.at_ k) = true) (mo : isMut ob = true) (hnt : ∀ xs, H (μ k) ≠ some (.tup xs)) (hnf : ∀ o u, H (μ k) ≠ some (.frz o u)) (hnb : ∀ ps, H (μ k) ≠ some (.tbl ps)) (hnx : ∀ φ, H (μ k) ≠ some (.ext φ))
    (h : Ext H μ S.n (upd H (μ k) o) μ S.n → ObR K mg (upd H (μ k) o) μ S.n (μ k) ob) : SRel K mg T (upd H (μ k) o) μ (S.set k ob) ∧ Ext H μ S.n (upd H (μ k) o) μ S.n := by
  have ex : Ext H μ S.n (upd H (μ k) o) μ S.n := ⟨fun b xs q => by
      by_cases z : b = μ k
      · rw [z] at q; exact absurd q (hnt xs)
      · rw [upd_ne z]; exact q, fun b o u q => by
      by_cases z : b = μ k
      · rw [z] at q; exact absurd q (hnf o _)
      · rw [upd_ne z]; exact q, fun b u q => by
      by_cases z : b = μ k
      · rw [z] at q; exact absurd q (hnx u)
      · rw [upd_ne z]; exact q, Nat.le_refl _, fun _ _ => rfl⟩
  refine ⟨⟨fun n hn => ?_, fun n m hn hm h1 h2 e => ?_, tabs_upd r.tab hnb hnx⟩, ex⟩
  · rw [set_n] at hn ⊢
    by_cases q : n = k
    · subst q
      rw [set_same]
      exact h ex
    · rw [set_ne q]
      by_cases zz : S.at_ n = .non
      · rw [zz]; trivial
      · by_cases z : μ n = μ k
        · cases mm : isMut (S.at_ n) with
          | true => exact absurd (r.inj n k hn hk mm mk z) q
          | false => exact ro_frz (r.at_ n hn) mm zz (by rw [z]; exact hnf) ex
        · exact (r.at_ n hn).mono ex fun _ u hu => by rw [upd_ne z]; exact hu
  · have e1 : ∀ j, isMut ((S.set k ob).at_ j) = true → isMut (S.at_ j) = true := fun j hj => by
      by_cases q : j = k
      · rw [q]; exact mk
      · rw [set_ne q] at hj; exact hj
    exact r.inj n m hn hm (e1 n h1) (e1 m h2) e
end
end Q

set_option linter.all false
set_option maxRecDepth 100000
set_option maxHeartbeats 400000
namespace Q
open PySem PySem.Spec PyProof.Rows L2

abbrev MO (α : Type) := Sto → Option (α × Sto)
def lift {α : Type} (m : MO α) : M α := fun S =>
  match m S with
  | none => none
  | some (a, S') => some (.ok a, S')
/-- how an exception lies -/
def ExR (K : PySem.W.Frag) (mg : Str → Option Value) (H : Hp) (μ : Nat → Addr) (N : Nat) (c f : Str) (v : Vl) (cls : Value) (d : Option Addr) : Prop :=
  ∃ C, mg c = some (.ref C) ∧ cls = .ref C ∧ ((f = "" ∧ d = none) ∨ (f ≠ "" ∧ ∃ (dd : Addr) (w : V), d = some dd ∧ H dd = some (exd dd [(f, w)]) ∧ Rp K mg H μ N v w))
section
variable (K : PySem.W.Frag) (mg : Str → Option Value) (T : Tb)
/-- what is wanted of an outcome -/
def Pst {α β : Type} (W : Value → Option Addr → Hp → Prop) (rel : Hp → (Nat → Addr) → Nat → α → β → Prop) (H : Hp) (μ : Nat → Addr) (N : Nat) (Q : β → Hp → Prop) : Option (R α × Sto) → Prop
  | none => False
  | some (.ok v, S') => ∀ H' μ' x, Ext H μ N H' μ' S'.n → SRel K mg T H' μ' S' → rel H' μ' S'.n v x → Q x H'
  | some (.exc c f v, S') => ∀ H' μ' cls d, Ext H μ N H' μ' S'.n → SRel K mg T H' μ' S' → ExR K mg H' μ' S'.n c f v cls d → W cls d H'
def PstO {α β : Type} (rel : Hp → (Nat → Addr) → Nat → α → β → Prop) (H : Hp) (μ : Nat → Addr) (N : Nat) (Q : β → Hp → Prop) : Option (α × Sto) → Prop
  | none => False
  | some (v, S') => ∀ H' μ' x, Ext H μ N H' μ' S'.n → SRel K mg T H' μ' S' → rel H' μ' S'.n v x → Q x H'
abbrev rl : Hp → (Nat → Addr) → Nat → Vl → V → Prop := fun H μ N v x => Rp K mg H μ N v x
abbrev rls : Hp → (Nat → Addr) → Nat → List Vl → List V → Prop := fun H μ N v x => RpAll K mg H μ N v x
/-- the reading of an expression that does as f says -/
def tOf (W : WX) (f : En → M Vl) : TE := fun σ H Q => ∃ (ρ : En) (μ : Nat → Addr) (S : Sto), SRel K mg T H μ S ∧ ERel K mg H μ S.n ρ σ ∧ Pst K mg T (fun cls d H' => W cls d σ H') (rl K mg) H μ S.n Q (f ρ S)
def tOfA (W : WX) (f : En → M (List Vl)) : TA := fun σ H Q => ∃ (ρ : En) (μ : Nat → Addr) (S : Sto), SRel K mg T H μ S ∧ ERel K mg H μ S.n ρ σ ∧ Pst K mg T (fun cls d H' => W cls d σ H') (rls K mg) H μ S.n Q (f ρ S)
/-- a test -/
def tOfT (W : WX) (f : En → M Bool) : TT := fun σ H Q => ∃ (ρ : En) (μ : Nat → Addr) (S : Sto), SRel K mg T H μ S ∧ ERel K mg H μ S.n ρ σ ∧ Pst K mg T (fun cls d H' => W cls d σ H') (fun _ _ _ (a b : Bool) => a = b) H μ S.n Q (f ρ S)
/-- a statement -/
def PstS (W : WX) (H : Hp) (μ : Nat → Addr) (N : Nat) (D : Ends) : Option (Fl × En × Sto) → Prop
  | none => False
  | some (.nx, ρ', S') => ∀ H' μ' σ', Ext H μ N H' μ' S'.n → SRel K mg T H' μ' S' → ERel K mg H' μ' S'.n ρ' σ' → D.nx σ' H'
  | some (.bk, ρ', S') => ∀ H' μ' σ', Ext H μ N H' μ' S'.n → SRel K mg T H' μ' S' → ERel K mg H' μ' S'.n ρ' σ' → D.bk σ' H'
  | some (.ct, ρ', S') => ∀ H' μ' σ', Ext H μ N H' μ' S'.n → SRel K mg T H' μ' S' → ERel K mg H' μ' S'.n ρ' σ' → D.ct σ' H'
  | some (.rt v, _, S') => ∀ H' μ' x, Ext H μ N H' μ' S'.n → SRel K mg T H' μ' S' → Rp K mg H' μ' S'.n v x → D.rt x H'
  | some (.ex c f v, ρ', S') => ∀ H' μ' σ' cls d, Ext H μ N H' μ' S'.n → SRel K mg T H' μ' S' → ERel K mg H' μ' S'.n ρ' σ' → ExR K mg H' μ' S'.n c f v cls d → W cls d σ' H'
def tOfS (W : WX) (f : MS) : TS := fun D σ H => ∃ (ρ : En) (μ : Nat → Addr) (S : Sto), SRel K mg T H μ S ∧ ERel K mg H μ S.n ρ σ ∧ PstS K mg T W H μ S.n D (f ρ S)
/-- a target -/
def tOfG (g : Vl → En → MO En) : TG := fun x σ H Q => ∃ (ρ : En) (μ : Nat → Addr) (S : Sto) (v : Vl), SRel K mg T H μ S ∧ ERel K mg H μ S.n ρ σ ∧ Rp K mg H μ S.n v x ∧ PstO K mg T (fun H' μ' N' ρ' σ' => ERel K mg H' μ' N' ρ' σ') H μ S.n Q (g v ρ S)
end

abbrev SE (X : Cx) (T : Tb) (W : WX) (e : Expr) (f : En → M Vl) : Prop := PE X e (tOf X.K X.mg T W f)
abbrev SA (X : Cx) (T : Tb) (W : WX) (es : List Expr) (f : En → M (List Vl)) : Prop := PA X es (tOfA X.K X.mg T W f)
abbrev ST (X : Cx) (T : Tb) (W : WX) (e : Expr) (f : En → M Bool) : Prop := PT X e (tOfT X.K X.mg T W f)
abbrev SS (X : Cx) (T : Tb) (W : WX) (s : Stmt) (f : MS) : Prop := PS X s (tOfS X.K X.mg T W f)
abbrev SSs (X : Cx) (T : Tb) (W : WX) (s : List Stmt) (f : MS) : Prop := PSs X s (tOfS X.K X.mg T W f)
abbrev SG (X : Cx) (T : Tb) (e : Expr) (g : Vl → En → MO En) : Prop := PG X e (tOfG X.K X.mg T g)
section
variable {X : Cx} {T : Tb} {W : WX}
theorem PE.imp {e : Expr} {t t' : TE} (h : PE X e t) (i : ∀ σ H Q, t' σ H Q → t σ H Q) : PE X e t' := ⟨fun pins s σ H Q I q => h.run pins s σ H Q I (i σ H Q q)⟩
theorem PT.imp {e : Expr} {t t' : TT} (h : PT X e t) (i : ∀ σ H Q, t' σ H Q → t σ H Q) : PT X e t' := ⟨fun pins s σ H Q I q => h.run pins s σ H Q I (i σ H Q q)⟩
theorem PA.imp {e : List Expr} {t t' : TA} (h : PA X e t) (i : ∀ σ H Q, t' σ H Q → t σ H Q) : PA X e t' := ⟨fun pos pins s σ H Q I q => h.run pos pins s σ H Q I (i σ H Q q)⟩
theorem PS.imp {e : Stmt} {t t' : TS} (h : PS X e t) (i : ∀ D σ H, t' D σ H → t D σ H) : PS X e t' := ⟨fun pins s σ H D I q => h.run pins s σ H D I (i D σ H q)⟩
theorem PSs.imp {e : List Stmt} {t t' : TS} (h : PSs X e t) (i : ∀ D σ H, t' D σ H → t D σ H) : PSs X e t' := ⟨fun pins s σ H D I q => h.run pins s σ H D I (i D σ H q)⟩
theorem PG.imp {e : Expr} {t t' : TG} (h : PG X e t) (i : ∀ v σ H Q, t' v σ H Q → t v σ H Q) : PG X e t' := ⟨fun pins s σ H v u Q I r q => h.run pins s σ H v u Q I r (i v σ H Q q)⟩
end

section
variable {K : PySem.W.Frag} {mg : Str → Option Value} {T : Tb}
theorem Pst.step {α β : Type} {W : Value → Option Addr → Hp → Prop} {rel : Hp → (Nat → Addr) → Nat → α → β → Prop} {H H2 : Hp} {μ μ2 : Nat → Addr} {N N2 : Nat} {Q : β → Hp → Prop} {o : Option (R α × Sto)}
    (h : Pst K mg T W rel H μ N Q o) (e : Ext H μ N H2 μ2 N2) : Pst K mg T W rel H2 μ2 N2 Q o := by
  match o, h with
  | some (.ok v, S'), h => exact fun H' μ' x e' => h H' μ' x (e.trans e')
  | some (.exc c f v, S'), h => exact fun H' μ' cls d e' => h H' μ' cls d (e.trans e')
theorem PstO.step {α β : Type} {rel : Hp → (Nat → Addr) → Nat → α → β → Prop} {H H2 : Hp} {μ μ2 : Nat → Addr} {N N2 : Nat} {Q : β → Hp → Prop} {o : Option (α × Sto)}
    (h : PstO K mg T rel H μ N Q o) (e : Ext H μ N H2 μ2 N2) : PstO K mg T rel H2 μ2 N2 Q o := by
  match o, h with
  | some (v, S'), h => exact fun H' μ' x e' => h H' μ' x (e.trans e')
theorem PstS.step {W : WX} {H H2 : Hp} {μ μ2 : Nat → Addr} {N N2 : Nat} {D : Ends} {o : Option (Fl × En × Sto)}
    (h : PstS K mg T W H μ N D o) (e : Ext H μ N H2 μ2 N2) : PstS K mg T W H2 μ2 N2 D o := by
  match o, h with
  | some (.nx, ρ', S'), h => exact fun H' μ' x e' => h H' μ' x (e.trans e')
  | some (.bk, ρ', S'), h => exact fun H' μ' x e' => h H' μ' x (e.trans e')
  | some (.ct, ρ', S'), h => exact fun H' μ' x e' => h H' μ' x (e.trans e')
  | some (.rt v, ρ', S'), h => exact fun H' μ' x e' => h H' μ' x (e.trans e')
  | some (.ex c f v, ρ', S'), h => exact fun H' μ' σ' cls d e' => h H' μ' σ' cls d (e.trans e')
/-- the outcome of a step and what follows it -/
theorem Pst.bnd_ {α β γ δ : Type} {W : Value → Option Addr → Hp → Prop} {rel : Hp → (Nat → Addr) → Nat → α → β → Prop} {rel2 : Hp → (Nat → Addr) → Nat → γ → δ → Prop} {H : Hp} {μ : Nat → Addr} {N : Nat} {Q : δ → Hp → Prop} {m : M α} {k : α → M γ} {S : Sto}
    (h : Pst K mg T W rel2 H μ N Q (bnd m k S)) {Q1 : β → Hp → Prop} (i : ∀ v S' H' μ' x, Ext H μ N H' μ' S'.n → SRel K mg T H' μ' S' → rel H' μ' S'.n v x → Pst K mg T W rel2 H' μ' S'.n Q (k v S') → Q1 x H') : Pst K mg T W rel H μ N Q1 (m S) := by
  unfold bnd at h
  cases e : m S with
  | none => rw [e] at h; exact h
  | some p =>
    obtain ⟨r, S'⟩ := p
    rw [e] at h
    cases r with
    | ok v => exact fun H' μ' x e' sr rx => i v S' H' μ' x e' sr rx (h.step e')
    | exc c f v => exact h
theorem Pst.lift_ {α β : Type} {W : Value → Option Addr → Hp → Prop} {rel : Hp → (Nat → Addr) → Nat → α → β → Prop} {H : Hp} {μ : Nat → Addr} {N : Nat} {Q : β → Hp → Prop} {m : MO α} {S : Sto}
    (h : Pst K mg T W rel H μ N Q (lift m S)) : PstO K mg T rel H μ N Q (m S) := by
  unfold lift at h
  cases e : m S with
  | none => rw [e] at h; exact h
  | some p => obtain ⟨r, S'⟩ := p; rw [e] at h; exact h
/-- nothing happened to the store -/
theorem PstO.here {α β : Type} {rel : Hp → (Nat → Addr) → Nat → α → β → Prop} {H : Hp} {μ : Nat → Addr} {Q : β → Hp → Prop} {v : α} {x : β} {S : Sto} (h : PstO K mg T rel H μ S.n Q (some (v, S))) (sr : SRel K mg T H μ S) (r : rel H μ S.n v x) : Q x H := h H μ x Ext.refl sr r
theorem Pst.here {α β : Type} {W : Value → Option Addr → Hp → Prop} {rel : Hp → (Nat → Addr) → Nat → α → β → Prop} {H : Hp} {μ : Nat → Addr} {Q : β → Hp → Prop} {v : α} {x : β} {S : Sto} (h : Pst K mg T W rel H μ S.n Q (some (.ok v, S))) (sr : SRel K mg T H μ S) (r : rel H μ S.n v x) : Q x H := h H μ x Ext.refl sr r
end

/-! ### constants and names -/
def mSlot (i : Nat) : En → M Vl := fun ρ => match ρ[i]? with
  | some (some v) => ret v
  | _ => fail
def mC (v : Vl) : En → M Vl := fun _ => ret v
section
variable {X : Cx} {T : Tb} {W : WX} {pos : Pos}
theorem se_slot (i : Nat) {x : Str} (hN : X.N[i]? = some x := by rfl) (hv : Vis X.env.scope x := by first | exact Or.inl rfl | exact Or.inr (Or.inl rfl) | exact Or.inr (Or.inr rfl)) (hd : (x == ("__debug__" : Str)) = false := by decide)
    (hcd : (x == ("__classdict__" : Str)) = false := by decide) : SE X T W (.Name x pos) (mSlot i) := by
  refine PE.imp (pe_var hN hv hd hcd) fun σ H Q h => ?_
  obtain ⟨ρ, μ, S, sr, er, h⟩ := h
  unfold mSlot at h
  cases e : ρ[i]? with
  | none => rw [e] at h; exact h.elim
  | some o =>
    cases o with
    | none => rw [e] at h; exact h.elim
    | some v =>
      rw [e] at h
      obtain ⟨x, h1, h2⟩ := er.at_ i v e
      exact ⟨x, h1, Pst.here h sr h2⟩
theorem se_int {i j} : SE X T W (.Constant (.int i) j pos) (mC (.int i)) := PE.imp pe_int fun σ H Q ⟨ρ, μ, S, sr, er, h⟩ => Pst.here (x := V.int i) h sr (.int i)
theorem se_bl {i j} : SE X T W (.Constant (.bool i) j pos) (mC (.bl i)) := PE.imp pe_bl fun σ H Q ⟨ρ, μ, S, sr, er, h⟩ => Pst.here (x := V.bl i) h sr (.bl i)
theorem se_str {i j} : SE X T W (.Constant (.str i) j pos) (mC (.str i)) := PE.imp pe_str fun σ H Q ⟨ρ, μ, S, sr, er, h⟩ => Pst.here (x := V.str i) h sr (.str i)
theorem se_non {j} : SE X T W (.Constant .none j pos) (mC .non) := PE.imp pe_non fun σ H Q ⟨ρ, μ, S, sr, er, h⟩ => Pst.here (x := V.non) h sr .non
/-- a def or a class of the module, as a value -/
theorem se_gl {x : Str} {a : Addr} (hg : Gl X x) (hm : X.mg x = some (.ref a)) (hd : (x == ("__debug__" : Str)) = false := by decide) : SE X T W (.Name x pos) (mC (.gl x)) :=
  PE.imp (pe_glob hg hm (v := .ref a) rfl hd) fun σ H Q ⟨ρ, μ, S, sr, er, h⟩ => Pst.here (x := V.ref a) h sr (.gl x a hm)
/-- a constant of the module: its value v, known to the written part -/
def Cst (K : PySem.W.Frag) (mg : Str → Option Value) (x : Str) (v : Vl) : Prop := ∃ u y, mg x = some u ∧ RelV y u ∧ ∀ H μ N, Rp K mg H μ N v y
theorem se_cst {x : Str} {v : Vl} (hg : Gl X x) (hc : Cst X.K X.mg x v) (hd : (x == ("__debug__" : Str)) = false := by decide) : SE X T W (.Name x pos) (mC v) := by
  obtain ⟨u, y, hm, r, hr⟩ := hc
  exact PE.imp (pe_glob hg hm r hd) fun σ H Q ⟨ρ, μ, S, sr, er, h⟩ => Pst.here (x := y) h sr (hr _ _ _)
end

/-! ### operators by values -/
/-- an operation on values: never raises -/
def rOf (K : PySem.W.Frag) (mg : Str → Option Value) (T : Tb) (m : Vl → Vl → MO Vl) : R2 := fun x y H Q => ∃ (μ : Nat → Addr) (S : Sto) (a b : Vl), SRel K mg T H μ S ∧ Rp K mg H μ S.n a x ∧ Rp K mg H μ S.n b y ∧ PstO K mg T (rl K mg) H μ S.n Q (m a b S)
abbrev OpS (X : Cx) (T : Tb) (f : Value → Value → Sem Value) (m : Vl → Vl → MO Vl) : Prop := OpR X f (rOf X.K X.mg T m)
def mBin (m : Vl → Vl → MO Vl) (fa fb : En → M Vl) : En → M Vl := fun ρ => bnd (fa ρ) fun x => bnd (fb ρ) fun y => lift (m x y)
section
variable {X : Cx} {T : Tb} {W : WX} {pos : Pos}
theorem tOp_of {m : Vl → Vl → MO Vl} {fa fb : En → M Vl} {σ : L2.St} {H : Hp} {Q : VK} (h : tOf X.K X.mg T W (mBin m fa fb) σ H Q) : tOp (rOf X.K X.mg T m) (tOf X.K X.mg T W fa) (tOf X.K X.mg T W fb) σ H Q := by
  obtain ⟨ρ, μ, S, sr, er, h⟩ := h
  refine ⟨ρ, μ, S, sr, er, Pst.bnd_ h fun v S1 H1 μ1 x e1 sr1 rx h1 => ?_⟩
  refine ⟨ρ, μ1, S1, sr1, er.ext e1, Pst.bnd_ h1 fun w S2 H2 μ2 y e2 sr2 ry h2 => ?_⟩
  exact ⟨μ2, S2, v, w, sr2, rx.ext e2, ry, h2.lift_⟩
theorem se_bin {a b : Expr} {op : Operator} {m : Vl → Vl → MO Vl} {fa fb : En → M Vl} (ho : OpS X T (binaryOp op) m) (ha : SE X T W a fa) (hb : SE X T W b fb) : SE X T W (.BinOp a op b pos) (mBin m fa fb) :=
  PE.imp (pe_op ho ha hb) fun σ H Q h => tOp_of h
theorem se_cmp {a b : Expr} {op : CmpOp} {m : Vl → Vl → MO Vl} {fa fb : En → M Vl} (ho : OpS X T (compareOp op) m) (ha : SE X T W a fa) (hb : SE X T W b fb) (hm : behindInMarks op b = false := by rfl) : SE X T W (.Compare a [op] [b] pos) (mBin m fa fb) :=
  PE.imp (pe_cmpR ho ha hb hm) fun σ H Q h => tOp_of h
end
end Q

set_option linter.all false
set_option maxRecDepth 100000
set_option maxHeartbeats 400000
namespace Q
open PySem PySem.Spec PyProof.Rows L2

def bAdd : Vl → Vl → MO Vl := fun a b S =>
  match a, b with
  | .int i, .int j => some (.int (i + j), S)
  | .str i, .str j => if i.length + j.length ≤ sizeLine then some (.str (i ++ j), S) else none
  | .tup xs, .tup ys => if xs.length + ys.length ≤ sizeLine then some (.tup (xs ++ ys), S) else none
  | .ref n, .ref m => match S.at_ n, S.at_ m with
    | .lst xs, .lst ys => if xs.length + ys.length ≤ sizeLine then some (.ref S.n, S.push (.lst (xs ++ ys))) else none
    | _, _ => none
  | _, _ => none
def bSub : Vl → Vl → MO Vl := fun a b S =>
  match a, b with
  | .int i, .int j => some (.int (i - j), S)
  | _, _ => none
instance (i j : Int) : Decidable (CMul i j) := by unfold CMul; infer_instance
instance (i j : Int) : Decidable (CDiv i j) := by unfold CDiv; infer_instance
instance (i j : Int) : Decidable (CPow i j) := by unfold CPow; infer_instance
def bMul : Vl → Vl → MO Vl := fun a b S =>
  match a, b with
  | .int i, .int j => if CMul i j then some (.int (i * j), S) else none
  | .ref n, .int k => match S.at_ n with
    | .lst xs => if -(2 ^ 63) ≤ k ∧ k < 2 ^ 63 ∧ xs.length * k.toNat ≤ sizeLine then some (.ref S.n, S.push (.lst (List.replicate k.toNat xs).flatten)) else none
    | _ => none
  | _, _ => none
def bDiv : Vl → Vl → MO Vl := fun a b S =>
  match a, b with
  | .int i, .int j => if CDiv i j then some (.int (i / j), S) else none
  | _, _ => none
def bMod : Vl → Vl → MO Vl := fun a b S =>
  match a, b with
  | .int i, .int j => if 0 < j then some (.int (i % j), S) else none
  | _, _ => none
def bPow : Vl → Vl → MO Vl := fun a b S =>
  match a, b with
  | .int i, .int j => if CPow i j then some (.int (i ^ j.toNat), S) else none
  | _, _ => none
def bCmp (p : Int → Int → Bool) : Vl → Vl → MO Vl := fun a b S =>
  match a, b with
  | .int i, .int j => some (.bl (p i j), S)
  | _, _ => none
section
variable {K : PySem.W.Frag} {mg : Str → Option Value} {T : Tb} {H : Hp} {μ : Nat → Addr} {S : Sto} {N : Nat}
theorem Rp.lst_at {n : Nat} {x : V} {xs : List Vl} (sr : SRel K mg T H μ S) (r : Rp K mg H μ S.n (.ref n) x) (e : S.at_ n = .lst xs) : ∃ vs, x = .ref (μ n) ∧ n < S.n ∧ H (μ n) = some (.lst vs) ∧ RpAll K mg H μ S.n xs vs := by
  cases r with
  | ref n h =>
    have q := sr.at_ n h
    rw [e] at q
    obtain ⟨vs, h1, h2⟩ := q
    exact ⟨vs, rfl, h, h1, h2⟩
theorem Rp.tup_at {x : V} {xs : List Vl} (r : Rp K mg H μ N (.tup xs) x) : ∃ a vs, x = .ref a ∧ SqT K H a vs ∧ RpAll K mg H μ N xs vs := by
  cases r with
  | tup h a => exact ⟨_, _, rfl, h, a⟩
/-- a new tuple -/
theorem fin_tup {Q : VK} {xs : List Vl} {vs : List V} (h : PstO K mg T (rl K mg) H μ S.n Q (some (.tup xs, S))) (sr : SRel K mg T H μ S) (r : RpAll K mg H μ S.n xs vs) : ∀ p, H p = none → Q (.ref p) (upd H p (.tup vs)) := fun p hp =>
  h _ μ _ (ext_upd hp _) (sr.laid hp) (.tup (.inl (.inl upd_same)) (r.ext (ext_upd hp _)))
/-- a new list -/
theorem fin_lst {Q : VK} {xs : List Vl} {vs : List V} (h : PstO K mg T (rl K mg) H μ S.n Q (some (.ref S.n, S.push (.lst xs)))) (sr : SRel K mg T H μ S) (r : RpAll K mg H μ S.n xs vs) : ∀ p, H p = none → Q (.ref p) (upd H p (.lst vs)) := fun p hp => by
  have e := ext_new (μ := μ) (o := .lst vs) hp S.n (S.n + 1) (Nat.le_succ _)
  refine h _ (mu1 μ S.n p) _ e (sr.push hp ⟨vs, upd_same, r.ext e⟩) ?_
  have := Rp.ref (K := K) (mg := mg) (H := upd H p (.lst vs)) (μ := mu1 μ S.n p) (N := S.n + 1) S.n (Nat.lt_succ_self _)
  rw [mu1_same] at this
  exact this
end
theorem RpAll.nil_iff {K : PySem.W.Frag} {mg : Str → Option Value} {H : Hp} {μ : Nat → Addr} {N : Nat} {xs : List Vl} {vs : List V} (h : RpAll K mg H μ N xs vs) : vs = [] ↔ xs = [] := by
  cases h <;> simp
theorem RpAll.rep {K : PySem.W.Frag} {mg : Str → Option Value} {H : Hp} {μ : Nat → Addr} {N : Nat} {xs : List Vl} {vs : List V} (h : RpAll K mg H μ N xs vs) : ∀ k, RpAll K mg H μ N (List.replicate k xs).flatten (List.replicate k vs).flatten
  | 0 => .nil
  | k + 1 => by rw [List.replicate_succ, List.replicate_succ, List.flatten_cons, List.flatten_cons]; exact h.append (RpAll.rep h k)
section
variable {X : Cx} {T : Tb}
theorem os_add : OpS X T (binaryOp .Add) bAdd := by
  intro pins s σ H x y v u Q I rx ry h
  obtain ⟨μ, S, a, b, sr, ra, rb, h⟩ := h
  cases a with
  | int i =>
    cases b with
    | int j => cases ra; cases rb; exact op_add pins s σ H _ _ v u Q I rx ry ⟨i, j, rfl, rfl, h.here sr (.int _)⟩
    | _ => exact h.elim
  | str i =>
    cases b with
    | str j =>
      cases ra; cases rb
      have h : PstO X.K X.mg T (rl X.K X.mg) H μ S.n Q (if i.length + j.length ≤ sizeLine then some (.str (i ++ j), S) else none) := h
      by_cases hz : i.length + j.length ≤ sizeLine
      · rw [if_pos hz] at h
        exact op_add_str pins s σ H _ _ v u Q I rx ry ⟨i, j, rfl, rfl, hz, h.here sr (.str _)⟩
      · rw [if_neg hz] at h; exact h.elim
    | _ => exact h.elim
  | tup xs =>
    cases b with
    | tup ys =>
      obtain ⟨a, vs, rfl, ha, ra⟩ := ra.tup_at
      obtain ⟨b, ws, rfl, hb, rb⟩ := rb.tup_at
      have h : PstO X.K X.mg T (rl X.K X.mg) H μ S.n Q (if xs.length + ys.length ≤ sizeLine then some (.tup (xs ++ ys), S) else none) := h
      by_cases hz : xs.length + ys.length ≤ sizeLine
      · rw [if_pos hz] at h
        refine op_catA pins s σ H _ _ v u Q I rx ry ⟨a, b, vs, ws, rfl, rfl, ha, hb, by rw [← ra.length, ← rb.length]; exact hz, fun e => ?_, fun e1 e2 => ?_, fun _ _ => fin_tup h sr (ra.append rb)⟩
        · rw [ra.nil_iff] at e; subst e
          exact h.here sr (.tup hb rb)
        · rw [rb.nil_iff] at e2; subst e2
          rw [List.append_nil] at h
          exact h.here sr (.tup ha ra)
      · rw [if_neg hz] at h; exact h.elim
    | _ => exact h.elim
  | ref n =>
    cases b with
    | ref m =>
      cases e1 : S.at_ n with
      | lst xs =>
        cases e2 : S.at_ m with
        | lst ys =>
          have h : PstO X.K X.mg T (rl X.K X.mg) H μ S.n Q (match S.at_ n, S.at_ m with
            | .lst xs, .lst ys => if xs.length + ys.length ≤ sizeLine then some (.ref S.n, S.push (.lst (xs ++ ys))) else none
            | _, _ => none) := h
          rw [e1, e2] at h
          have h : PstO X.K X.mg T (rl X.K X.mg) H μ S.n Q (if xs.length + ys.length ≤ sizeLine then some (.ref S.n, S.push (.lst (xs ++ ys))) else none) := h
          obtain ⟨vs, rfl, hn, h1, r1⟩ := ra.lst_at sr e1
          obtain ⟨ws, rfl, hm, h2, r2⟩ := rb.lst_at sr e2
          by_cases hz : xs.length + ys.length ≤ sizeLine
          · rw [if_pos hz] at h
            exact op_cat pins s σ H _ _ v u Q I rx ry ⟨_, _, vs, ws, rfl, rfl, h1, h2, by rw [← r1.length, ← r2.length]; exact hz, fin_lst h sr (r1.append r2)⟩
          · rw [if_neg hz] at h; exact h.elim
        | _ => simp only [bAdd, e1, e2] at h; exact h.elim
      | _ => simp only [bAdd, e1] at h; exact h.elim
    | _ => exact h.elim
  | _ => exact h.elim
theorem os_sub : OpS X T (binaryOp .Sub) bSub := by
  intro pins s σ H x y v u Q I rx ry h
  obtain ⟨μ, S, a, b, sr, ra, rb, h⟩ := h
  cases a with
  | int i =>
    cases b with
    | int j => cases ra; cases rb; exact op_sub pins s σ H _ _ v u Q I rx ry ⟨i, j, rfl, rfl, h.here sr (.int _)⟩
    | _ => exact h.elim
  | _ => exact h.elim
theorem os_int {f : Value → Value → Sem Value} {C : Int → Int → Prop} [∀ i j, Decidable (C i j)] {g : Int → Int → Int} {m : Vl → Vl → MO Vl} (ho : OpR X f (rI C fun i j => .int (g i j)))
    (hm : ∀ a b S, m a b S = match a, b with | .int i, .int j => if C i j then some (.int (g i j), S) else none | _, _ => none) : OpS X T f m := by
  intro pins s σ H x y v u Q I rx ry h
  obtain ⟨μ, S, a, b, sr, ra, rb, h⟩ := h
  rw [hm] at h
  cases a with
  | int i =>
    cases b with
    | int j =>
      cases ra; cases rb
      have h : PstO X.K X.mg T (rl X.K X.mg) H μ S.n Q (if C i j then some (.int (g i j), S) else none) := h
      by_cases hz : C i j
      · rw [if_pos hz] at h
        exact ho pins s σ H _ _ v u Q I rx ry ⟨i, j, rfl, rfl, hz, h.here sr (.int _)⟩
      · rw [if_neg hz] at h; exact h.elim
    | _ => exact h.elim
  | _ => exact h.elim
theorem os_div : OpS X T (binaryOp .FloorDiv) bDiv := os_int op_fdiv fun a b S => by cases a <;> first | rfl | (cases b <;> rfl)
theorem os_mod : OpS X T (binaryOp .Mod) bMod := os_int op_mod fun a b S => by cases a <;> first | rfl | (cases b <;> rfl)
theorem os_pow : OpS X T (binaryOp .Pow) bPow := os_int op_pow fun a b S => by cases a <;> first | rfl | (cases b <;> rfl)
theorem os_mul : OpS X T (binaryOp .Mult) bMul := by
  intro pins s σ H x y v u Q I rx ry h
  obtain ⟨μ, S, a, b, sr, ra, rb, h⟩ := h
  cases a with
  | int i =>
    cases b with
    | int j =>
      cases ra; cases rb
      have h : PstO X.K X.mg T (rl X.K X.mg) H μ S.n Q (if CMul i j then some (.int (i * j), S) else none) := h
      by_cases hz : CMul i j
      · rw [if_pos hz] at h
        exact op_mul pins s σ H _ _ v u Q I rx ry ⟨i, j, rfl, rfl, hz, h.here sr (.int _)⟩
      · rw [if_neg hz] at h; exact h.elim
    | _ => exact h.elim
  | ref n =>
    cases b with
    | int k =>
      cases rb
      cases e1 : S.at_ n with
      | lst xs =>
        have h : PstO X.K X.mg T (rl X.K X.mg) H μ S.n Q (match S.at_ n with
          | .lst xs => if -(2 ^ 63) ≤ k ∧ k < 2 ^ 63 ∧ xs.length * k.toNat ≤ sizeLine then some (.ref S.n, S.push (.lst (List.replicate k.toNat xs).flatten)) else none
          | _ => none) := h
        rw [e1] at h
        have h : PstO X.K X.mg T (rl X.K X.mg) H μ S.n Q (if -(2 ^ 63) ≤ k ∧ k < 2 ^ 63 ∧ xs.length * k.toNat ≤ sizeLine then some (.ref S.n, S.push (.lst (List.replicate k.toNat xs).flatten)) else none) := h
        obtain ⟨vs, rfl, hn, h1, r1⟩ := ra.lst_at sr e1
        by_cases hz : -(2 ^ 63) ≤ k ∧ k < 2 ^ 63 ∧ xs.length * k.toNat ≤ sizeLine
        · rw [if_pos hz] at h
          exact op_rep pins s σ H _ _ v u Q I rx ry ⟨_, k, vs, rfl, rfl, h1, hz.1, hz.2.1, by rw [← r1.length]; exact hz.2.2, fin_lst h sr (r1.rep _)⟩
        · rw [if_neg hz] at h; exact h.elim
      | _ => simp only [bMul, e1] at h; exact h.elim
    | _ => exact h.elim
  | _ => exact h.elim
theorem os_cmp {f : Value → Value → Sem Value} {p : Int → Int → Bool} (ho : OpR X f (rI0 fun i j => .bl (p i j))) : OpS X T f (bCmp p) := by
  intro pins s σ H x y v u Q I rx ry h
  obtain ⟨μ, S, a, b, sr, ra, rb, h⟩ := h
  cases a with
  | int i =>
    cases b with
    | int j => cases ra; cases rb; exact ho pins s σ H _ _ v u Q I rx ry ⟨i, j, rfl, rfl, h.here sr (.bl _)⟩
    | _ => exact h.elim
  | _ => exact h.elim
abbrev bLt := bCmp fun i j => decide (i < j)
abbrev bLe := bCmp fun i j => decide (i ≤ j)
abbrev bGt := bCmp fun i j => decide (j < i)
abbrev bGe := bCmp fun i j => decide (j ≤ i)
theorem os_lt : OpS X T (compareOp .Lt) bLt := os_cmp op_lt
theorem os_le : OpS X T (compareOp .LtE) bLe := os_cmp op_le
theorem os_ge : OpS X T (compareOp .GtE) bGe := os_cmp op_ge
end

end Q

set_option linter.all false
set_option maxRecDepth 100000
set_option maxHeartbeats 400000
namespace Q
open PySem PySem.Spec PyProof.Rows L2

/-! ### == of data -/
mutual
/-- a value as data, lists by lk -/
def toDW (lk : Nat → Option PyData) : Vl → Option PyData
  | .non => some .none
  | .bl b => some (.bool b)
  | .int i => some (.int i)
  | .str s => some (.str s)
  | .tup xs => (toDWs lk xs).map .tuple
  | .ref n => lk n
  | .gl _ => none
  | .ty _ => none
  | .exc _ _ _ => none
def toDWs (lk : Nat → Option PyData) : List Vl → Option (List PyData)
  | [] => some []
  | x :: xs => match toDW lk x, toDWs lk xs with
    | some d, some ds => some (d :: ds)
    | _, _ => none
end
def lkN (S : Sto) : Nat → Nat → Option PyData
  | 0, _ => none
  | d + 1, n => match S.at_ n with
    | .lst xs => (toDWs (lkN S d) xs).map .list
    | .ro xs => (toDWs (lkN S d) xs).map .list
    | _ => none
def toD (S : Sto) : Vl → Option PyData := toDW (lkN S 6)
section
variable {K : PySem.W.Frag} {mg : Str → Option Value} {T : Tb} {H : Hp} {μ : Nat → Addr} {S : Sto} {N : Nat}
/-- a list that is read -/
def getR (S : Sto) (n : Nat) : Option (List Vl) := match S.at_ n with
  | .lst xs => some xs
  | .ro xs => some xs
  | _ => none
theorem Rp.read_at {n : Nat} {x : V} {xs : List Vl} (sr : SRel K mg T H μ S) (r : Rp K mg H μ S.n (.ref n) x) (e : getR S n = some xs) : ∃ vs, x = .ref (μ n) ∧ SqL K H (μ n) vs ∧ RpAll K mg H μ S.n xs vs := by
  cases r with
  | ref n h =>
    have q := sr.at_ n h
    unfold getR at e
    cases e1 : S.at_ n with
    | lst ys =>
      rw [e1] at e q
      cases e
      obtain ⟨vs, h1, h2⟩ := q
      exact ⟨vs, rfl, .inl (.inl h1), h2⟩
    | ro ys =>
      rw [e1] at e q
      cases e
      obtain ⟨vs, h1, h2⟩ := q
      refine ⟨vs, rfl, ?_, h2⟩
      rcases h1 with ⟨o, q⟩ | q
      · exact .inl (.inr ⟨o, q⟩)
      · exact .inr q
    | _ => rw [e1] at e; cases e
mutual
theorem Dp_of (lk : Nat → Option PyData) (hlk : ∀ n x d, Rp K mg H μ N (.ref n) x → lk n = some d → Dp K H x d) : ∀ {a : Vl} {x : V} {d : PyData}, Rp K mg H μ N a x → toDW lk a = some d → Dp K H x d
  | .non, _, _, r, e => by cases r; cases e; exact .non
  | .bl b, _, _, r, e => by cases r; cases e; exact .bl b
  | .int b, _, _, r, e => by cases r; cases e; exact .int b
  | .str b, _, _, r, e => by cases r; cases e; exact .str b
  | .tup xs, _, _, r, e => by
    cases r with
    | tup h a =>
      unfold toDW at e
      cases q : toDWs lk xs with
      | none => rw [q] at e; cases e
      | some ds => rw [q] at e; cases e; exact .tup h (DpAll_of lk hlk a q)
  | .ref n, _, _, r, e => by unfold toDW at e; exact hlk n _ _ r e
  | .gl _, _, _, _, e => by cases e
  | .ty _, _, _, _, e => by cases e
  | .exc _ _ _, _, _, _, e => by cases e
theorem DpAll_of (lk : Nat → Option PyData) (hlk : ∀ n x d, Rp K mg H μ N (.ref n) x → lk n = some d → Dp K H x d) : ∀ {a : List Vl} {x : List V} {d : List PyData}, RpAll K mg H μ N a x → toDWs lk a = some d → DpAll K H x d
  | [], _, _, r, e => by cases r; cases e; exact .nil
  | y :: ys, _, _, r, e => by
    cases r with
    | cons r1 r2 =>
      unfold toDWs at e
      cases q1 : toDW lk y with
      | none => rw [q1] at e; cases e
      | some d =>
        cases q2 : toDWs lk ys with
        | none => rw [q1, q2] at e; cases e
        | some ds => rw [q1, q2] at e; cases e; exact .cons (Dp_of lk hlk r1 q1) (DpAll_of lk hlk r2 q2)
end
theorem Dp_lk (sr : SRel K mg T H μ S) : ∀ (k n : Nat) (x : V) (d : PyData), Rp K mg H μ S.n (.ref n) x → lkN S k n = some d → Dp K H x d
  | 0, _, _, _, _, e => by cases e
  | k + 1, n, x, d, r, e => by
    cases e1 : S.at_ n with
    | lst xs =>
      have g : getR S n = some xs := by unfold getR; rw [e1]
      unfold lkN at e
      rw [e1] at e
      obtain ⟨vs, rfl, h1, h2⟩ := r.read_at sr g
      cases q : toDWs (lkN S k) xs with
      | none => simp only [q] at e; cases e
      | some ds => simp only [q] at e; cases e; exact .lst h1 (DpAll_of _ (Dp_lk sr k) h2 q)
    | ro xs =>
      have g : getR S n = some xs := by unfold getR; rw [e1]
      unfold lkN at e
      rw [e1] at e
      obtain ⟨vs, rfl, h1, h2⟩ := r.read_at sr g
      cases q : toDWs (lkN S k) xs with
      | none => simp only [q] at e; cases e
      | some ds => simp only [q] at e; cases e; exact .lst h1 (DpAll_of _ (Dp_lk sr k) h2 q)
    | _ => unfold lkN at e; rw [e1] at e; cases e
theorem Dp_toD (sr : SRel K mg T H μ S) {a : Vl} {x : V} {d : PyData} (r : Rp K mg H μ S.n a x) (e : toD S a = some d) : Dp K H x d := Dp_of _ (Dp_lk sr 6) r e
end
def bEqD (neg : Bool) : Vl → Vl → MO Vl := fun a b S =>
  match toD S a, toD S b with
  | some d, some e => if (d.canLay0 && e.canLay0 && decide (min d.depth e.depth ≤ 190)) = true then some (.bl (if neg then !(PyData.eqv d e) else PyData.eqv d e), S) else none
  | _, _ => none
def bEqW (neg : Bool) : Vl → Vl → MO Vl
  | .str x, .str y => fun S => some (.bl (if neg then !(decide (x = y)) else decide (x = y)), S)
  | a, b => bEqD neg a b
abbrev bEq := bEqW false
abbrev bNe := bEqW true
section
variable {X : Cx} {T : Tb}
theorem bEqW_eq {neg : Bool} {a b : Vl} : (∃ x y, a = .str x ∧ b = .str y) ∨ bEqW neg a b = bEqD neg a b := by
  cases a with
  | str x => cases b with
    | str y => exact .inl ⟨x, y, rfl, rfl⟩
    | _ => exact .inr rfl
  | _ => exact .inr rfl
theorem os_eqW {op : CmpOp} {neg : Bool} (hs : OpR X (compareOp op) fun x y H Q => ∃ a b, x = .str a ∧ y = .str b ∧ Q (.bl (if neg then !(decide (a = b)) else decide (a = b))) H)
    (ho : ∀ {s : Shared} {v u : Value} {d e : PyData} {as bs : List Addr} {Q : Value → Shared → Prop}, Reads s.heap v d as → Reads s.heap u e bs → d.canLay0 = true → e.canLay0 = true → X.A.units + min d.depth e.depth < cLine → Q (.bool (if neg then !(PyData.eqv d e) else PyData.eqv d e)) s → wpAny (model X.prog X.w) X.A (compareOp op v u) Q X.xe s)
    (hu : X.A.units + 190 < cLine) : OpS X T (compareOp op) (bEqW neg) := by
  intro pins s σ H x y v u Q I rx ry h
  obtain ⟨μ, S, a, b, sr, ra, rb, h⟩ := h
  rcases bEqW_eq (neg := neg) (a := a) (b := b) with ⟨p, q, rfl, rfl⟩ | e0
  · cases ra; cases rb
    exact hs pins s σ H _ _ v u Q I rx ry ⟨p, q, rfl, rfl, PstO.here (show PstO X.K X.mg T (rl X.K X.mg) H μ S.n Q (some (.bl _, S)) from h) sr (.bl _)⟩
  rw [e0] at h
  unfold bEqD at h
  cases q1 : toD S a with
  | none => rw [q1] at h; exact h.elim
  | some d =>
    cases q2 : toD S b with
    | none => rw [q1, q2] at h; exact h.elim
    | some e =>
      simp only [q1, q2] at h
      by_cases hz : (d.canLay0 && e.canLay0 && decide (min d.depth e.depth ≤ 190)) = true
      · rw [if_pos hz] at h
        simp only [Bool.and_eq_true, decide_eq_true_eq] at hz
        obtain ⟨as, r1⟩ := Dp.reads I d x v (Dp_toD sr ra q1) rx
        obtain ⟨bs, r2⟩ := Dp.reads I e y u (Dp_toD sr rb q2) ry
        exact ho r1 r2 hz.1.1 hz.1.2 (by omega) ⟨.bl _, H, I, rfl, h.here sr (.bl _)⟩
      · rw [if_neg hz] at h; exact h.elim
theorem dec_str {a b : Str} : decide (V.str a = V.str b) = decide (a = b) := by
  rw [Bool.eq_iff_iff]; simp
theorem os_eq (hu : X.A.units + 190 < cLine) : OpS X T (compareOp .Eq) bEq := os_eqW
  (fun pins s σ H x y v u Q I rx ry ⟨a, b, e1, e2, q⟩ => op_eq pins s σ H x y v u Q I rx ry ⟨by rw [e1, e2]; rfl, by rw [e1, e2, dec_str]; exact q⟩)
  (fun r1 r2 h1 h2 h3 q => SeqAt.compareEq_reads r1 r2 h1 h2 h3 q) hu
theorem os_ne (hu : X.A.units + 190 < cLine) : OpS X T (compareOp .NotEq) bNe := os_eqW
  (fun pins s σ H x y v u Q I rx ry ⟨a, b, e1, e2, q⟩ => op_ne pins s σ H x y v u Q I rx ry ⟨by rw [e1, e2]; rfl, by rw [e1, e2, dec_str]; exact q⟩)
  (fun r1 r2 h1 h2 h3 q => SeqAt.compareNe_reads r1 r2 h1 h2 h3 q) hu
end

/-! ### is None, is True, is False -/
def isNon : Vl → Bool
  | .non => true
  | _ => false
def bIs (neg : Bool) : Vl → Vl → MO Vl := fun a b S =>
  match b with
  | .non => some (.bl (if neg then !(isNon a) else isNon a), S)
  | .bl y => match a with
    | .bl x => some (.bl (if neg then !(decide (x = y)) else decide (x = y)), S)
    | _ => none
  | _ => none
section
variable {X : Cx} {T : Tb}
theorem Rp.non_iff {K : PySem.W.Frag} {mg : Str → Option Value} {H : Hp} {μ : Nat → Addr} {N : Nat} {a : Vl} {x : V} (r : Rp K mg H μ N a x) : decide (x = .non) = isNon a := by
  cases r <;> simp [isNon]
theorem os_is : OpS X T (compareOp .Is) (bIs false) := by
  intro pins s σ H x y v u Q I rx ry h
  obtain ⟨μ, S, a, b, sr, ra, rb, h⟩ := h
  cases b with
  | non =>
    cases rb
    refine op_isN pins s σ H _ _ v u Q I rx ry ⟨rfl, ?_⟩
    rw [ra.non_iff]
    exact PstO.here (v := Vl.bl (isNon a)) (S := S) (rel := rl X.K X.mg) h sr (.bl _)
  | bl y =>
    cases rb
    cases a with
    | bl x => cases ra; exact op_isBl pins s σ H _ _ v u Q I rx ry ⟨_, _, rfl, rfl, h.here sr (.bl _)⟩
    | _ => exact h.elim
  | _ => exact h.elim
end

/-! ### subscripts -/
def bIdx : Vl → Vl → MO Vl := fun a b S =>
  match b with
  | .int i => match a with
    | .tup xs => match atI xs i with
      | some v => some (v, S)
      | none => none
    | .ref n => match getR S n with
      | some xs => match atI xs i with
        | some v => some (v, S)
        | none => none
      | none => none
    | .str z => if z.length ≤ sizeLine then match atI z.cps.toList i with
        | some c => some (.str ⟨#[c]⟩, S)
        | none => none
      else none
    | _ => none
  | _ => none
theorem atI_rel {K : PySem.W.Frag} {mg : Str → Option Value} {H : Hp} {μ : Nat → Addr} {N : Nat} {xs : List Vl} {vs : List V} {i : Int} {x : Vl} (r : RpAll K mg H μ N xs vs) (h : atI xs i = some x) : ∃ v, atI vs i = some v ∧ Rp K mg H μ N x v := by
  unfold atI at h ⊢
  rw [← r.length]
  cases q : ixN xs.length i with
  | none => rw [q] at h; cases h
  | some j => rw [q] at h; exact r.get (i := j) h
end Q

set_option linter.all false
set_option maxRecDepth 100000
set_option maxHeartbeats 400000
namespace Q
open PySem PySem.Spec PyProof.Rows L2

/-! ### arguments, displays -/
def mNil : En → M (List Vl) := fun _ => ret []
def mCons (f : En → M Vl) (g : En → M (List Vl)) : En → M (List Vl) := fun ρ => bnd (f ρ) fun x => bnd (g ρ) fun xs => ret (x :: xs)
def mTup (g : En → M (List Vl)) : En → M Vl := fun ρ => bnd (g ρ) fun xs => lift fun S => if xs.length ≤ sizeLine then some (.tup xs, S) else none
def mLst (g : En → M (List Vl)) : En → M Vl := fun ρ => bnd (g ρ) fun xs => lift fun S => if xs.length ≤ sizeLine then some (.ref S.n, S.push (.lst xs)) else none
section
variable {X : Cx} {T : Tb} {W : WX} {pos : Pos}
theorem sa_nil : SA X T W [] mNil := PA.imp pa_nil fun σ H Q ⟨ρ, μ, S, sr, er, h⟩ => Pst.here (x := []) h sr .nil
theorem sa_cons {e : Expr} {es : List Expr} {f : En → M Vl} {g : En → M (List Vl)} (ha : SE X T W e f) (hr : SA X T W es g) (hs : starEach (e :: es) X.env = (false, eval e X.env) :: starEach es X.env := by rfl) : SA X T W (e :: es) (mCons f g) := by
  refine PA.imp (pa_cons ha hr hs) fun σ H Q h => ?_
  obtain ⟨ρ, μ, S, sr, er, h⟩ := h
  refine ⟨ρ, μ, S, sr, er, Pst.bnd_ h fun v S1 H1 μ1 x e1 sr1 rx h1 => ?_⟩
  refine ⟨ρ, μ1, S1, sr1, er.ext e1, Pst.bnd_ h1 fun w S2 H2 μ2 y e2 sr2 ry h2 => ?_⟩
  exact Pst.here h2 sr2 (.cons (rx.ext e2) ry)
theorem se_tup {es : List Expr} {k} {g : En → M (List Vl)} (h : SA X T W es g) : SE X T W (.Tuple es k pos) (mTup g) := by
  refine PE.imp (pe_tup h) fun σ H Q h => ?_
  obtain ⟨ρ, μ, S, sr, er, h⟩ := h
  refine ⟨ρ, μ, S, sr, er, Pst.bnd_ h fun v S1 H1 μ1 x e1 sr1 rx h1 => ?_⟩
  have h1 := h1.lift_
  by_cases hz : v.length ≤ sizeLine
  · rw [if_pos hz] at h1
    exact ⟨by rw [← RpAll.length rx]; exact hz, fin_tup h1 sr1 rx⟩
  · rw [if_neg hz] at h1; exact h1.elim
theorem se_lst {es : List Expr} {g : En → M (List Vl)} (h : SA X T W es g) : SE X T W (.List es pos) (mLst g) := by
  refine PE.imp (pe_lst h) fun σ H Q h => ?_
  obtain ⟨ρ, μ, S, sr, er, h⟩ := h
  refine ⟨ρ, μ, S, sr, er, Pst.bnd_ h fun v S1 H1 μ1 x e1 sr1 rx h1 => ?_⟩
  have h1 := h1.lift_
  by_cases hz : v.length ≤ sizeLine
  · rw [if_pos hz] at h1
    exact ⟨by rw [← RpAll.length rx]; exact hz, fin_lst h1 sr1 rx⟩
  · rw [if_neg hz] at h1; exact h1.elim
end

/-! ### tests -/
def mTst (f : En → M Vl) : En → M Bool := fun ρ => bnd (f ρ) fun v => match v with | .bl b => ret b | _ => fail
def mAnd (f g : En → M Bool) : En → M Bool := fun ρ => bnd (f ρ) fun b => if b = true then g ρ else ret false
def mOr (f g : En → M Bool) : En → M Bool := fun ρ => bnd (f ρ) fun b => if b = true then ret true else g ρ
def mNot (f : En → M Bool) : En → M Bool := fun ρ => bnd (f ρ) fun b => ret (!b)
def mIte (c : En → M Bool) (f g : En → M Vl) : En → M Vl := fun ρ => bnd (c ρ) fun b => if b = true then f ρ else g ρ
/-- values, by truth values -/
def mAndV (f g : En → M Vl) : En → M Vl := fun ρ => bnd (f ρ) fun v => match v with | .bl b => if b = true then g ρ else ret (.bl false) | _ => fail
def mOrV (f g : En → M Vl) : En → M Vl := fun ρ => bnd (f ρ) fun v => match v with | .bl b => if b = true then ret (.bl true) else g ρ | _ => fail
def mNotV (f : En → M Vl) : En → M Vl := fun ρ => bnd (f ρ) fun v => match v with | .bl b => ret (.bl (!b)) | _ => fail
abbrev STw (X : Cx) (T : Tb) (W : WX) (e : Expr) (f : En → M Bool) : Prop := PW X e (tOfT X.K X.mg T W f)
theorem PW.imp {X : Cx} {e : Expr} {t t' : TT} (h : PW X e t) (i : ∀ σ H Q, t' σ H Q → t σ H Q) : PW X e t' := ⟨fun wh pins s σ H Q I q => h.run wh pins s σ H Q I (i σ H Q q)⟩
section
variable {X : Cx} {T : Tb} {W : WX} {pos : Pos}
theorem tB_of {f : En → M Vl} {σ : L2.St} {H : Hp} {Q : Bool → Hp → Prop} (h : tOfT X.K X.mg T W (mTst f) σ H Q) : tB (tOf X.K X.mg T W f) σ H Q := by
  obtain ⟨ρ, μ, S, sr, er, h⟩ := h
  refine ⟨ρ, μ, S, sr, er, Pst.bnd_ h fun v S1 H1 μ1 x e1 sr1 rx h1 => ?_⟩
  cases v with
  | bl b => cases rx; exact ⟨b, rfl, Pst.here h1 sr1 rfl⟩
  | _ => exact h1.elim
/-- an expression whose value is a bool, as a test -/
theorem st_val {e : Expr} {f : En → M Vl} (h : SE X T W e f) (he : ∀ whole, isTrue e X.env whole = (do let v ← whole; standAt e.pos; holding [v] (truthy v)) := by intro _; rfl) : ST X T W e (mTst f) :=
  PT.imp (pt_val h he) fun σ H Q h => tB_of h
theorem st_cmp {a b : Expr} {op : CmpOp} {m : Vl → Vl → MO Vl} {fa fb : En → M Vl} (ho : OpS X T (compareOp op) m) (ha : SE X T W a fa) (hb : SE X T W b fb) (hm : behindInMarks op b = false := by rfl) : ST X T W (.Compare a [op] [b] pos) (mTst (mBin m fa fb)) := by
  refine PT.imp (pt_cmpR ho ha hb hm) fun σ H Q h => ?_
  have h2 := tB_of h
  exact tOp_of h2
theorem tAnd_of {f g : En → M Bool} {σ : L2.St} {H : Hp} {Q : Bool → Hp → Prop} (h : tOfT X.K X.mg T W (mAnd f g) σ H Q) : tAnd (tOfT X.K X.mg T W f) (tOfT X.K X.mg T W g) σ H Q := by
  obtain ⟨ρ, μ, S, sr, er, h⟩ := h
  refine ⟨ρ, μ, S, sr, er, Pst.bnd_ h fun v S1 H1 μ1 x e1 sr1 rx h1 => ?_⟩
  have rx : v = x := rx
  subst rx
  cases v with
  | true => exact ⟨ρ, μ1, S1, sr1, er.ext e1, h1⟩
  | false => exact Pst.here h1 sr1 rfl
theorem tOr_of {f g : En → M Bool} {σ : L2.St} {H : Hp} {Q : Bool → Hp → Prop} (h : tOfT X.K X.mg T W (mOr f g) σ H Q) : tOr (tOfT X.K X.mg T W f) (tOfT X.K X.mg T W g) σ H Q := by
  obtain ⟨ρ, μ, S, sr, er, h⟩ := h
  refine ⟨ρ, μ, S, sr, er, Pst.bnd_ h fun v S1 H1 μ1 x e1 sr1 rx h1 => ?_⟩
  have rx : v = x := rx
  subst rx
  cases v with
  | true => exact Pst.here h1 sr1 rfl
  | false => exact ⟨ρ, μ1, S1, sr1, er.ext e1, h1⟩
theorem sw_and1 {a : Expr} {f : En → M Bool} (ha : ST X T W a f) : STw X T W (.BoolOp .And [a] pos) f := pw_and1 ha
theorem sw_or1 {a : Expr} {f : En → M Bool} (ha : ST X T W a f) : STw X T W (.BoolOp .Or [a] pos) f := pw_or1 ha
theorem sw_and {a b : Expr} {rest : List Expr} {f g : En → M Bool} (ha : ST X T W a f) (hb : STw X T W (.BoolOp .And (b :: rest) pos) g) : STw X T W (.BoolOp .And (a :: b :: rest) pos) (mAnd f g) := PW.imp (pw_and ha hb) fun σ H Q h => tAnd_of h
theorem sw_or {a b : Expr} {rest : List Expr} {f g : En → M Bool} (ha : ST X T W a f) (hb : STw X T W (.BoolOp .Or (b :: rest) pos) g) : STw X T W (.BoolOp .Or (a :: b :: rest) pos) (mOr f g) := PW.imp (pw_or ha hb) fun σ H Q h => tOr_of h
theorem st_w {e : Expr} {f : En → M Bool} (h : STw X T W e f) : ST X T W e f := L2.PW.pt h
theorem st_not {a : Expr} {f : En → M Bool} (ha : ST X T W a f) : ST X T W (.UnaryOp .Not a pos) (mNot f) := by
  refine PT.imp (pt_not ha) fun σ H Q h => ?_
  obtain ⟨ρ, μ, S, sr, er, h⟩ := h
  refine ⟨ρ, μ, S, sr, er, Pst.bnd_ h fun v S1 H1 μ1 x e1 sr1 rx h1 => ?_⟩
  have rx : v = x := rx
  subst rx
  exact Pst.here h1 sr1 rfl
theorem se_ite {c a b : Expr} {fc : En → M Bool} {f g : En → M Vl} (hc : ST X T W c fc) (ha : SE X T W a f) (hb : SE X T W b g) : SE X T W (.IfExp c a b pos) (mIte fc f g) := by
  refine PE.imp (pe_ifExp hc ha hb) fun σ H Q h => ?_
  obtain ⟨ρ, μ, S, sr, er, h⟩ := h
  refine ⟨ρ, μ, S, sr, er, Pst.bnd_ h fun v S1 H1 μ1 x e1 sr1 rx h1 => ?_⟩
  have rx : v = x := rx
  subst rx
  cases v with
  | true => exact ⟨ρ, μ1, S1, sr1, er.ext e1, h1⟩
  | false => exact ⟨ρ, μ1, S1, sr1, er.ext e1, h1⟩
theorem se_one {op} {a : Expr} {f : En → M Vl} (h : SE X T W a f) : SE X T W (.BoolOp op [a] pos) f := pe_one h
theorem se_and {a b : Expr} {rest : List Expr} {f g : En → M Vl} (ha : SE X T W a f) (hb : SE X T W (.BoolOp .And (b :: rest) pos) g) : SE X T W (.BoolOp .And (a :: b :: rest) pos) (mAndV f g) := by
  refine PE.imp (pe_and ha hb) fun σ H Q h => ?_
  obtain ⟨ρ, μ, S, sr, er, h⟩ := h
  refine ⟨ρ, μ, S, sr, er, Pst.bnd_ h fun v S1 H1 μ1 x e1 sr1 rx h1 => ?_⟩
  cases v with
  | bl c =>
    cases rx
    refine ⟨c, rfl, ?_⟩
    cases c with
    | true => exact ⟨ρ, μ1, S1, sr1, er.ext e1, h1⟩
    | false => exact Pst.here h1 sr1 (.bl _)
  | _ => exact h1.elim
theorem se_or {a b : Expr} {rest : List Expr} {f g : En → M Vl} (ha : SE X T W a f) (hb : SE X T W (.BoolOp .Or (b :: rest) pos) g) : SE X T W (.BoolOp .Or (a :: b :: rest) pos) (mOrV f g) := by
  refine PE.imp (pe_or ha hb) fun σ H Q h => ?_
  obtain ⟨ρ, μ, S, sr, er, h⟩ := h
  refine ⟨ρ, μ, S, sr, er, Pst.bnd_ h fun v S1 H1 μ1 x e1 sr1 rx h1 => ?_⟩
  cases v with
  | bl c =>
    cases rx
    refine ⟨c, rfl, ?_⟩
    cases c with
    | true => exact Pst.here h1 sr1 (.bl _)
    | false => exact ⟨ρ, μ1, S1, sr1, er.ext e1, h1⟩
  | _ => exact h1.elim
theorem se_not {a : Expr} {f : En → M Vl} (ha : SE X T W a f) : SE X T W (.UnaryOp .Not a pos) (mNotV f) := by
  refine PE.imp (pe_not ha) fun σ H Q h => ?_
  obtain ⟨ρ, μ, S, sr, er, h⟩ := h
  refine ⟨ρ, μ, S, sr, er, Pst.bnd_ h fun v S1 H1 μ1 x e1 sr1 rx h1 => ?_⟩
  cases v with
  | bl c => cases rx; exact ⟨c, rfl, Pst.here h1 sr1 (.bl _)⟩
  | _ => exact h1.elim
end

/-! ### a built-in function by name, by values -/
def rCof (K : PySem.W.Frag) (mg : Str → Option Value) (T : Tb) (m : List Vl → MO Vl) : List V → Hp → VK → Prop := fun xs H Q => ∃ (μ : Nat → Addr) (S : Sto) (as : List Vl), SRel K mg T H μ S ∧ RpAll K mg H μ S.n as xs ∧ PstO K mg T (rl K mg) H μ S.n Q (m as S)
abbrev CaS (X : Cx) (T : Tb) (f : Value) (m : List Vl → MO Vl) : Prop := CallR X f (rCof X.K X.mg T m)
def mBi (m : List Vl → MO Vl) (g : En → M (List Vl)) : En → M Vl := fun ρ => bnd (g ρ) fun xs => lift (m xs)
section
variable {X : Cx} {T : Tb} {W : WX} {pos p : Pos} {x : Str} {id Ty : String} {m : List Vl → MO Vl} {e : Expr} {es : List Expr} {g : En → M (List Vl)}
theorem tCB_of {σ : L2.St} {H : Hp} {Q : VK} (h : tOf X.K X.mg T W (mBi m g) σ H Q) : tCB (rCof X.K X.mg T m) (tOfA X.K X.mg T W g) σ H Q := by
  obtain ⟨ρ, μ, S, sr, er, h⟩ := h
  refine ⟨ρ, μ, S, sr, er, Pst.bnd_ h fun v S1 H1 μ1 x e1 sr1 rx h1 => ?_⟩
  exact ⟨μ1, S1, v, sr1, rx, h1.lift_⟩
theorem se_bi (hc : CaS X T (.builtin id) m) (hm : X.mg x = none) (hv : bootBuiltins x = some (.builtin id)) (ha : SA X T W (e :: es) g) (hg : Gl X x := by rfl) (hn : x ≠ "__name__" := by decide) (hdb : (x == ("__debug__" : Str)) = false := by decide)
    (he : starEach (e :: es) X.env = (false, eval e X.env) :: starEach es X.env := by rfl) (hpl : (backTo pos (starEach es X.env)).any (·.1) = false := by rfl) : SE X T W (.Call (.Name x p) (e :: es) [] pos) (mBi m g) :=
  PE.imp (pe_callB hc hg hm hv ha hn hdb he hpl) fun σ H Q h => tCB_of h
theorem se_ty (hc : CaS X T (.type Ty) m) (hm : X.mg x = none) (hv : bootBuiltins x = some (.type Ty)) (ha : SA X T W (e :: es) g) (hg : Gl X x := by rfl) (hn : x ≠ "__name__" := by decide) (hdb : (x == ("__debug__" : Str)) = false := by decide)
    (he : starEach (e :: es) X.env = (false, eval e X.env) :: starEach es X.env := by rfl) (hpl : (backTo pos (starEach es X.env)).any (·.1) = false := by rfl) : SE X T W (.Call (.Name x p) (e :: es) [] pos) (mBi m g) :=
  PE.imp (pe_callTy hc hg hm hv ha hn hdb he hpl) fun σ H Q h => tCB_of h
/-- a built-in class as a value -/
theorem se_bty (hm : X.mg x = none) (hv : bootBuiltins x = some (.type Ty)) (hg : Gl X x := by rfl) (hn : x ≠ "__name__" := by decide) (hdb : (x == ("__debug__" : Str)) = false := by decide) : SE X T W (.Name x pos) (mC (.ty Ty)) :=
  PE.imp (pe_bltn hg hm hv (v := .ty Ty) rfl hn hdb) fun σ H Q ⟨ρ, μ, S, sr, er, h⟩ => Pst.here (x := V.ty Ty) h sr (.ty Ty)
end

/-! ### calls of defs -/
def spF (K : PySem.W.Frag) (mg : Str → Option Value) (T : Tb) (n : Nat) (f : List Vl → M Vl) : Sp := fun vs H Q E => vs.length = n ∧ ∃ (μ : Nat → Addr) (S : Sto) (as : List Vl), SRel K mg T H μ S ∧ RpAll K mg H μ S.n as vs ∧ Pst K mg T (fun cls d H' => E cls d H') (rl K mg) H μ S.n Q (f as S)
/-- a def's promise; where g, it leans on there being no text of a container under way -/
structure FnQ (g : Bool) (P : Program) (w : World) (K : PySem.W.Frag) (mg : Str → Option Value) (base : Heap) (k : Nat) (f : Addr) (fd : FuncData) (ps : List Str) (sp : Sp) : Prop where
  len : ∀ vs H Q E, sp vs H Q E → vs.length = ps.length
  run : ∀ (A : Around) (outer : List Env) (s : Shared) (H : Hp) (args : Args) (us : List Value) (vs : List V) (Q : VK) (E : XK), Room k A → (g = true → A.guards = some []) → Env0 P w K mg base A outer s H → BindsTo s fd args (ps.zip us) → Vals vs us → sp vs H Q E →
    codeAny (model P w) A (.call (.ref f) args) (CR (L2.CX P w) outer P w H s Q E) s
/-- the def x, called with arguments behind which dvs are filled in, does as f says -/
structure CalS (g : Bool) (P : Program) (w : World) (K : PySem.W.Frag) (mg : Str → Option Value) (T : Tb) (base : Heap) (k : Nat) (x : Str) (dvs : List Vl) (f : List Vl → M Vl) : Prop where
  ex : ∃ (a : Addr) (fd : FuncData) (ps : List Str) (ds : List Value) (dvV : List V), mg x = some (.ref a) ∧ PySem.W.keepIn K (.ref a) = true ∧ FnQ g P w K mg base k a fd ps (spF K mg T ps.length f) ∧ (∀ as S, as.length ≠ ps.length → f as S = none) ∧ Binds K fd ps ds ∧ Vals dvV ds ∧ ∀ H μ N, RpAll K mg H μ N dvs dvV
def mCall (f : List Vl → M Vl) (dvs : List Vl) (g : En → M (List Vl)) : En → M Vl := fun ρ => bnd (g ρ) fun vs => f (vs ++ dvs)
section
variable {X : Cx} {T : Tb} {W : WX} {k : Nat} {x : Str} {dvs : List Vl} {f : List Vl → M Vl} {p pos : Pos} {e : Expr} {es : List Expr} {g : En → M (List Vl)}
theorem run_fnD {b : Bool} {fa : Addr} {fd : FuncData} {ps : List Str} {sp : Sp} {ds : List Value} {dvV : List V} {E : L2.St → XK} {pins : List (Addr × Obj)} {σ : L2.St} {H : Hp} {s : Shared} {Q : VK} {us : List Value} {vs : List V} (F : FnQ b X.prog X.w X.K X.mg X.base k fa fd ps sp) (hr : Room k X.A) (hgd : b = true → X.A.guards = some []) (hb : Binds X.K fd ps ds) (hd : Vals dvV ds) (hx : PassesAt (L2.CX X.prog X.w) X σ (E σ))
    (I : Inv X pins σ H s) (r : Vals vs us) (h : sp (vs ++ dvV) H Q (E σ)) : wpAny (model X.prog X.w) X.A (call (.ref fa) us) (EP X pins σ Q) X.xe s := by
  have r2 : Vals (vs ++ dvV) (us ++ ds) := r.append hd
  have hl : (us ++ ds).length = ps.length := by rw [← r2.length]; exact F.len _ _ _ _ h
  refine wpAny_call (codeAny_mono (F.run X.A X.stack s H ⟨us, []⟩ (us ++ ds) (vs ++ dvV) Q (E σ) hr hgd I.env0 (hb s us I.kIn hl) r2 h) fun r s' hq => ?_)
  cases r with
  | error e => exact hx pins H s e s' I hq
  | ok fl =>
    cases fl with
    | ret u => exact I.after hq
    | next => exact False.elim hq
    | brk => exact False.elim hq
    | cont => exact False.elim hq
theorem se_call {b : Bool} (c : CalS b X.prog X.w X.K X.mg T X.base k x dvs f) (hr : Room k X.A) (hgd : b = true → X.A.guards = some []) (tk : Takes X W) (ha : SA X T W (e :: es) g) (hg : Gl X x := by rfl) (hdb : (x == ("__debug__" : Str)) = false := by decide)
    (he : starEach (e :: es) X.env = (false, eval e X.env) :: starEach es X.env := by rfl) (hpl : (backTo pos (starEach es X.env)).any (·.1) = false := by rfl) : SE X T W (.Call (.Name x p) (e :: es) [] pos) (mCall f dvs g) := by
  obtain ⟨a, fd, ps, ds, dvV, hm, hk, F, hlen, hb, hd, hdv⟩ := c.ex
  refine ⟨fun pins s σ H Q I h => ?_⟩
  obtain ⟨ρ, μ, S, sr, er, h⟩ := h
  refine wpAny_Call_Name_kw (ld_glob I hg hm ?_ hdb)
  refine PySem.W.callWith_K (h₀ := X.base) I.ok.mod.kin hk (thn (ha.run pos pins s σ H (fun vs H1 => spF X.K X.mg T ps.length f (vs ++ dvV) H1 Q (WE W σ)) I ⟨ρ, μ, S, sr, er, Pst.bnd_ h fun v S1 H1 μ1 x e1 sr1 rx h1 => ?_⟩) fun us s1 ⟨vs, H1, I1, r, q⟩ => ⟨I1.kIn, ?_⟩) he hpl
  · have rr := RpAll.append rx (hdv H1 μ1 S1.n)
    refine ⟨?_, μ1, S1, v ++ dvs, sr1, rr, h1⟩
    rw [← rr.length]
    by_cases hz : (v ++ dvs).length = ps.length
    · exact hz
    · rw [hlen _ _ hz] at h1; exact h1.elim
  · exact run_fnD (E := WE W) F hr hgd hb hd (passAt tk σ) I1 r q
end
end Q

set_option linter.all false
set_option maxRecDepth 100000
set_option maxHeartbeats 400000
namespace Q
open PySem PySem.Spec PyProof.Rows L2

/-! ### statements -/
def sRet (f : En → M Vl) : MS := fun ρ S => match f ρ S with
  | none => none
  | some (.ok v, S') => some (.rt v, ρ, S')
  | some (.exc c g v, S') => some (.ex c g v, ρ, S')
def sExp (f : En → M Vl) : MS := fun ρ S => match f ρ S with
  | none => none
  | some (.ok _, S') => some (.nx, ρ, S')
  | some (.exc c g v, S') => some (.ex c g v, ρ, S')
def sSeq (a b : MS) : MS := fun ρ S => match a ρ S with
  | some (.nx, ρ', S') => b ρ' S'
  | o => o
def sSkip : MS := fun ρ S => some (.nx, ρ, S)
def sBreak : MS := fun ρ S => some (.bk, ρ, S)
def sCont : MS := fun ρ S => some (.ct, ρ, S)
def sIf (c : En → M Bool) (a b : MS) : MS := fun ρ S => match c ρ S with
  | none => none
  | some (.ok true, S') => a ρ S'
  | some (.ok false, S') => b ρ S'
  | some (.exc c g v, S') => some (.ex c g v, ρ, S')
def sAsg (f : En → M Vl) (g : Vl → En → MO En) : MS := fun ρ S => match f ρ S with
  | none => none
  | some (.ok v, S') => (match g v ρ S' with
    | none => none
    | some (ρ', S2) => some (.nx, ρ', S2))
  | some (.exc c g v, S') => some (.ex c g v, ρ, S')
def gNm (i : Nat) : Vl → En → MO En := fun v ρ S => some (ρ.set i (some v), S)
def gTp (gs : List (Vl → En → MO En)) : Vl → En → MO En := fun v ρ S => match v with
  | .tup xs => go gs xs ρ S
  | _ => none
where go : List (Vl → En → MO En) → List Vl → En → MO En
  | [], [], ρ, S => some (ρ, S)
  | g :: gs, x :: xs, ρ, S => match g x ρ S with
    | none => none
    | some (ρ', S') => go gs xs ρ' S'
  | _, _, _, _ => none
/-- a op= b at a name -/
def sAug (i : Nat) (f : En → M Vl) (m : Vl → Vl → MO Vl) : MS := fun ρ S => match ρ[i]? with
  | some (some x) => (match f ρ S with
    | none => none
    | some (.ok v, S') => (match m x v S' with
      | none => none
      | some (z, S2) => some (.nx, ρ.set i (some z), S2))
    | some (.exc c g v, S') => some (.ex c g v, ρ, S'))
  | _ => none
section
variable {K : PySem.W.Frag} {mg : Str → Option Value} {T : Tb} {W : WX} {H : Hp} {μ : Nat → Addr} {S : Sto} {N : Nat} {ρ : En} {σ : L2.St}
/-- an exception of an expression, under a statement's wish -/
theorem exc_of {c f : Str} {v : Vl} {S' : Sto} {D : Ends} (er : ERel K mg H μ N ρ σ) (h : PstS K mg T W H μ N D (some (.ex c f v, ρ, S'))) {α β : Type} {rel : Hp → (Nat → Addr) → Nat → α → β → Prop} {Q : β → Hp → Prop} : Pst K mg T (fun cls d H' => W cls d σ H') rel H μ N Q (some (.exc c f v, S')) :=
  fun H' μ' cls d e sr x => h H' μ' σ cls d e sr (er.ext e) x
end

section
variable {X : Cx} {T : Tb} {W : WX} {pos : Pos}
theorem ss_ret {e : Expr} {f : En → M Vl} (h : SE X T W e f) : SS X T W (.Return (some e) pos) (sRet f) := by
  refine PS.imp (ps_ret h) fun D σ H q => ?_
  obtain ⟨ρ, μ, S, sr, er, q⟩ := q
  refine ⟨ρ, μ, S, sr, er, ?_⟩
  unfold sRet at q
  cases e : f ρ S with
  | none => rw [e] at q; exact q
  | some p =>
    obtain ⟨r, S'⟩ := p
    rw [e] at q
    cases r with
    | ok v => exact q
    | exc c g v => exact exc_of er q
theorem ss_exp {e : Expr} {f : En → M Vl} (h : SE X T W e f) (hs : swapsWith e none pos.line X.env = pure false := by rfl) : SS X T W (.Expr e pos) (sExp f) := by
  refine PS.imp (ps_expr h hs) fun D σ H q => ?_
  obtain ⟨ρ, μ, S, sr, er, q⟩ := q
  refine ⟨ρ, μ, S, sr, er, ?_⟩
  unfold sExp at q
  cases e : f ρ S with
  | none => rw [e] at q; exact q
  | some p =>
    obtain ⟨r, S'⟩ := p
    rw [e] at q
    cases r with
    | ok v => exact fun H' μ' x e' sr' _ => q H' μ' σ e' sr' (er.ext e')
    | exc c g v => exact exc_of er q
theorem sss_nil : SSs X T W [] sSkip := PSs.imp pss_nil fun D σ H ⟨ρ, μ, S, sr, er, q⟩ => q H μ σ Ext.refl sr er
theorem sss_one {st : Stmt} {f : MS} (h : SS X T W st f) : SSs X T W [st] f := pss_one h
theorem seq_of {K : PySem.W.Frag} {mg : Str → Option Value} {T : Tb} {H : Hp} {μ : Nat → Addr} {N : Nat} {a b : MS} {ρ : En} {S : Sto} {D : Ends} (q : PstS K mg T W H μ N D (sSeq a b ρ S)) : PstS K mg T W H μ N { D with nx := tOfS K mg T W b D } (a ρ S) := by
  unfold sSeq at q
  cases e : a ρ S with
  | none => rw [e] at q; exact q
  | some p =>
    obtain ⟨r, ρ', S'⟩ := p
    rw [e] at q
    cases r with
    | nx => exact fun H' μ' σ' e' sr' er' => ⟨ρ', μ', S', sr', er', q.step e'⟩
    | bk => exact q
    | ct => exact q
    | rt v => exact q
    | ex c f v => exact q
theorem sss_cons {st : Stmt} {rest : List Stmt} {f g : MS} (h1 : SS X T W st f) (h2 : SSs X T W rest g) : SSs X T W (st :: rest) (sSeq f g) := by
  refine PSs.imp (pss_cons h1 h2) fun D σ H q => ?_
  obtain ⟨ρ, μ, S, sr, er, q⟩ := q
  exact ⟨ρ, μ, S, sr, er, seq_of q⟩
theorem ss_if {c : Expr} {a b : List Stmt} {fc : En → M Bool} {f g : MS} (hc : ST X T W c fc) (ha : SSs X T W a f) (hb : SSs X T W b g) : SS X T W (.If c a b pos) (sIf fc f g) := by
  refine PS.imp (ps_if hc ha hb) fun D σ H q => ?_
  obtain ⟨ρ, μ, S, sr, er, q⟩ := q
  refine ⟨ρ, μ, S, sr, er, ?_⟩
  unfold sIf at q
  cases e : fc ρ S with
  | none => rw [e] at q; exact q
  | some p =>
    obtain ⟨r, S'⟩ := p
    rw [e] at q
    cases r with
    | ok v =>
      cases v with
      | true => exact fun H' μ' x e' sr' rx => by cases (show true = x from rx); exact ⟨ρ, μ', S', sr', er.ext e', q.step e'⟩
      | false => exact fun H' μ' x e' sr' rx => by cases (show false = x from rx); exact ⟨ρ, μ', S', sr', er.ext e', q.step e'⟩
    | exc c g v => exact exc_of er q
/-! ### targets, assignments -/
theorem sg_name (i : Nat) {x : Str} (hN : X.N.Nodup) (hi : X.N[i]? = some x := by rfl) (hx : Loc X.env.scope x := by first | exact Or.inl rfl | exact Or.inr rfl) (hf : X.fn x = true ∨ X.env.scope.names.lookup x = some .local := by first | exact .inl rfl | exact .inr rfl | assumption) : SG X T (.Name x pos) (gNm i) :=
  PG.imp (pg_name hN hi hx hf) fun v σ H Q ⟨ρ, μ, S, w, sr, er, rw_, q⟩ => q H μ _ Ext.refl sr (er.set i rw_)
/-- several targets -/
abbrev SGs (X : Cx) (T : Tb) (es : List Expr) (gs : List (Vl → En → MO En)) : Prop := PGs X es (fun vs σ H Q => ∃ (ρ : En) (μ : Nat → Addr) (S : Sto) (ws : List Vl), SRel X.K X.mg T H μ S ∧ ERel X.K X.mg H μ S.n ρ σ ∧ RpAll X.K X.mg H μ S.n ws vs ∧ PstO X.K X.mg T (fun H' μ' N' ρ' σ' => ERel X.K X.mg H' μ' N' ρ' σ') H μ S.n Q (gTp.go gs ws ρ S))
theorem PGs.imp {X : Cx} {e : List Expr} {t t' : TGs} (h : PGs X e t) (i : ∀ v σ H Q, t' v σ H Q → t v σ H Q) : PGs X e t' := ⟨fun pins s σ H v u Q I r q => h.run pins s σ H v u Q I r (i v σ H Q q)⟩
theorem sgs_nil : SGs X T [] [] := by
  refine PGs.imp pgs_nil fun vs σ H Q q => ?_
  obtain ⟨ρ, μ, S, ws, sr, er, rs, q⟩ := q
  cases rs with
  | nil => exact ⟨rfl, q H μ σ Ext.refl sr er⟩
  | cons _ _ => exact q.elim
theorem sgs_cons {e : Expr} {es : List Expr} {g : Vl → En → MO En} {gs : List (Vl → En → MO En)} (h1 : SG X T e g) (h2 : SGs X T es gs) (hs : (assignEach (e :: es) X.env).map (·.2) = assign e X.env :: (assignEach es X.env).map (·.2) := by rfl) : SGs X T (e :: es) (g :: gs) := by
  refine PGs.imp (pgs_cons h1 h2 hs) fun vs σ H Q q => ?_
  obtain ⟨ρ, μ, S, ws, sr, er, rs, q⟩ := q
  cases rs with
  | nil => exact q.elim
  | cons r1 r2 =>
    rename_i w v ws vs
    refine ⟨v, vs, rfl, ρ, μ, S, w, sr, er, r1, ?_⟩
    have q : PstO X.K X.mg T (fun H' μ' N' ρ' σ' => ERel X.K X.mg H' μ' N' ρ' σ') H μ S.n Q (match g w ρ S with
      | none => none
      | some (ρ', S') => gTp.go gs ws ρ' S') := q
    cases e1 : g w ρ S with
    | none => rw [e1] at q; exact q
    | some p =>
      obtain ⟨ρ1, S1⟩ := p
      rw [e1] at q
      exact fun H' μ' σ' e' sr' er' => ⟨ρ1, μ', S1, ws, sr', er', r2.ext e', PstO.step q e'⟩
theorem sg_tup {es : List Expr} {k : Nat} {gs : List (Vl → En → MO En)} {n : Nat} (hc : X.calm = true) (h : SGs X T es gs) (hl : gs.length = n := by rfl) (hn : (assignEach es X.env).length = n := by rfl) (hst : (assignEach es X.env).findIdx? (·.1) = none := by rfl) : SG X T (.Tuple es k pos) (gTp gs) := by
  refine PG.imp (pg_tup hc h hn hst) fun v σ H Q q => ?_
  obtain ⟨ρ, μ, S, w, sr, er, rw_, q⟩ := q
  cases w with
  | tup xs =>
    obtain ⟨a, vs, rfl, h1, r1⟩ := rw_.tup_at
    refine ⟨a, vs, rfl, h1, ?_, ρ, μ, S, xs, sr, er, r1, q⟩
    rw [← r1.length, ← hl]
    have key : ∀ (gs : List (Vl → En → MO En)) (xs : List Vl) (ρ : En) (S : Sto), gTp.go gs xs ρ S ≠ none → xs.length = gs.length := by
      intro gs
      induction gs with
      | nil => intro xs ρ S hh; cases xs with | nil => rfl | cons _ _ => exact absurd rfl hh
      | cons g gs ih =>
        intro xs ρ S hh
        cases xs with
        | nil => exact absurd rfl hh
        | cons x xs =>
          have hh : (match g x ρ S with | none => none | some (ρ', S') => gTp.go gs xs ρ' S') ≠ none := hh
          cases e1 : g x ρ S with
          | none => rw [e1] at hh; exact absurd rfl hh
          | some p => rw [e1] at hh; simp [ih xs _ _ hh]
    refine key gs xs ρ S fun z => ?_
    have q : PstO X.K X.mg T (fun H' μ' N' ρ' σ' => ERel X.K X.mg H' μ' N' ρ' σ') H μ S.n Q (gTp.go gs xs ρ S) := q
    rw [z] at q; exact q
  | _ => exact q.elim
theorem asg_of {f : En → M Vl} {g : Vl → En → MO En} {D : Ends} {σ : L2.St} {H : Hp} (q : tOfS X.K X.mg T W (sAsg f g) D σ H) : tAsg (tOf X.K X.mg T W f) (tOfG X.K X.mg T g) D σ H := by
  obtain ⟨ρ, μ, S, sr, er, q⟩ := q
  refine ⟨ρ, μ, S, sr, er, ?_⟩
  unfold sAsg at q
  cases e : f ρ S with
  | none => rw [e] at q; exact q
  | some p =>
    obtain ⟨r, S'⟩ := p
    rw [e] at q
    cases r with
    | ok v =>
      intro H' μ' x e' sr' rx
      refine ⟨ρ, μ', S', v, sr', er.ext e', rx, ?_⟩
      simp only at q
      cases e2 : g v ρ S' with
      | none => rw [e2] at q; exact q
      | some p2 =>
        obtain ⟨ρ2, S2⟩ := p2
        rw [e2] at q
        exact fun H2 μ2 σ2 e3 sr3 er3 => q H2 μ2 σ2 (e'.trans e3) sr3 er3
    | exc c g v => exact exc_of er q
theorem ss_set (i : Nat) {x : Str} {e : Expr} {f : En → M Vl} {pos' : Pos} (hN : X.N.Nodup) (he : SE X T W e f) (hi : X.N[i]? = some x := by rfl) (hx : Loc X.env.scope x := by first | exact Or.inl rfl | exact Or.inr rfl)
    (hs : swapsWith e (some (.Name x pos')) pos.line X.env = pure false := by rfl) (hf : X.fn x = true ∨ X.env.scope.names.lookup x = some .local := by first | exact .inl rfl | exact .inr rfl | assumption) : SS X T W (.Assign [.Name x pos'] e pos) (sAsg f (gNm i)) := by
  refine PS.imp (ps_set hN hi hx he hs hf) fun D σ H q => ?_
  obtain ⟨ρ, μ, S, sr, er, q⟩ := q
  refine ⟨ρ, μ, S, sr, er, ?_⟩
  unfold sAsg at q
  cases e : f ρ S with
  | none => rw [e] at q; exact q
  | some p =>
    obtain ⟨r, S'⟩ := p
    rw [e] at q
    cases r with
    | ok v => exact fun H' μ' x e' sr' rx => q H' μ' _ e' sr' ((er.ext e').set i rx)
    | exc c g v => exact exc_of er q
theorem ss_asg {tg e : Expr} {f : En → M Vl} {g : Vl → En → MO En} (he : SE X T W e f) (hg : SG X T tg g) (hs : swapsWithSole [tg] e pos.line X.env = pure false := by rfl) (hw : swappedStores [tg] e X.env = pure none := by rfl)
    (h1 : (assignEach [tg] X.env).map (·.2) = [assign tg X.env] := by rfl) : SS X T W (.Assign [tg] e pos) (sAsg f g) := PS.imp (ps_asg he hg hs hw h1) fun D σ H q => asg_of q
/-- a, b = x, y: plain local names -/
def sPar (is : List Nat) (g : En → M (List Vl)) : MS := fun ρ S => match g ρ S with
  | none => none
  | some (.ok vs, S') => if vs.length = is.length then some (.nx, (is.zip vs).foldl (fun ρ p => ρ.set p.1 (some p.2)) ρ, S') else none
  | some (.exc c g v, S') => some (.ex c g v, ρ, S')
theorem ss_par (i j : Nat) {x y : Str} {a b : Expr} {g : En → M (List Vl)} {px py pt : Pos} {kt k2 pt2} (hc : X.calm = true) (hN : X.N.Nodup) (ha : SA X T W [a, b] g)
    (hw : swappedStores [.Tuple [.Name x px, .Name y py] kt pt] (.Tuple [a, b] k2 pt2) X.env = pure (some [x, y])) (hi : X.N[i]? = some x := by rfl) (hj : X.N[j]? = some y := by rfl) (hij : i ≠ j := by decide)
    (hx : X.env.scope.names.lookup x = some .local := by rfl) (hy : X.env.scope.names.lookup y = some .local := by rfl)
    (hs : swapsWithSole [.Tuple [.Name x px, .Name y py] kt pt] (.Tuple [a, b] k2 pt2) pos.line X.env = pure false := by rfl) :
    SS X T W (.Assign [.Tuple [.Name x px, .Name y py] kt pt] (.Tuple [a, b] k2 pt2) pos) (sPar [i, j] g) := by
  refine PS.imp (ps_par hc hN hi hj hij hx hy ha hw hs) fun D σ H q => ?_
  obtain ⟨ρ, μ, S, sr, er, q⟩ := q
  refine ⟨ρ, μ, S, sr, er, ?_⟩
  unfold sPar at q
  cases e : g ρ S with
  | none => rw [e] at q; exact q
  | some p =>
    obtain ⟨r, S'⟩ := p
    rw [e] at q
    cases r with
    | ok vs =>
      intro H' μ' xs e' sr' rx
      simp only at q
      match vs, rx, q with
      | [v, w], .cons r1 (.cons r2 .nil), q => exact ⟨_, _, rfl, q H' μ' _ e' sr' (((er.ext e').set i r1).set j r2)⟩
      | [], _, q => exact q.elim
      | [_], _, q => exact q.elim
      | _ :: _ :: _ :: _, _, q => rw [if_neg (by simp)] at q; exact q.elim
    | exc c g v => exact exc_of er q
end

/-! ### while -/
open Classical in
noncomputable def lim {α : Type} (f : Nat → Option α) : Option α := if h : ∃ n, (f n).isSome = true then f (Classical.choose h) else none
theorem lim_some {α : Type} {f : Nat → Option α} {r : α} (h : lim f = some r) : ∃ n, f n = some r := by
  unfold lim at h
  split at h
  · exact ⟨_, h⟩
  · cases h
section
variable {X : Cx} {T : Tb} {W : WX} {pos : Pos}
theorem pstS_lim {K : PySem.W.Frag} {mg : Str → Option Value} {T : Tb} {H : Hp} {μ : Nat → Addr} {N : Nat} {D : Ends} {f : Nat → Option (Fl × En × Sto)} (h : PstS K mg T W H μ N D (lim f)) : ∃ n, PstS K mg T W H μ N D (f n) := by
  cases e : lim f with
  | none => rw [e] at h; exact h.elim
  | some r =>
    obtain ⟨n, q⟩ := lim_some e
    exact ⟨n, by rw [q, ← e]; exact h⟩
end
end Q

set_option linter.all false
set_option maxRecDepth 100000
set_option maxHeartbeats 400000
namespace Q
open PySem PySem.Spec PyProof.Rows L2

/-! ### what is walked -/
/-- at turn i: none: not known; some none: it stops; some (some v): it yields v -/
abbrev Nxt := Nat → Sto → Option (Option Vl)
structure ItR (K : PySem.W.Frag) (mg : Str → Option Value) (T : Tb) (H₀ : Hp) (μ₀ : Nat → Addr) (N₀ : Nat) (nx : Nxt) (J : It) : Prop where
  stop : ∀ i H μ S, Ext H₀ μ₀ N₀ H μ S.n → SRel K mg T H μ S → nx i S = some none → J.stop i H
  go : ∀ i H μ S v, Ext H₀ μ₀ N₀ H μ S.n → SRel K mg T H μ S → nx i S = some (some v) → J.go i H
  yld : ∀ i H μ S v, Ext H₀ μ₀ N₀ H μ S.n → SRel K mg T H μ S → nx i S = some (some v) → ∀ x H', J.yld i H x H' → Ext H μ S.n H' μ S.n ∧ SRel K mg T H' μ S ∧ Rp K mg H' μ S.n v x
def tOfI (K : PySem.W.Frag) (mg : Str → Option Value) (T : Tb) (W : WX) (f : En → M Nxt) : TI := fun σ H R => ∃ (ρ : En) (μ : Nat → Addr) (S : Sto), SRel K mg T H μ S ∧ ERel K mg H μ S.n ρ σ ∧ Pst K mg T (fun cls d H' => W cls d σ H') (fun H' μ' N' nx J => ItR K mg T H' μ' N' nx J) H μ S.n (fun J H' => R J H') (f ρ S)
abbrev SI (X : Cx) (T : Tb) (W : WX) (tg e : Expr) (f : En → M Nxt) : Prop := PI X tg e (tOfI X.K X.mg T W f)
theorem PI.imp {X : Cx} {tg e : Expr} {t t' : TI} (h : PI X tg e t) (i : ∀ σ H R, t' σ H R → t σ H R) : PI X tg e t' := ⟨fun pins s σ H R I q => h.run pins s σ H R I (i σ H R q)⟩
/-- a list as it stands at each turn -/
def nxL (n : Nat) : Nxt := fun i S => match getR S n with
  | some xs => (match xs[i]? with | some v => some (some v) | none => some none)
  | none => none
def nxT (xs : List Vl) : Nxt := fun i _ => some xs[i]?
def nxS (z : Str) : Nxt := fun i _ => some ((z.cps[i]?).map fun c => .str ⟨#[c]⟩)
def nxR (lo : Int) (n : Nat) : Nxt := fun i _ => some (if i < n then some (.int (lo + i)) else none)
section
variable {K : PySem.W.Frag} {mg : Str → Option Value} {T : Tb} {H : Hp} {μ : Nat → Addr} {S : Sto} {N : Nat}
theorem read_sq {n : Nat} {xs : List Vl} (sr : SRel K mg T H μ S) (hn : n < S.n) (e : getR S n = some xs) : ∃ vs, SqL K H (μ n) vs ∧ RpAll K mg H μ S.n xs vs := by
  obtain ⟨vs, _, h1, h2⟩ := Rp.read_at sr (.ref n hn) e
  exact ⟨vs, h1, h2⟩
theorem itr_list {H₀ : Hp} {μ₀ : Nat → Addr} {N₀ n : Nat} (hn : n < N₀) : ItR K mg T H₀ μ₀ N₀ (nxL n) (Itl K (μ₀ n)) := by
  refine ⟨fun i H μ S e sr q => ?_, fun i H μ S v e sr q => ?_, fun i H μ S v e sr q x H' y => ?_⟩
  · unfold nxL at q
    cases g : getR S n with
    | none => rw [g] at q; cases q
    | some xs =>
      rw [g] at q
      obtain ⟨vs, h1, h2⟩ := read_sq sr (Nat.lt_of_lt_of_le hn e.le) g
      rw [e.mu n hn] at h1
      refine ⟨vs, h1, ?_⟩
      rw [← h2.length]
      cases z : xs[i]? with
      | none => exact List.getElem?_eq_none_iff.mp z
      | some w => simp only [z] at q; cases q
  · unfold nxL at q
    cases g : getR S n with
    | none => rw [g] at q; cases q
    | some xs =>
      rw [g] at q
      obtain ⟨vs, h1, h2⟩ := read_sq sr (Nat.lt_of_lt_of_le hn e.le) g
      rw [e.mu n hn] at h1
      cases z : xs[i]? with
      | none => simp only [z] at q; cases q
      | some w =>
        obtain ⟨u, h3, h4⟩ := h2.get z
        exact ⟨vs, u, h1, h3⟩
  · unfold nxL at q
    cases g : getR S n with
    | none => rw [g] at q; cases q
    | some xs =>
      rw [g] at q
      obtain ⟨vs, h1, h2⟩ := read_sq sr (Nat.lt_of_lt_of_le hn e.le) g
      rw [e.mu n hn] at h1
      cases z : xs[i]? with
      | none => simp only [z] at q; cases q
      | some w =>
        simp only [z] at q
        cases q
        obtain ⟨u, h3, h4⟩ := h2.get z
        obtain ⟨rfl, hy⟩ := y
        have := hy vs h1
        rw [h3] at this
        cases this
        exact ⟨Ext.refl, sr, h4⟩
theorem itr_tup {H₀ : Hp} {μ₀ : Nat → Addr} {N₀ : Nat} {a : Addr} {xs : List Vl} {vs : List V} (h : SqT K H₀ a vs) (r : RpAll K mg H₀ μ₀ N₀ xs vs) : ItR K mg T H₀ μ₀ N₀ (nxT xs) (Itt K a) := by
  refine ⟨fun i H μ S e sr q => ?_, fun i H μ S v e sr q => ?_, fun i H μ S v e sr q x H' y => ?_⟩
  · refine ⟨vs, e.sqT h, ?_⟩
    rw [← r.length]
    exact List.getElem?_eq_none_iff.mp (Option.some.inj q)
  · obtain ⟨u, h3, h4⟩ := r.get (Option.some.inj q)
    exact ⟨vs, u, e.sqT h, h3⟩
  · obtain ⟨u, h3, h4⟩ := r.get (Option.some.inj q)
    obtain ⟨rfl, hy⟩ := y
    have := hy vs (e.sqT h)
    rw [h3] at this
    cases this
    exact ⟨Ext.refl, sr, h4.ext e⟩
theorem itr_str {H₀ : Hp} {μ₀ : Nat → Addr} {N₀ : Nat} {z : Str} : ItR K mg T H₀ μ₀ N₀ (nxS z) (Its z) := by
  refine ⟨fun i H μ S e sr q => ?_, fun i H μ S v e sr q => ?_, fun i H μ S v e sr q x H' y => ?_⟩
  · have q := Option.some.inj q
    cases w : z.cps[i]? with
    | none => exact Array.getElem?_eq_none_iff.mp w
    | some c => rw [w] at q; cases q
  · have q := Option.some.inj q
    cases w : z.cps[i]? with
    | none => rw [w] at q; cases q
    | some c => exact (Array.getElem?_eq_some_iff.mp w).1
  · have q := Option.some.inj q
    obtain ⟨rfl, c, hc, rfl⟩ := y
    rw [hc] at q
    cases q
    exact ⟨Ext.refl, sr, .str _⟩
theorem itr_rng {H₀ : Hp} {μ₀ : Nat → Addr} {N₀ : Nat} {lo : Int} {n : Nat} : ItR K mg T H₀ μ₀ N₀ (nxR lo n) (Itr lo n) := by
  refine ⟨fun i H μ S e sr q => ?_, fun i H μ S v e sr q => ?_, fun i H μ S v e sr q x H' y => ?_⟩
  · have q := Option.some.inj q
    by_cases h : i < n
    · rw [if_pos h] at q; cases q
    · exact Nat.le_of_not_lt h
  · have q := Option.some.inj q
    by_cases h : i < n
    · exact h
    · rw [if_neg h] at q; cases q
  · have q := Option.some.inj q
    by_cases h : i < n
    · rw [if_pos h] at q
      cases q
      obtain ⟨rfl, rfl⟩ := y
      exact ⟨Ext.refl, sr, .int _⟩
    · rw [if_neg h] at q; cases q
end

def mIt (f : En → M Vl) : En → M Nxt := fun ρ => bnd (f ρ) fun v S => match v with
  | .ref n => (match getR S n with | some _ => some (.ok (nxL n), S) | none => none)
  | .tup xs => some (.ok (nxT xs), S)
  | .str z => some (.ok (nxS z), S)
  | _ => none
def asI1 : List Vl → Option Int
  | [.int j] => some j
  | _ => none
section
variable {K : PySem.W.Frag} {mg : Str → Option Value} {T : Tb} {H : Hp} {μ : Nat → Addr} {N : Nat} {vs : List Vl} {xs : List V}
theorem asI1_eq {j : Int} (h : asI1 vs = some j) : vs = [.int j] := by
  unfold asI1 at h; split at h
  · cases h; rfl
  · cases h
theorem asI1_rel {j : Int} (h : asI1 vs = some j) (r : RpAll K mg H μ N vs xs) : xs = [.int j] := by
  rw [asI1_eq h] at r
  cases r with | cons r1 r2 => cases r1; cases r2; rfl
end
def mItR1 (g : En → M (List Vl)) : En → M Nxt := fun ρ => bnd (g ρ) fun vs => match asI1 vs with
  | some j => if -(2 ^ 62) ≤ j ∧ j < 2 ^ 62 then ret (nxR 0 j.toNat) else fail
  | none => fail
section
variable {X : Cx} {T : Tb} {W : WX} {tg : Expr} {pos p : Pos}
theorem it_list {pins : List (Addr × Obj)} {σ : L2.St} {H : Hp} {s : Shared} {a : Addr} {xs : List V} {R : It → Hp → Prop} (I : Inv X pins σ H s) (hq : SqL X.K H a xs) (q : R (Itl X.K a) H) : wpAny (model X.prog X.w) X.A (pyIter (.ref a)) (PIE X pins σ tg R) X.xe s := by
  obtain ⟨its, rv, p, hz⟩ := I.list hq
  refine wpAny_pyIter_list p.isList ?_
  refine ⟨s.heap.objs.size, [s.heap.objs.size], _, _, H, rfl, I.kept (t' := s.toks) fun b o e => Heap.get?_push_of_some _ e, turn_list a _, ⟨_, Heap.get?_push_size _ rfl, rfl, rfl⟩, fun b hb => ?_, q⟩
  have e : b = s.heap.objs.size := by simpa using hb
  subst e
  exact I.fpOk (Nat.le_refl _) (I.hok.fresh (Nat.le_refl _))
theorem it_tup {pins : List (Addr × Obj)} {σ : L2.St} {H : Hp} {s : Shared} {a : Addr} {xs : List V} {R : It → Hp → Prop} (I : Inv X pins σ H s) (hq : SqT X.K H a xs) (q : R (Itt X.K a) H) : wpAny (model X.prog X.w) X.A (pyIter (.ref a)) (PIE X pins σ tg R) X.xe s := by
  obtain ⟨its, rv, p, hz⟩ := I.tuple hq
  refine wpAny_pyIter_tuple (show s.heap.IsTuple a its.toArray from p) ?_
  refine ⟨s.heap.objs.size, [s.heap.objs.size], _, _, H, rfl, I.kept (t' := s.toks) fun b o e => Heap.get?_push_of_some _ e, turn_tuple a _, ⟨_, Heap.get?_push_size _ rfl, rfl, rfl⟩, fun b hb => ?_, q⟩
  have e : b = s.heap.objs.size := by simpa using hb
  subst e
  exact I.fpOk (Nat.le_refl _) (I.hok.fresh (Nat.le_refl _))
theorem it_str {pins : List (Addr × Obj)} {σ : L2.St} {H : Hp} {s : Shared} {x : Str} {t : Tok} {R : It → Hp → Prop} (I : Inv X pins σ H s) (q : R (Its x) H) : wpAny (model X.prog X.w) X.A (pyIter (.str x t)) (PIE X pins σ tg R) X.xe s := by
  cases ha : x.cps.all (· < 128)
  · exact wpAny_pyIter_wide ha (pi_one (tk := s.toks) I _ (turn_str _ x t "str_iterator" (.inr rfl)) ⟨_, Heap.get?_push_size _ rfl, rfl, rfl⟩ q)
  · exact wpAny_pyIter_ascii ha (pi_one (tk := s.toks) I _ (turn_str _ x t "str_ascii_iterator" (.inl rfl)) ⟨_, Heap.get?_push_size _ rfl, rfl, rfl⟩ q)
/-- a list, a tuple or a text walked -/
theorem si_val {e : Expr} {f : En → M Vl} (h : SE X T W e f) : SI X T W tg e (mIt f) := by
  refine ⟨fun pins s σ H R I q => ?_⟩
  obtain ⟨ρ, μ, S, sr, er, q⟩ := q
  refine thn (h.run pins s σ H (fun x H1 => ∀ (u : Value) (s1 : Shared), Inv X pins σ H1 s1 → RelV x u → wpAny (model X.prog X.w) X.A (pyIter u) (PIE X pins σ tg R) X.xe s1) I ⟨ρ, μ, S, sr, er, Pst.bnd_ q fun v S1 H1 μ1 x e1 sr1 rx h1 => ?_⟩) fun u s1 ⟨x, H1, I1, r1, q1⟩ => q1 u s1 I1 r1
  intro u s1 I1 r1
  cases v with
  | ref n =>
    cases rx with
    | ref n hn =>
    have h1 : Pst X.K X.mg T (fun cls d H' => W cls d σ H') (fun H' μ' N' nx J => ItR X.K X.mg T H' μ' N' nx J) H1 μ1 S1.n (fun J H' => R J H') (match getR S1 n with | some _ => some (.ok (nxL n), S1) | none => none) := h1
    cases g : getR S1 n with
    | none => rw [g] at h1; exact h1.elim
    | some xs =>
      rw [g] at h1
      obtain ⟨vs, k1, k2⟩ := read_sq sr1 hn g
      cases r1
      exact it_list I1 k1 (h1 H1 μ1 _ Ext.refl sr1 (itr_list hn))
  | tup xs =>
    obtain ⟨a, vs, rfl, k1, k2⟩ := Rp.tup_at rx
    cases r1
    exact it_tup I1 k1 (h1 H1 μ1 _ Ext.refl sr1 (itr_tup k1 k2))
  | str z =>
    cases rx
    obtain ⟨t, rfl⟩ := r1
    exact it_str I1 (h1 H1 μ1 _ Ext.refl sr1 itr_str)
  | _ => exact h1.elim
theorem si_rng1 {a : Expr} {g : En → M (List Vl)} (hm : X.mg "range" = none) (h : SA X T W [a] g) (hg : Gl X "range" := by rfl) (hs : starEach [a] X.env = [(false, eval a X.env)] := by rfl) : SI X T W tg (.Call (.Name "range" p) [a] [] pos) (mItR1 g) := by
  refine PI.imp (pi_range1 hg hm h hs) fun σ H R q => ?_
  obtain ⟨ρ, μ, S, sr, er, q⟩ := q
  refine ⟨ρ, μ, S, sr, er, Pst.bnd_ q fun vs S1 H1 μ1 x e1 sr1 rx h1 => ?_⟩
  cases e : asI1 vs with
  | none => rw [e] at h1; exact h1.elim
  | some j =>
    rw [e] at h1
    simp only at h1
    by_cases hz : -(2 ^ 62) ≤ j ∧ j < 2 ^ 62
    · rw [if_pos hz] at h1
      exact ⟨j, asI1_rel e rx, hz.1, hz.2, h1 H1 μ1 _ Ext.refl sr1 itr_rng⟩
    · rw [if_neg hz] at h1; exact h1.elim
end

/-! ### for -/
def forN (nx : Nxt) (g : Vl → En → MO En) (b : MS) : Nat → Nat → MS
  | 0, _ => fun _ _ => none
  | n + 1, i => fun ρ S => match nx i S with
    | none => none
    | some none => some (.nx, ρ, S)
    | some (some v) => match g v ρ S with
      | none => none
      | some (ρ1, S1) => match b ρ1 S1 with
        | some (.nx, ρ', S2) => forN nx g b n (i + 1) ρ' S2
        | some (.ct, ρ', S2) => forN nx g b n (i + 1) ρ' S2
        | some (.bk, ρ', S2) => some (.nx, ρ', S2)
        | o => o
noncomputable def sFor (fi : En → M Nxt) (g : Vl → En → MO En) (b : MS) : MS := fun ρ S => match fi ρ S with
  | none => none
  | some (.exc c f v, S') => some (.ex c f v, ρ, S')
  | some (.ok nx, S') => lim fun n => forN nx g b n 0 ρ S'
section
variable {X : Cx} {T : Tb} {W : WX} {tg : Expr} {pos p : Pos}
theorem ss_for {iter : Expr} {body : List Stmt} {fi : En → M Nxt} {g : Vl → En → MO En} {b : MS} (hp : PassesOwn (model X.prog X.w) X.A X.env X.xe) (hc : X.calm = true) (hi : SI X T W tg iter fi) (hg : SG X T tg g) (hb : SSs X T W body b)
    (hs : ∀ x, foldedSetIterable iter X.env x = pure x := by intro _; rfl) : SS X T W (.For tg iter body [] pos) (sFor fi g b) := by
  refine PS.imp (ps_for hp hc hi hg hb hs) fun D σ H q => ?_
  obtain ⟨ρ, μ, S, sr, er, q⟩ := q
  refine ⟨ρ, μ, S, sr, er, ?_⟩
  unfold sFor at q
  cases e : fi ρ S with
  | none => rw [e] at q; exact q
  | some pp =>
    obtain ⟨r, S'⟩ := pp
    rw [e] at q
    cases r with
    | exc c f v => exact exc_of er q
    | ok nx =>
      intro H₁ μ₁ J e' sr' ir
      obtain ⟨n, q⟩ := pstS_lim q
      refine ⟨fun i m σ H => ∃ (ρ : En) (μ : Nat → Addr) (S : Sto), Ext H₁ μ₁ S'.n H μ S.n ∧ SRel X.K X.mg T H μ S ∧ ERel X.K X.mg H μ S.n ρ σ ∧ PstS X.K X.mg T W H μ S.n D (forN nx g b m i ρ S), ⟨n, ρ, μ₁, S', Ext.refl, sr', er.ext e', q.step e'⟩, fun i m σ H hw => ?_⟩
      obtain ⟨ρ, μ, S, ex, sr, er, q⟩ := hw
      cases m with
      | zero => exact q.elim
      | succ m =>
        unfold forN at q
        cases en : nx i S with
        | none => rw [en] at q; exact q.elim
        | some o =>
          rw [en] at q
          cases o with
          | none => exact .inl ⟨ir.stop i H μ S ex sr en, q H μ σ Ext.refl sr er⟩
          | some v =>
            refine .inr ⟨ir.go i H μ S v ex sr en, _, fun σ' H' hh => ⟨m, Nat.lt_succ_self m, hh⟩, fun x H' y => ?_⟩
            obtain ⟨e2, sr2, r2⟩ := ir.yld i H μ S v ex sr en x H' y
            refine ⟨ρ, μ, S, v, sr2, er.ext e2, r2, ?_⟩
            simp only at q
            cases eg : g v ρ S with
            | none => rw [eg] at q; exact q
            | some p1 =>
              obtain ⟨ρ1, S1⟩ := p1
              rw [eg] at q
              intro H3 μ3 σ3 e3 sr3 er3
              refine ⟨ρ1, μ3, S1, sr3, er3, ?_⟩
              have e13 := e2.trans e3
              simp only at q
              cases eb : b ρ1 S1 with
              | none => rw [eb] at q; exact q
              | some p2 =>
                obtain ⟨f2, ρ2, S2⟩ := p2
                rw [eb] at q
                cases f2 with
                | nx => exact fun H4 μ4 σ4 e4 sr4 er4 => ⟨ρ2, μ4, S2, ex.trans (e13.trans e4), sr4, er4, q.step (e13.trans e4)⟩
                | ct => exact fun H4 μ4 σ4 e4 sr4 er4 => ⟨ρ2, μ4, S2, ex.trans (e13.trans e4), sr4, er4, q.step (e13.trans e4)⟩
                | bk => exact fun H4 μ4 σ4 e4 sr4 er4 => q H4 μ4 σ4 (e13.trans e4) sr4 er4
                | rt v => exact fun H4 μ4 x4 e4 sr4 r4 => q H4 μ4 x4 (e13.trans e4) sr4 r4
                | ex c f v => exact fun H4 μ4 σ4 cls d e4 sr4 er4 => q H4 μ4 σ4 cls d (e13.trans e4) sr4 er4
end
end Q

set_option linter.all false
set_option maxRecDepth 100000
set_option maxHeartbeats 400000
namespace Q
open PySem PySem.Spec PyProof.Rows L2

/-! ### comprehensions -/
inductive Tg where
  | nm (i : Nat) | tp (is : List Nat)
def setAll : List Nat → List Vl → En → Option En
  | [], [], ρ => some ρ
  | i :: is, x :: xs, ρ => setAll is xs (ρ.set i (some x))
  | _, _, _ => none
def Tg.run : Tg → Vl → En → Option En
  | .nm i, v, ρ => some (ρ.set i (some v))
  | .tp is, .tup xs, ρ => setAll is xs ρ
  | .tp _, _, _ => none
def Tg.slots : Tg → List Nat
  | .nm i => [i]
  | .tp is => is
def gNms : List Nat → TGs
  | [] => gNil
  | i :: is => gCons (gName i) (gNms is)
def Tg.rd (K : PySem.W.Frag) : Tg → TG
  | .nm i => gName i
  | .tp is => gTup K is.length (gNms is)
def wipeE (ρ : En) : List Nat → En
  | [] => ρ
  | v :: vs => (wipeE ρ vs).set v none
theorem wipe_set {σ : L2.St} {i : Nat} {x : Option V} : ∀ {vs : List Nat}, i ∈ vs → wipe (σ.set i x) vs = wipe σ vs
  | v :: vs, h => by
    unfold wipe
    by_cases e : i ∈ vs
    · rw [wipe_set e]
    · have e2 : i = v := by
        rcases List.mem_cons.mp h with z | z
        · exact z
        · exact absurd z e
      subst e2
      have key : ∀ {vs : List Nat}, i ∉ vs → wipe (σ.set i x) vs = (wipe σ vs).set i x := by
        intro vs
        induction vs with
        | nil => intro _; rfl
        | cons w ws ih =>
          intro hn
          unfold wipe
          rw [ih (fun z => hn (List.mem_cons_of_mem _ z)), List.set_comm _ _ (fun z => hn (by rw [z]; exact List.mem_cons_self))]
      rw [key e, List.set_set]
theorem wipe_wipe {σ : L2.St} : ∀ (vs ws : List Nat), (∀ v ∈ vs, v ∈ ws) → wipe (wipe σ vs) ws = wipe σ ws
  | [], _, _ => rfl
  | v :: vs, ws, h => by
    show wipe ((wipe σ vs).set v none) ws = _
    rw [wipe_set (h v List.mem_cons_self), wipe_wipe vs ws (fun u hu => h u (List.mem_cons_of_mem _ hu))]
section
variable {K : PySem.W.Frag} {mg : Str → Option Value} {T : Tb} {H : Hp} {μ : Nat → Addr} {N : Nat}
theorem ERel.unset {ρ : En} {σ : L2.St} (h : ERel K mg H μ N ρ σ) (i : Nat) {o : Option V} : ERel K mg H μ N (ρ.set i none) (σ.set i o) := by
  refine ⟨by simp [h.len], fun j w q => ?_⟩
  by_cases e : i = j
  · subst e
    by_cases hl : i < ρ.length
    · rw [List.getElem?_set_self hl] at q; cases q
    · rw [List.getElem?_eq_none (by simpa using hl)] at q; cases q
  · rw [List.getElem?_set_ne e] at q
    obtain ⟨y, h1, h2⟩ := h.at_ j w q
    exact ⟨y, by rw [List.getElem?_set_ne e]; exact h1, h2⟩
theorem ERel.wipe {ρ : En} {σ : L2.St} (h : ERel K mg H μ N ρ σ) : ∀ vs, ERel K mg H μ N (wipeE ρ vs) (wipe σ vs)
  | [] => h
  | v :: vs => (ERel.wipe h vs).unset v
theorem gNms_of {ws : List Nat} : ∀ {is : List Nat} {xs : List Vl} {vs : List V} {ρ ρ1 : En} {σ : L2.St} {Q : L2.St → Hp → Prop}, setAll is xs ρ = some ρ1 → RpAll K mg H μ N xs vs → ERel K mg H μ N ρ σ → (∀ i ∈ is, i ∈ ws) →
    (∀ σ2, ERel K mg H μ N ρ1 σ2 → L2.wipe σ2 ws = L2.wipe σ ws → Q σ2 H) → gNms is vs σ H Q
  | [], [], _, _, _, σ, _, e, .nil, er, _, q => by cases e; exact ⟨rfl, q σ er rfl⟩
  | i :: is, x :: xs, _, _, _, σ, _, e, .cons r rs, er, hs, q => by
    refine ⟨_, _, rfl, gNms_of (ws := ws) e rs (er.set i r) (fun j hj => hs j (List.mem_cons_of_mem _ hj)) fun σ2 e2 w2 => q σ2 e2 ?_⟩
    rw [w2, wipe_set (hs i List.mem_cons_self)]
  | [], _ :: _, _, _, _, _, _, e, _, _, _, _ => by cases e
  | _ :: _, [], _, _, _, _, _, e, _, _, _, _ => by cases e
theorem setAll_len : ∀ {is : List Nat} {xs : List Vl} {ρ ρ1 : En}, setAll is xs ρ = some ρ1 → is.length = xs.length
  | [], [], _, _, _ => rfl
  | _ :: is, _ :: xs, _, _, e => by
    have := setAll_len (is := is) (xs := xs) e
    simp [this]
  | [], _ :: _, _, _, e => by cases e
  | _ :: _, [], _, _, e => by cases e
theorem Tg.rd_of {t : Tg} {v : Vl} {x : V} {ρ ρ1 : En} {σ : L2.St} {ws : List Nat} {Q : L2.St → Hp → Prop} (e : t.run v ρ = some ρ1) (r : Rp K mg H μ N v x) (er : ERel K mg H μ N ρ σ) (hs : ∀ i ∈ t.slots, i ∈ ws)
    (q : ∀ σ2, ERel K mg H μ N ρ1 σ2 → L2.wipe σ2 ws = L2.wipe σ ws → Q σ2 H) : t.rd K x σ H Q := by
  cases t with
  | nm i =>
    cases e
    exact q _ (er.set i r) (wipe_set (hs i List.mem_cons_self))
  | tp is =>
    cases v with
    | tup xs =>
      obtain ⟨a, vs, rfl, h1, r1⟩ := r.tup_at
      exact ⟨a, vs, rfl, h1, by rw [← r1.length, setAll_len e], gNms_of e r1 er hs q⟩
    | _ => cases e
end
def lcN (nx : Nxt) (t : Tg) (c : En → M Bool) (f : En → M Vl) (D : Nat) (ρ : En) : Nat → Nat → Sto → Option Sto
  | 0, _, _ => none
  | n + 1, i, S => match nx i S with
    | none => none
    | some none => some S
    | some (some v) => match t.run v ρ with
      | none => none
      | some ρ1 => match c ρ1 S with
        | some (.ok true, S1) => (match f ρ1 S1 with
          | some (.ok y, S2) => (match S2.at_ D with
            | .lst acc => if acc.length < sizeLine then lcN nx t c f D ρ n (i + 1) (S2.set D (.lst (acc ++ [y]))) else none
            | _ => none)
          | _ => none)
        | some (.ok false, S1) => lcN nx t c f D ρ n (i + 1) S1
        | _ => none
noncomputable def mLc (fi : En → M Nxt) (t : Tg) (c : En → M Bool) (f : En → M Vl) (vs : List Nat) : En → M Vl := fun ρ S => match fi ρ S with
  | none => none
  | some (.exc c g v, S') => some (.exc c g v, S')
  | some (.ok nx, S') => match lim fun n => lcN nx t c f S'.n (wipeE ρ vs) n 0 (S'.push (.lst [])) with
    | none => none
    | some S2 => some (.ok (.ref S'.n), S2)
abbrev W0 : WX := fun _ _ _ _ => False
def mTrue : En → M Bool := fun _ => ret true
section
variable {X : Cx} {T : Tb} {W : WX} {tg : Expr} {pos p : Pos}
abbrev STs (X : Cx) (T : Tb) (W : WX) (es : List Expr) (f : En → M Bool) : Prop := PTs X es (tOfT X.K X.mg T W f)
theorem PTs.imp {X : Cx} {es : List Expr} {t t' : TT} (h : PTs X es t) (i : ∀ σ H Q, t' σ H Q → t σ H Q) : PTs X es t' := ⟨fun pins s σ H Q I q => h.run pins s σ H Q I (i σ H Q q)⟩
theorem sts_nil : STs X T W [] mTrue := PTs.imp pts_nil fun σ H Q ⟨ρ, μ, S, sr, er, q⟩ => Pst.here (x := true) q sr rfl
theorem sts_one {c : Expr} {f : En → M Bool} (h : ST X T W c f) : STs X T W [c] f := pts_one h
theorem lc_of {K : PySem.W.Frag} {mg : Str → Option Value} {T : Tb} {W : WX} {fi : En → M Nxt} {t : Tg} {c : En → M Bool} {f : En → M Vl} {vs : List Nat} (hs : ∀ i ∈ t.slots, i ∈ vs) {σ : L2.St} {H : Hp} {Q : VK} (q : tOf K mg T W (mLc fi t c f vs) σ H Q) :
    tLc (tOfI K mg T W fi) (t.rd K) (tOfT K mg T W0 c) (tOf K mg T W0 f) vs σ H Q := by
  obtain ⟨ρ, μ, S, sr, er, q⟩ := q
  refine ⟨ρ, μ, S, sr, er, ?_⟩
  unfold mLc at q
  cases e : fi ρ S with
  | none => rw [e] at q; exact q
  | some pp =>
    obtain ⟨r, S'⟩ := pp
    rw [e] at q
    cases r with
    | exc c f v => exact q
    | ok nx =>
      intro H₁ μ₁ J e' sr' ir D hD
      simp only at q
      cases el : lim fun n => lcN nx t c f S'.n (wipeE ρ vs) n 0 (S'.push (.lst [])) with
      | none => rw [el] at q; exact q.elim
      | some Sf =>
        rw [el] at q
        obtain ⟨n, el⟩ := lim_some el
        have eN := ext_new (μ := μ₁) (o := HO.lst []) hD S'.n (S'.n + 1) (Nat.le_succ _)
        have srN : SRel K mg T (upd H₁ D (.lst [])) (mu1 μ₁ S'.n D) (S'.push (.lst [])) := sr'.push hD ⟨[], upd_same, .nil⟩
        refine ⟨fun i m H => ∃ (μ : Nat → Addr) (S : Sto), Ext (upd H₁ D (.lst [])) (mu1 μ₁ S'.n D) (S'.n + 1) H μ S.n ∧ SRel K mg T H μ S ∧ lcN nx t c f S'.n (wipeE ρ vs) m i S = some Sf, ⟨n, _, _, Ext.refl, srN, el⟩, fun i m H hw => ?_⟩
        obtain ⟨μ, S, ex, sr, el⟩ := hw
        have ex1 := eN.trans ex
        have hDn : S'.n < S.n := Nat.lt_of_lt_of_le (Nat.lt_succ_self _) ex.le
        have muD : μ S'.n = D := by rw [ex.mu _ (Nat.lt_succ_self _), mu1_same]
        cases m with
        | zero => cases el
        | succ m =>
          unfold lcN at el
          cases en : nx i S with
          | none => rw [en] at el; cases el
          | some o =>
            rw [en] at el
            cases o with
            | none =>
              cases el
              refine .inl ⟨ir.stop i H μ _ ex1 sr en, ?_⟩
              have := Rp.ref (K := K) (mg := mg) (H := H) (μ := μ) S'.n hDn
              rw [muD] at this
              exact q H μ (.ref D) (e'.trans ex1) sr this
            | some v =>
              refine .inr ⟨ir.go i H μ S v ex1 sr en, _, fun H' hh => ⟨m, Nat.lt_succ_self m, hh⟩, fun x H' y => ?_⟩
              obtain ⟨e2, sr2, r2⟩ := ir.yld i H μ S v ex1 sr en x H' y
              simp only at el
              cases et : t.run v (wipeE ρ vs) with
              | none => rw [et] at el; cases el
              | some ρ1 =>
                rw [et] at el
                have erw : ERel K mg H' μ S.n (wipeE ρ vs) (wipe σ vs) := (er.ext ((e'.trans ex1).trans e2)).wipe vs
                refine Tg.rd_of et r2 erw hs fun σ2 er2 w2 => ⟨by rw [w2, wipe_wipe vs vs fun _ h => h], ρ1, μ, S, sr2, er2, ?_⟩
                simp only at el
                cases ec : c ρ1 S with
                | none => rw [ec] at el; cases el
                | some pc =>
                  obtain ⟨rc, S1⟩ := pc
                  rw [ec] at el
                  cases rc with
                  | exc c f v => cases el
                  | ok b =>
                    intro H3 μ3 b' e3 sr3 rb
                    cases (show b = b' from rb)
                    cases b with
                    | false => exact ⟨μ3, S1, (ex.trans e2).trans e3, sr3, el⟩
                    | true =>
                      rw [if_pos rfl]
                      refine ⟨ρ1, μ3, S1, sr3, er2.ext e3, ?_⟩
                      simp only at el
                      cases ef : f ρ1 S1 with
                      | none => rw [ef] at el; cases el
                      | some pf =>
                        obtain ⟨rf, S2⟩ := pf
                        rw [ef] at el
                        cases rf with
                        | exc c f v => cases el
                        | ok y =>
                          intro H4 μ4 yv e4 sr4 ry
                          have exx := ((ex.trans e2).trans e3).trans e4
                          have hD4 : S'.n < S2.n := Nat.lt_of_lt_of_le (Nat.lt_succ_self _) exx.le
                          have mu4 : μ4 S'.n = D := by rw [exx.mu _ (Nat.lt_succ_self _), mu1_same]
                          simp only at el
                          cases ea : S2.at_ S'.n with
                          | lst acc =>
                            rw [ea] at el
                            simp only at el
                            have ob := sr4.at_ _ hD4
                            rw [ea, mu4] at ob
                            obtain ⟨as, k1, k2⟩ := ob
                            by_cases hz : acc.length < sizeLine
                            · rw [if_pos hz] at el
                              refine ⟨as, k1, by rw [← k2.length]; exact hz, ?_⟩
                              have wr := sr4.write (k := S'.n) (o := .lst (as ++ [yv])) (ob := .lst (acc ++ [y])) hD4 (by rw [ea]; rfl) rfl (by rw [mu4, k1]; intro xs z; cases z) (by rw [mu4, k1]; intro o u z; cases z) (by rw [mu4, k1]; intro o z; cases z) (by rw [mu4, k1]; intro o z; cases z) (fun ew => by
                                rw [mu4] at ew ⊢
                                exact ⟨_, upd_same, (k2.ext ew).append (.cons (ry.ext ew) .nil)⟩)
                              rw [mu4] at wr
                              exact ⟨μ4, S2.set S'.n (.lst (acc ++ [y])), exx.trans wr.2, wr.1, el⟩
                            · rw [if_neg hz] at el; cases el
                          | _ => rw [ea] at el; cases el
/-- [elt for tg in iter if ..] -/
theorem se_lc {elt iter : Expr} {ifs : List Expr} {scope : Scope} (own : List (Str × Nat)) {fi : En → M Nxt} {t : Tg} {c : En → M Bool} {f : En → M Vl} (hc : X.calm = true) (hN : X.N.Nodup) (hi : SI X T W tg iter fi) (ok : BlkOk X.N X.env.scope scope own)
    (hg : ∀ (s : Shared) (H : Hp) (C : Addr) (cl : List (Str × Addr)) (fp : List Addr), PG (X.blk s H scope (compEnvC scope cl C X.env) fp) tg (t.rd X.K)) (ht : ∀ (s : Shared) (H : Hp) (C : Addr) (cl : List (Str × Addr)) (fp : List Addr), STs (X.blk s H scope (compEnvC scope cl C X.env) fp) T W0 ifs c)
    (he : ∀ (s : Shared) (H : Hp) (C : Addr) (cl : List (Str × Addr)) (fp : List Addr), SE (X.blk s H scope (compEnvC scope cl C X.env) fp) T W0 elt f) (hsl : ∀ i ∈ t.slots, i ∈ own.map (·.2) := by decide) (hs : ∀ x, foldedSetIterable iter X.env x = pure x := by intro _; rfl) :
    SE X T W (.ListComp elt [⟨tg, iter, ifs, 0⟩] scope pos) (mLc fi t c f (own.map (·.2))) :=
  PE.imp (pe_lc (tt := tOfT X.K X.mg T W0 c) (te := tOf X.K X.mg T W0 f) hc hN hi ok hg ht he hs) fun σ H Q q => lc_of hsl q
/-- name = [..] -/
theorem ss_setLc (i : Nat) {y : Str} {py : Pos} {elt iter : Expr} {ifs : List Expr} {scope : Scope} (own : List (Str × Nat)) {spos : Pos} {fi : En → M Nxt} {t : Tg} {c : En → M Bool} {f : En → M Vl} (hc : X.calm = true) (hN : X.N.Nodup) (hsw : swapsWith (.ListComp elt [⟨tg, iter, ifs, 0⟩] scope pos) (some (.Name y py)) spos.line X.env = pure true) (hi : SI X T W tg iter fi) (ok : BlkOk X.N X.env.scope scope own)
    (hg : ∀ (s : Shared) (H : Hp) (C : Addr) (cl : List (Str × Addr)) (fp : List Addr), PG (X.blk s H scope (compEnvC scope cl C X.env) fp) tg (t.rd X.K)) (ht : ∀ (s : Shared) (H : Hp) (C : Addr) (cl : List (Str × Addr)) (fp : List Addr), STs (X.blk s H scope (compEnvC scope cl C X.env) fp) T W0 ifs c)
    (he : ∀ (s : Shared) (H : Hp) (C : Addr) (cl : List (Str × Addr)) (fp : List Addr), SE (X.blk s H scope (compEnvC scope cl C X.env) fp) T W0 elt f) (hsl : ∀ i ∈ t.slots, i ∈ own.map (·.2) := by decide)
    (hy : X.N[i]? = some y := by rfl) (hyl : X.env.scope.names.lookup y = some .local := by rfl) (hs : ∀ x, foldedSetIterable iter X.env x = pure x := by intro _; rfl) :
    SS X T W (.Assign [.Name y py] (.ListComp elt [⟨tg, iter, ifs, 0⟩] scope pos) spos) (sAsg (mLc fi t c f (own.map (·.2))) (gNm i)) := by
  refine PS.imp (ps_setLc (tt := tOfT X.K X.mg T W0 c) (te := tOf X.K X.mg T W0 f) hc hN hy hyl hsw hi ok hg ht he hs) fun D σ H q => ?_
  obtain ⟨ρ, μ, S, sr, er, q⟩ := q
  refine lc_of (W := W) hsl ⟨ρ, μ, S, sr, er, ?_⟩
  unfold sAsg at q
  cases e : mLc fi t c f (own.map (·.2)) ρ S with
  | none => rw [e] at q; exact q
  | some p =>
    obtain ⟨r, S'⟩ := p
    rw [e] at q
    cases r with
    | ok v => exact fun H' μ' x e' sr' rx => q H' μ' _ e' sr' ((er.ext e').set i rx)
    | exc c g v => exact exc_of er q
theorem tg_nm (i : Nat) {X : Cx} {x : Str} {pos : Pos} (hN : X.N.Nodup) (hi : X.N[i]? = some x := by rfl) (hx : Loc X.env.scope x := by first | exact Or.inl rfl | exact Or.inr rfl) (hf : X.fn x = true ∨ X.env.scope.names.lookup x = some .local := by first | exact .inl rfl | exact .inr rfl | assumption) : PG X (.Name x pos) (Tg.rd X.K (.nm i)) := pg_name hN hi hx hf
end
end Q

set_option linter.all false
set_option maxRecDepth 100000
set_option maxHeartbeats 400000
namespace Q
open PySem PySem.Spec PyProof.Rows L2

/-! ### dicts with keys that are ints or texts -/
def keyEq : Vl → Vl → Bool
  | .int i, .int j => i == j
  | .str a, .str b => a == b
  | _, _ => false
def dGet (kvs : List (Vl × Vl)) (k : Vl) : Option Vl := (kvs.find? fun p => keyEq p.1 k).map (·.2)
def dPut (kvs : List (Vl × Vl)) (k v : Vl) : List (Vl × Vl) :=
  if (kvs.any fun p => keyEq p.1 k) = true then kvs.map fun p => if keyEq p.1 k then (p.1, v) else p else kvs ++ [(k, v)]
def getD (S : Sto) (n : Nat) : Option (List (Vl × Vl)) := match S.at_ n with
  | .dic _ kvs => some kvs
  | _ => none
section
variable {K : PySem.W.Frag} {mg : Str → Option Value} {T : Tb} {H : Hp} {μ : Nat → Addr} {S : Sto} {N : Nat}
theorem keyOf_rel {k : Vl} {κ : Key} {x : V} (h : keyOf k = some κ) (r : Rp K mg H μ N k x) : x = kV κ := by
  cases k with
  | int i => cases h; cases r; rfl
  | str i => cases h; cases r; rfl
  | _ => cases h
theorem keyEq_iff {a b : Vl} {κ κ' : Key} (h : keyOf a = some κ) (h' : keyOf b = some κ') : keyEq a b = decide (κ = κ') := by
  cases a with
  | int i =>
    cases b with
    | int j => cases h; cases h'; rw [Bool.eq_iff_iff]; simp [keyEq]
    | str j => cases h; cases h'; simp [keyEq]
    | _ => cases h'
  | str i =>
    cases b with
    | int j => cases h; cases h'; simp [keyEq]
    | str j => cases h; cases h'; rw [Bool.eq_iff_iff]; simp [keyEq]
    | _ => cases h'
  | _ => cases h
theorem RpK.get {k : Vl} {κ : Key} (hk : keyOf k = some κ) : ∀ {kvs : List (Vl × Vl)} {vs : List (Key × V)}, RpK K mg H μ N kvs vs → (∀ x, dGet kvs k = some x → ∃ v, valV vs κ = some v ∧ Rp K mg H μ N x v) ∧ (dGet kvs k = none → valV vs κ = none)
  | _, _, .nil => ⟨fun _ e => (by cases e), fun _ => rfl⟩
  | _, _, .cons (k := k0) (x := x0) (κ := κ0) (v := v0) (xs := xs) (vs := ws) h0 r rs => by
    have ih := RpK.get hk rs
    by_cases e : κ0 = κ
    · have q : keyEq k0 k = true := by rw [keyEq_iff h0 hk]; exact decide_eq_true e
      have q1 : dGet ((k0, x0) :: xs) k = some x0 := by unfold dGet; rw [List.find?_cons, q]; rfl
      refine ⟨fun x hx => ?_, fun hx => by rw [q1] at hx; cases hx⟩
      rw [q1] at hx; cases hx
      exact ⟨v0, valV_pos e, r⟩
    · have q : keyEq k0 k = false := by rw [keyEq_iff h0 hk]; exact decide_eq_false e
      have q1 : dGet ((k0, x0) :: xs) k = dGet xs k := by unfold dGet; rw [List.find?_cons, q]
      rw [q1, valV_neg (p := (κ0, v0)) e]
      exact ih
theorem RpK.length {kvs : List (Vl × Vl)} {vs : List (Key × V)} (h : RpK K mg H μ N kvs vs) : kvs.length = vs.length := by
  induction h with
  | nil => rfl
  | cons _ _ _ ih => simp [ih]
theorem RpK.any {k : Vl} {κ : Key} (hk : keyOf k = some κ) {kvs : List (Vl × Vl)} {vs : List (Key × V)} (h : RpK K mg H μ N kvs vs) : (kvs.any fun p => keyEq p.1 k) = vs.any fun p => decide (p.1 = κ) := by
  induction h with
  | nil => rfl
  | cons h0 _ _ ih => rw [List.any_cons, List.any_cons, ih, keyEq_iff h0 hk]
theorem RpK.map {k : Vl} {κ : Key} (hk : keyOf k = some κ) {x : Vl} {v : V} (rv : Rp K mg H μ N x v) {kvs : List (Vl × Vl)} {vs : List (Key × V)} (h : RpK K mg H μ N kvs vs) :
    RpK K mg H μ N (kvs.map fun p => if keyEq p.1 k then (p.1, x) else p) (vs.map fun p => if p.1 = κ then (p.1, v) else p) := by
  induction h with
  | nil => exact .nil
  | @cons k0 x0 κ0 v0 xs ws h0 r _ ih =>
    rw [List.map_cons, List.map_cons, keyEq_iff h0 hk]
    by_cases e : κ0 = κ
    · simp only [e, decide_true, if_true]; exact .cons (by rw [← e]; exact h0) rv ih
    · simp only [e, decide_false, if_false]; exact .cons h0 r ih
theorem RpK.append {kvs kvs' : List (Vl × Vl)} {vs vs' : List (Key × V)} (h : RpK K mg H μ N kvs vs) (h' : RpK K mg H μ N kvs' vs') : RpK K mg H μ N (kvs ++ kvs') (vs ++ vs') := by
  induction h with
  | nil => exact h'
  | cons h0 r _ ih => exact .cons h0 r ih
theorem RpK.put {k : Vl} {κ : Key} (hk : keyOf k = some κ) {x : Vl} {v : V} (rv : Rp K mg H μ N x v) {kvs : List (Vl × Vl)} {vs : List (Key × V)} (h : RpK K mg H μ N kvs vs) : RpK K mg H μ N (dPut kvs k x) (putK vs κ v) := by
  unfold dPut putK
  rw [h.any hk]
  by_cases e : (vs.any fun p => decide (p.1 = κ)) = true
  · rw [if_pos e, if_pos e]; exact h.map hk rv
  · rw [if_neg e, if_neg e]; exact h.append (.cons hk rv .nil)
theorem dic_at {n : Nat} {lk : Bool} {kvs : List (Vl × Vl)} (sr : SRel K mg T H μ S) (hn : n < S.n) (e : S.at_ n = .dic lk kvs) : ∃ vs, Rd H (μ n) (.dK vs) ∧ RpK K mg H μ S.n kvs vs := by
  have q := sr.at_ n hn
  rw [e] at q
  cases lk with
  | false => obtain ⟨vs, h1, h2⟩ := q; exact ⟨vs, .inl h1, h2⟩
  | true => obtain ⟨o, vs, h1, h2⟩ := q; exact ⟨vs, .inr ⟨o, h1⟩, h2⟩
theorem getD_at {n : Nat} {kvs : List (Vl × Vl)} (sr : SRel K mg T H μ S) (hn : n < S.n) (e : getD S n = some kvs) : ∃ vs, Rd H (μ n) (.dK vs) ∧ RpK K mg H μ S.n kvs vs := by
  unfold getD at e
  cases q : S.at_ n with
  | dic lk ks => rw [q] at e; cases e; exact dic_at sr hn q
  | _ => rw [q] at e; cases e
theorem DGet.rd {a : Addr} {vs : List (Key × V)} {κ : Key} (e : Rd H a (.dK vs)) : DGet H a (kV κ) (valV vs κ) := .inl ⟨vs, κ, e, rfl, rfl⟩
end
/-- o[i] -/
def bSub' : Vl → Vl → MO Vl := fun a b S => match a with
  | .ref n => (match getD S n with
    | some kvs => (match keyOf b with
      | some _ => (match dGet kvs b with | some v => some (v, S) | none => none)
      | none => none)
    | none => bIdx a b S)
  | _ => bIdx a b S
section
variable {X : Cx} {T : Tb} {W : WX} {pos : Pos}
theorem ixr_idx : IxR X (rOf X.K X.mg T bIdx) := by
  intro value slice pins s σ H x y v u Q I rx ry h hs
  obtain ⟨μ, S, a, b, sr, ra, rb, h⟩ := h
  cases b with
  | int i =>
    cases rb
    cases a with
    | tup xs =>
      obtain ⟨p, vs, rfl, h1, r1⟩ := ra.tup_at
      have h : PstO X.K X.mg T (rl X.K X.mg) H μ S.n Q (match atI xs i with | some v => some (v, S) | none => none) := h
      cases q : atI xs i with
      | none => rw [q] at h; exact h.elim
      | some w =>
        rw [q] at h
        obtain ⟨z, h2, r2⟩ := atI_rel r1 q
        exact ix_tup value slice pins s σ H _ _ v u Q I rx ry ⟨p, vs, i, z, rfl, rfl, h1, h2, h.here sr r2⟩ hs
    | ref n =>
      have h : PstO X.K X.mg T (rl X.K X.mg) H μ S.n Q (match getR S n with
        | some xs => match atI xs i with
          | some v => some (v, S)
          | none => none
        | none => none) := h
      cases g : getR S n with
      | none => rw [g] at h; exact h.elim
      | some xs =>
        rw [g] at h
        simp only at h
        obtain ⟨vs, rfl, h1, r1⟩ := ra.read_at sr g
        cases q : atI xs i with
        | none => rw [q] at h; exact h.elim
        | some w =>
          rw [q] at h
          obtain ⟨z, h2, r2⟩ := atI_rel r1 q
          exact ix_list value slice pins s σ H _ _ v u Q I rx ry ⟨_, vs, i, z, rfl, rfl, h1, h2, h.here sr r2⟩ hs
    | str z =>
      cases ra
      have h : PstO X.K X.mg T (rl X.K X.mg) H μ S.n Q (if z.length ≤ sizeLine then match atI z.cps.toList i with
          | some c => some (.str ⟨#[c]⟩, S)
          | none => none
        else none) := h
      by_cases hz : z.length ≤ sizeLine
      · rw [if_pos hz] at h
        cases q : atI z.cps.toList i with
        | none => rw [q] at h; exact h.elim
        | some c => rw [q] at h; exact ix_str value slice pins s σ H _ _ v u Q I rx ry ⟨z, i, c, rfl, rfl, hz, q, h.here sr (.str _)⟩ hs
      · rw [if_neg hz] at h; exact h.elim
    | _ => exact h.elim
  | _ => cases a <;> exact h.elim
theorem ixr_sub (hu : X.A.units + 1 < cLine) : IxR X (rOf X.K X.mg T bSub') := by
  intro value slice pins s σ H x y v u Q I rx ry h hs
  obtain ⟨μ, S, a, b, sr, ra, rb, h⟩ := h
  have other : PstO X.K X.mg T (rl X.K X.mg) H μ S.n Q (bIdx a b S) → wpAny (model X.prog X.w) X.A (subscriptTail value slice v u) (EP X pins σ Q) X.xe s := fun h' =>
    ixr_idx value slice pins s σ H x y v u Q I rx ry ⟨μ, S, a, b, sr, ra, rb, h'⟩ hs
  cases a with
  | ref n =>
    have h : PstO X.K X.mg T (rl X.K X.mg) H μ S.n Q (match getD S n with
      | some kvs => (match keyOf b with
        | some _ => (match dGet kvs b with | some v => some (v, S) | none => none)
        | none => none)
      | none => bIdx (.ref n) b S) := h
    cases g : getD S n with
    | none => rw [g] at h; exact other h
    | some kvs =>
      rw [g] at h
      simp only at h
      cases hk : keyOf b with
      | none => rw [hk] at h; exact h.elim
      | some κ =>
        rw [hk] at h
        simp only at h
        cases q : dGet kvs b with
        | none => rw [q] at h; exact h.elim
        | some w =>
          rw [q] at h
          cases ra with
          | ref n hn =>
          obtain ⟨vs, h1, h2⟩ := getD_at sr hn g
          obtain ⟨z, h3, r3⟩ := (h2.get hk).1 w q
          have e := keyOf_rel hk rb
          subst e
          cases rx
          have dg : DGet H (μ n) (kV κ) (some z) := by rw [← h3]; exact DGet.rd h1
          exact tail_any (dict_typeIs I dg) PySem.F.slot_dict_getitem.lookup (d_getItem hu I dg ry fun w' s' I' rw' => ⟨z, H, I', rw', h.here sr r3⟩) hs
  | _ => exact other h
theorem se_sub {a b : Expr} {fa fb : En → M Vl} (hu : X.A.units + 1 < cLine) (ha : SE X T W a fa) (hb : SE X T W b fb) (hs : PlainIx b := by exact fun _ _ => rfl) : SE X T W (.Subscript a b pos) (mBin bSub' fa fb) :=
  PE.imp (pe_ix (ixr_sub hu) ha hb hs) fun σ H Q h => tOp_of h
end

/-! ### o[i] = v -/
def bSet : Vl → Vl → Vl → Sto → Option Sto := fun o i v S => match o with
  | .ref n => (match S.at_ n with
    | .lst xs => (match i with
      | .int k => (match ixN xs.length k with | some j => some (S.set n (.lst (xs.set j v))) | none => none)
      | _ => none)
    | .dic false kvs => (match keyOf i with
      | some _ => if kvs.length < sizeLine then some (S.set n (.dic false (dPut kvs i v))) else none
      | none => none)
    | _ => none)
  | _ => none
def rSof (K : PySem.W.Frag) (mg : Str → Option Value) (T : Tb) : TSet := fun o i v H Q => ∃ (μ : Nat → Addr) (S S' : Sto) (a b c : Vl), SRel K mg T H μ S ∧ Rp K mg H μ S.n a o ∧ Rp K mg H μ S.n b i ∧ Rp K mg H μ S.n c v ∧ bSet a b c S = some S' ∧ ∀ H', Ext H μ S.n H' μ S'.n → SRel K mg T H' μ S' → Q H'
def gSb (fo fi : En → M Vl) : Vl → En → MO En := fun v ρ S => match fo ρ S with
  | some (.ok o, S1) => (match fi ρ S1 with
    | some (.ok i, S2) => (match bSet o i v S2 with | some S3 => some (ρ, S3) | none => none)
    | _ => none)
  | _ => none
section
variable {X : Cx} {T : Tb} {W : WX} {pos : Pos}
theorem set_both (hu : X.A.units + 1 < cLine) : PSet X (rSof X.K X.mg T) := by
  intro pins s σ H o i v ov iv u Q I ro ri rv h
  obtain ⟨μ, S, S', a, b, c, sr, ra, rb, rc, e, q⟩ := h
  cases a with
  | ref n =>
    cases ra with
    | ref n hn =>
    unfold bSet at e
    simp only at e
    cases e1 : S.at_ n with
    | lst xs =>
      rw [e1] at e
      simp only at e
      cases b with
      | int k =>
        cases rb
        simp only at e
        cases e2 : ixN xs.length k with
        | none => rw [e2] at e; cases e
        | some j =>
          rw [e2] at e
          cases e
          have ob := sr.at_ n hn
          rw [e1] at ob
          obtain ⟨vs, h1, h2⟩ := ob
          refine set_list pins s σ H _ _ v ov iv u Q I ro ri rv ⟨μ n, vs, k, j, rfl, rfl, h1, by rw [← h2.length]; exact e2, ?_⟩
          have wr := sr.write (k := n) (o := .lst (vs.set j v)) (ob := .lst (xs.set j c)) hn (by rw [e1]; rfl) rfl (by rw [h1]; intro _ z; cases z) (by rw [h1]; intro _ _ z; cases z) (by rw [h1]; intro _ z; cases z) (by rw [h1]; intro _ z; cases z) (fun ew => ⟨_, upd_same, (h2.ext ew).set j (rc.ext ew)⟩)
          exact q _ wr.2 wr.1
      | _ => cases e
    | dic lk kvs =>
      rw [e1] at e
      cases lk with
      | true => cases e
      | false =>
        simp only at e
        cases hk : keyOf b with
        | none => rw [hk] at e; cases e
        | some κ =>
          rw [hk] at e
          simp only at e
          by_cases hz : kvs.length < sizeLine
          · rw [if_pos hz] at e
            cases e
            have ob := sr.at_ n hn
            rw [e1] at ob
            obtain ⟨vs, h1, h2⟩ := ob
            have ek := keyOf_rel hk rb
            subst ek
            have wr := sr.write (k := n) (o := .dK (putK vs κ v)) (ob := .dic false (dPut kvs b c)) hn (by rw [e1]; rfl) rfl (by rw [h1]; intro _ z; cases z) (by rw [h1]; intro _ _ z; cases z) (by rw [h1]; intro _ z; cases z) (by rw [h1]; intro _ z; cases z) (fun ew => ⟨_, upd_same, (h2.ext ew).put hk (rc.ext ew)⟩)
            exact set_dict hu pins s σ H _ _ v ov iv u Q I ro ri rv ⟨μ n, _, rfl, DPut.k h1 (by rw [← h2.length]; exact hz), q _ wr.2 wr.1⟩
          · rw [if_neg hz] at e; cases e
    | _ => rw [e1] at e; cases e
  | _ => cases e
/-- o[i] as a target: neither o nor i raises -/
theorem sg_sub {o i : Expr} {fo fi : En → M Vl} (hu : X.A.units + 1 < cLine) (ho : SE X T W0 o fo) (hi : SE X T W0 i fi)
    (ha : ∀ v, assign (.Subscript o i pos) X.env v = (do
      let ov ← holding [v] (eval o X.env)
      let iv ← holding [v, ov] (eval i X.env)
      standAt pos
      holding [v, ov, iv] (setItem ov iv v)
      release [v, ov, iv] []) := by intro _; rfl) : SG X T (.Subscript o i pos) (gSb fo fi) := by
  refine PG.imp (pg_sub ho hi (set_both (T := T) hu) ha) fun v σ H Q q => ?_
  obtain ⟨ρ, μ, S, w, sr, er, rw_, q⟩ := q
  refine ⟨ρ, μ, S, sr, er, ?_⟩
  unfold gSb at q
  cases e1 : fo ρ S with
  | none => rw [e1] at q; exact q.elim
  | some p1 =>
    obtain ⟨r1, S1⟩ := p1
    rw [e1] at q
    cases r1 with
    | exc c f v => exact q.elim
    | ok o =>
      intro H1 μ1 x1 ex1 sr1 r1
      refine ⟨ρ, μ1, S1, sr1, er.ext ex1, ?_⟩
      simp only at q
      cases e2 : fi ρ S1 with
      | none => rw [e2] at q; exact q.elim
      | some p2 =>
        obtain ⟨r2, S2⟩ := p2
        rw [e2] at q
        cases r2 with
        | exc c f v => exact q.elim
        | ok i =>
          intro H2 μ2 x2 ex2 sr2 r2
          simp only at q
          cases e3 : bSet o i w S2 with
          | none => rw [e3] at q; exact q.elim
          | some S3 =>
            rw [e3] at q
            exact ⟨μ2, S2, S3, o, i, w, sr2, r1.ext ex2, r2, rw_.ext (ex1.trans ex2), e3, fun H' ex3 sr3 => q H' μ2 σ ((ex1.trans ex2).trans ex3) sr3 (er.ext ((ex1.trans ex2).trans ex3))⟩
end

/-! ### k in d, x in xs, x in text -/
/-- the text x within the text y -/
def inS (x y : Str) : Bool := !(Builtin.Str.occurrences y x 0 y.length 1).isEmpty
def bIn (neg : Bool) : Vl → Vl → MO Vl := fun a b S => match b with
  | .ref n => (match getD S n with
    | some kvs => (match keyOf a with
      | some _ => some (.bl (if neg then !(dGet kvs a).isSome else (dGet kvs a).isSome), S)
      | none => none)
    | none => (match toD S a, toD S b with
      | some d, some (.list ds) => if (SeqAt.shaped d && SeqAt.shaped (.list ds)) = true then some (.bl (if neg then !(ds.any fun z => PyData.eqv z d) else ds.any fun z => PyData.eqv z d), S) else none
      | _, _ => none))
  | .str y => (match a with
    | .str x => some (.bl (if neg then !(inS x y) else inS x y), S)
    | _ => none)
  | _ => none
section
variable {X : Cx} {T : Tb} {W : WX} {pos : Pos}
theorem dGet_opt {K : PySem.W.Frag} {mg : Str → Option Value} {H : Hp} {μ : Nat → Addr} {N : Nat} {k : Vl} {κ : Key} {kvs : List (Vl × Vl)} {vs : List (Key × V)} (hk : keyOf k = some κ) (h : RpK K mg H μ N kvs vs) : (valV vs κ).isSome = (dGet kvs k).isSome := by
  cases q : dGet kvs k with
  | none => rw [(h.get hk).2 q]; rfl
  | some w => obtain ⟨z, h3, _⟩ := (h.get hk).1 w q; rw [h3]; rfl
theorem os_inW {op : CmpOp} {neg : Bool} (hd : ∀ {pins : List (Addr × Obj)} {s : Shared} {σ : L2.St} {H : Hp} {a : Addr} {y : V} {u : Value} {o : Option V} {Q : Value → Shared → Prop}, L2.Inv X pins σ H s → DGet H a y o → RelV y u → (∀ s', L2.Inv X pins σ H s' → Q (.bool (if neg then !o.isSome else o.isSome)) s') → wpAny (model X.prog X.w) X.A (compareOp op u (.ref a)) Q X.xe s)
    (hl : OpR X (compareOp op) fun x y H Q => ∃ d ds, Dp X.K H x d ∧ Dp X.K H y (.list ds) ∧ SeqAt.shaped d = true ∧ SeqAt.shaped (.list ds) = true ∧ Q (.bl (if neg then !(ds.any fun z => PyData.eqv z d) else ds.any fun z => PyData.eqv z d)) H)
    (ht : OpR X (compareOp op) fun x y H Q => ∃ i j, x = .str i ∧ y = .str j ∧ Q (.bl (if neg then !(inS i j) else inS i j)) H) : OpS X T (compareOp op) (bIn neg) := by
  intro pins s σ H x y v u Q I rx ry h
  obtain ⟨μ, S, a, b, sr, ra, rb, h⟩ := h
  cases b with
  | ref n =>
    have rb0 := rb
    cases rb with
    | ref n hn =>
    unfold bIn at h
    simp only at h
    cases g : getD S n with
    | some kvs =>
      rw [g] at h
      simp only at h
      cases hk : keyOf a with
      | none => rw [hk] at h; exact h.elim
      | some κ =>
        rw [hk] at h
        obtain ⟨vs, h1, h2⟩ := getD_at sr hn g
        have e := keyOf_rel hk ra
        subst e
        cases ry
        refine hd I (DGet.rd h1) rx fun s' I' => ⟨.bl (if neg then !(dGet kvs a).isSome else (dGet kvs a).isSome), H, I', ?_, PstO.here h sr (.bl _)⟩
        rw [dGet_opt hk h2]
        rfl
    | none =>
      rw [g] at h
      simp only at h
      cases q1 : toD S a with
      | none => rw [q1] at h; exact h.elim
      | some d =>
        cases q2 : toD S (.ref n) with
        | none => rw [q1, q2] at h; exact h.elim
        | some e =>
          cases e with
          | list ds =>
            rw [q1, q2] at h
            simp only at h
            by_cases hz : (SeqAt.shaped d && SeqAt.shaped (.list ds)) = true
            · rw [if_pos hz] at h
              rw [Bool.and_eq_true] at hz
              exact hl pins s σ H _ _ v u Q I rx ry ⟨d, ds, Dp_toD sr ra q1, Dp_toD sr rb0 q2, hz.1, hz.2, PstO.here h sr (.bl _)⟩
            · rw [if_neg hz] at h; exact h.elim
          | _ => rw [q1, q2] at h; exact h.elim
  | str y =>
    cases rb
    cases a with
    | str x => cases ra; exact ht pins s σ H _ _ v u Q I rx ry ⟨x, y, rfl, rfl, PstO.here h sr (.bl _)⟩
    | _ => exact h.elim
  | _ => exact h.elim
theorem os_in (hu : X.A.units + 65 < cLine) : OpS X T (compareOp .In) (bIn false) :=
  os_inW (fun I g r h => d_in (by omega) I g r h) (fun pins s σ H x y v u Q I rx ry h => op_inD hu pins s σ H x y v u Q I rx ry h) (fun pins s σ H x y v u Q I rx ry h => op_in_str pins s σ H x y v u Q I rx ry h)
theorem os_notin (hu : X.A.units + 65 < cLine) : OpS X T (compareOp .NotIn) (bIn true) :=
  os_inW (fun I g r h => d_notIn (by omega) I g r h) (fun pins s σ H x y v u Q I rx ry h => op_notInD hu pins s σ H x y v u Q I rx ry h) (fun pins s σ H x y v u Q I rx ry h => op_notin_str pins s σ H x y v u Q I rx ry h)
end
end Q

set_option linter.all false
set_option maxRecDepth 100000
set_option maxHeartbeats 400000
namespace Q
open PySem PySem.Spec PyProof.Rows L2

/-! ### methods of built-in types -/
def tyB (T : String) (S : Sto) : Vl → Bool
  | .str _ => T == "str"
  | .ref n => (match S.at_ n with
    | .lst _ => T == "list"
    | .ro _ => T == "list"
    | .dic false _ => T == "dict"
    | _ => false)
  | _ => false
def mMet (Ty : String) (m : Vl → List Vl → MO Vl) (f : En → M Vl) (g : En → M (List Vl)) : En → M Vl := fun ρ => bnd (f ρ) fun o S => if tyB Ty S o = true then bnd (g ρ) (fun as => lift (m o as)) S else none
def rMof (K : PySem.W.Frag) (mg : Str → Option Value) (T : Tb) (m : Vl → List Vl → MO Vl) : V → List V → Hp → VK → Prop := fun x xs H Q => ∃ (μ : Nat → Addr) (S : Sto) (o : Vl) (as : List Vl), SRel K mg T H μ S ∧ Rp K mg H μ S.n o x ∧ RpAll K mg H μ S.n as xs ∧ PstO K mg T (rl K mg) H μ S.n Q (m o as S)
abbrev MtS (X : Cx) (T : Tb) (id : String) (m : Vl → List Vl → MO Vl) : Prop := MtR X id (rMof X.K X.mg T m)
section
variable {X : Cx} {T : Tb} {W : WX} {o e : Expr} {es : List Expr} {name : Str} {apos cpos : Pos} {Ty id : String} {m : Vl → List Vl → MO Vl} {f : En → M Vl} {g : En → M (List Vl)}
theorem tyB_is {K : PySem.W.Frag} {mg : Str → Option Value} {H : Hp} {μ : Nat → Addr} {S : Sto} {v : Vl} {x : V} (sr : SRel K mg T H μ S) (r : Rp K mg H μ S.n v x) (h : tyB Ty S v = true) : tyV K Ty x H := by
  cases v with
  | str z => cases r; exact beq_iff_eq.mp h
  | ref n =>
    cases r with
    | ref n hn =>
    have ob := sr.at_ n hn
    unfold tyB at h
    cases q : S.at_ n with
    | lst xs =>
      rw [q] at ob; simp only [q] at h
      obtain ⟨vs, h1, _⟩ := ob
      exact .inl ⟨beq_iff_eq.mp h, vs, .inl (.inl h1)⟩
    | ro xs =>
      rw [q] at ob; simp only [q] at h
      obtain ⟨vs, h1, _⟩ := ob
      refine .inl ⟨beq_iff_eq.mp h, vs, ?_⟩
      rcases h1 with ⟨o, q⟩ | q
      · exact .inl (.inr ⟨o, q⟩)
      · exact .inr q
    | dic lk kvs =>
      rw [q] at ob
      cases lk with
      | false =>
        simp only [q] at h
        obtain ⟨vs, h1, _⟩ := ob
        exact .inr (.inr (.inl ⟨beq_iff_eq.mp h, .inl ⟨vs, h1⟩⟩))
      | true => simp only [q] at h; cases h
    | _ => simp only [q] at h; cases h
  | _ => cases h
theorem tBM_of {σ : L2.St} {H : Hp} {Q : VK} (h : tOf X.K X.mg T W (mMet Ty m f g) σ H Q) : tBM X.K Ty (rMof X.K X.mg T m) (tOf X.K X.mg T W f) (tOfA X.K X.mg T W g) σ H Q := by
  obtain ⟨ρ, μ, S, sr, er, h⟩ := h
  refine ⟨ρ, μ, S, sr, er, Pst.bnd_ h fun v S1 H1 μ1 x e1 sr1 rx h1 => ?_⟩
  by_cases hz : tyB Ty S1 v = true
  · rw [if_pos hz] at h1
    refine ⟨tyB_is sr1 rx hz, ρ, μ1, S1, sr1, er.ext e1, Pst.bnd_ h1 fun as S2 H2 μ2 y e2 sr2 ry h2 => ?_⟩
    exact ⟨μ2, S2, v, as, sr2, Rp.ext e2 rx, ry, h2.lift_⟩
  · rw [if_neg hz] at h1; exact h1.elim
theorem tBM0_of {σ : L2.St} {H : Hp} {Q : VK} (h : tOf X.K X.mg T W (mMet Ty m f mNil) σ H Q) : tBM0 X.K Ty (rMof X.K X.mg T m) (tOf X.K X.mg T W f) σ H Q := by
  obtain ⟨ρ, μ, S, sr, er, h⟩ := h
  refine ⟨ρ, μ, S, sr, er, Pst.bnd_ h fun v S1 H1 μ1 x e1 sr1 rx h1 => ?_⟩
  by_cases hz : tyB Ty S1 v = true
  · rw [if_pos hz] at h1
    exact ⟨tyB_is sr1 rx hz, μ1, S1, v, [], sr1, rx, .nil, Pst.lift_ h1⟩
  · rw [if_neg hz] at h1; exact h1.elim
theorem se_met (pa : PlainAttrs Ty) (slot : Slot Ty name id) (hty : typeOf (.builtin id) = pure (.type "method_descriptor")) (hm : MtS X T id m) (ho : SE X T W o f) (ha : SA X T W (e :: es) g)
    (hbase : attributeBase o name X.env (eval o X.env) = eval o X.env := by rfl)
    (hfew : ((backTo cpos (starEach (e :: es) X.env)).all (fun x => !x.1) && (backToKw cpos (keywordEach [] X.env)).all (fun x => x.1.isSome)
      && decide ((e :: es).length + ([] : List Keyword).length + (if ([] : List Keyword).isEmpty then 0 else 1) < 30)) = true := by rfl)
    (hline : (apos.endLine == cpos.line) = true := by rfl) (hs : starEach (e :: es) X.env = (false, eval e X.env) :: starEach es X.env := by rfl) (hplain : (backTo cpos (starEach es X.env)).any (·.1) = false := by rfl) :
    SE X T W (.Call (.Attribute o name apos) (e :: es) [] cpos) (mMet Ty m f g) := PE.imp (pe_bm pa slot hty hm ho ha hbase hfew hline hs hplain) fun σ H Q h => tBM_of h
theorem se_met0 (pa : PlainAttrs Ty) (slot : Slot Ty name id) (hty : typeOf (.builtin id) = pure (.type "method_descriptor")) (hm : MtS X T id m) (ho : SE X T W o f)
    (hbase : attributeBase o name X.env (eval o X.env) = eval o X.env := by rfl) (hline : (apos.endLine == cpos.line) = true := by rfl) :
    SE X T W (.Call (.Attribute o name apos) [] [] cpos) (mMet Ty m f mNil) := PE.imp (pe_bm0 pa slot hty hm ho hbase hline) fun σ H Q h => tBM0_of h
end

/-! ### methods of lists -/
def mtAppend : Vl → List Vl → MO Vl := fun o as S => match o, as with
  | .ref n, [v] => (match S.at_ n with
    | .lst xs => if xs.length < sizeLine then some (.non, S.set n (.lst (xs ++ [v]))) else none
    | _ => none)
  | _, _ => none
def mtPopAt : Vl → List Vl → MO Vl := fun o as S => match o, as with
  | .ref n, [.int i] => (match S.at_ n with
    | .lst xs => if -(2 ^ 63) ≤ i ∧ i < 2 ^ 63 then (match seqIndex? i xs.length with
      | some k => (match xs[k]? with | some v => some (v, S.set n (.lst (xs.eraseIdx k))) | none => none)
      | none => none) else none
    | _ => none)
  | _, _ => none
section
variable {K : PySem.W.Frag} {mg : Str → Option Value} {T : Tb} {H : Hp} {μ : Nat → Addr} {S : Sto} {N : Nat}
/-- a list of the store written -/
theorem SRel.wlst {n : Nat} {xs ys : List Vl} {vs ws : List V} (sr : SRel K mg T H μ S) (hn : n < S.n) (e : S.at_ n = .lst xs) (h : H (μ n) = some (.lst vs)) (r : RpAll K mg H μ S.n ys ws) :
    SRel K mg T (upd H (μ n) (.lst ws)) μ (S.set n (.lst ys)) ∧ Ext H μ S.n (upd H (μ n) (.lst ws)) μ S.n :=
  sr.write (k := n) (o := .lst ws) (ob := .lst ys) hn (by rw [e]; rfl) rfl (by rw [h]; intro _ z; cases z) (by rw [h]; intro _ _ z; cases z) (by rw [h]; intro _ z; cases z) (by rw [h]; intro _ z; cases z) (fun ew => ⟨_, upd_same, r.ext ew⟩)
theorem RpAll.eraseIdx : ∀ {xs : List Vl} {vs : List V} (i : Nat), RpAll K mg H μ N xs vs → RpAll K mg H μ N (xs.eraseIdx i) (vs.eraseIdx i)
  | _, _, _, .nil => .nil
  | _, _, 0, .cons _ t => t
  | _, _, i + 1, .cons h t => .cons h (RpAll.eraseIdx i t)
end
section
variable {X : Cx} {T : Tb}
theorem ms_append : MtS X T "list.append" mtAppend := by
  intro pins s σ H x xs v us Q I rx rs h
  obtain ⟨μ, S, o, as, sr, ro, ra, h⟩ := h
  cases o with
  | ref n =>
    cases ra with
    | nil => exact h.elim
    | cons r1 r2 =>
      cases r2 with
      | cons _ _ => exact h.elim
      | nil =>
        rename_i w y
        unfold mtAppend at h
        simp only at h
        cases q : S.at_ n with
        | lst xs =>
          rw [q] at h
          simp only at h
          obtain ⟨vs, rfl, hn, h1, h2⟩ := ro.lst_at sr q
          by_cases hz : xs.length < sizeLine
          · rw [if_pos hz] at h
            have wr := sr.wlst hn q h1 (h2.append (.cons r1 .nil))
            exact mt_append pins s σ H _ _ v us Q I rx rs ⟨_, vs, _, rfl, rfl, h1, by rw [← h2.length]; exact hz, h _ μ .non wr.2 wr.1 .non⟩
          · rw [if_neg hz] at h; exact h.elim
        | _ => rw [q] at h; exact h.elim
  | _ => exact h.elim
theorem ms_popAt : MtS X T "list.pop" mtPopAt := by
  intro pins s σ H x xs v us Q I rx rs h
  obtain ⟨μ, S, o, as, sr, ro, ra, h⟩ := h
  cases o with
  | ref n =>
    cases ra with
    | nil => exact h.elim
    | cons r1 r2 =>
      cases r2 with
      | cons _ _ => cases r1 <;> exact h.elim
      | nil =>
        cases r1 with
        | int i =>
          unfold mtPopAt at h
          simp only at h
          cases q : S.at_ n with
          | lst xs =>
            rw [q] at h
            simp only at h
            obtain ⟨vs, rfl, hn, h1, h2⟩ := ro.lst_at sr q
            by_cases hz : -(2 ^ 63) ≤ i ∧ i < 2 ^ 63
            · rw [if_pos hz] at h
              cases g : seqIndex? i xs.length with
              | none => rw [g] at h; exact h.elim
              | some k =>
                rw [g] at h
                simp only at h
                cases g2 : xs[k]? with
                | none => rw [g2] at h; exact h.elim
                | some w =>
                  rw [g2] at h
                  obtain ⟨y, h3, h4⟩ := h2.get g2
                  have wr := sr.wlst hn q h1 (h2.eraseIdx k)
                  exact mt_popAt pins s σ H _ _ v us Q I rx rs ⟨_, vs, i, k, y, rfl, rfl, h1, hz.1, hz.2, by rw [← h2.length]; exact g, h3, h _ μ y wr.2 wr.1 (h4.ext wr.2)⟩
            · rw [if_neg hz] at h; exact h.elim
          | _ => rw [q] at h; exact h.elim
        | _ => exact h.elim
  | _ => exact h.elim
end
end Q

set_option linter.all false
set_option maxRecDepth 100000
set_option maxHeartbeats 400000
namespace Q
open PySem PySem.Spec PyProof.Rows L2

/-! ### built-ins -/
def tyN (S : Sto) : Vl → Option String
  | .non => some "NoneType"
  | .bl _ => some "bool"
  | .int _ => some "int"
  | .str _ => some "str"
  | .tup _ => some "tuple"
  | .ref n => (match S.at_ n with
    | .lst _ => some "list"
    | .ro _ => some "list"
    | .dic _ _ => some "dict"
    | _ => none)
  | _ => none
def tyNs : List String := ["NoneType", "bool", "int", "str", "tuple", "list", "dict"]
def tyCs : List String := ["bool", "int", "str", "tuple", "list", "dict"]
def isT (a b : String) : Bool := a == b || (a == "bool" && b == "int")
theorem kit_all : (tyNs.all fun a => tyCs.all fun b => decide (kitB a b = some (isT a b))) = true := by decide +kernel
theorem kit_at {a b : String} (h : a ∈ tyNs) (h' : b ∈ tyCs) : kitB a b = some (isT a b) :=
  of_decide_eq_true (List.all_eq_true.mp (List.all_eq_true.mp kit_all a h) b h')
def bIsi : List Vl → MO Vl := fun as S => match as with
  | [v, .ty b] => (match tyN S v with | some a => if b ∈ tyCs then some (.bl (isT a b), S) else none | none => none)
  | _ => none
section
variable {K : PySem.W.Frag} {mg : Str → Option Value} {T : Tb} {H : Hp} {μ : Nat → Addr} {S : Sto} {N : Nat}
theorem tyN_at {v : Vl} {x : V} {a : String} (sr : SRel K mg T H μ S) (r : Rp K mg H μ S.n v x) (h : tyN S v = some a) : TyX K H x (.type a) ∧ a ∈ tyNs := by
  cases v with
  | non => cases h; cases r; exact ⟨.base .non, by decide⟩
  | bl b => cases h; cases r; exact ⟨.base (.bl b), by decide⟩
  | int b => cases h; cases r; exact ⟨.base (.int b), by decide⟩
  | str b => cases h; cases r; exact ⟨.base (.str b), by decide⟩
  | tup xs =>
    cases h
    obtain ⟨p, vs, rfl, h1, _⟩ := r.tup_at
    refine ⟨?_, by decide⟩
    rcases h1 with (h1 | ⟨o, h1⟩) | ⟨o, its, n, h1, h2, _⟩
    · exact .base (.tup h1)
    · exact .fTuple h1
    · exact .kTuple h1 h2
  | ref n =>
    cases r with
    | ref n hn =>
    have ob := sr.at_ n hn
    unfold tyN at h
    cases q : S.at_ n with
    | lst xs =>
      rw [q] at ob; simp only [q] at h; cases h
      obtain ⟨vs, h1, _⟩ := ob
      exact ⟨.base (.lst h1), by decide⟩
    | ro xs =>
      rw [q] at ob; simp only [q] at h; cases h
      obtain ⟨vs, h1, _⟩ := ob
      refine ⟨?_, by decide⟩
      rcases h1 with ⟨o, h1⟩ | ⟨o, its, n, h1, h2, _⟩
      · exact .base (.frz h1)
      · exact .kList h1 h2
    | dic lk kvs =>
      rw [q] at ob; simp only [q] at h; cases h
      cases lk with
      | false => obtain ⟨vs, h1, _⟩ := ob; exact ⟨.base (.dK h1), by decide⟩
      | true => obtain ⟨o, vs, h1, _⟩ := ob; exact ⟨.fDict h1, by decide⟩
    | _ => simp only [q] at h; cases h
  | _ => cases h
theorem bIsi_eq {as : List Vl} {p : Vl × Sto} (h : bIsi as S = some p) : ∃ v b a, as = [v, .ty b] ∧ tyN S v = some a ∧ b ∈ tyCs ∧ p = (.bl (isT a b), S) := by
  unfold bIsi at h
  split at h
  · rename_i v b
    cases e : tyN S v with
    | none => rw [e] at h; cases h
    | some a =>
      rw [e] at h
      simp only at h
      by_cases hb : b ∈ tyCs
      · rw [if_pos hb] at h; cases h; exact ⟨v, b, a, rfl, e, hb, rfl⟩
      · rw [if_neg hb] at h; cases h
  · cases h
end
/-- of an outcome that is there -/
theorem PstO.some_ {K : PySem.W.Frag} {mg : Str → Option Value} {T : Tb} {α β : Type} {rel : Hp → (Nat → Addr) → Nat → α → β → Prop} {H : Hp} {μ : Nat → Addr} {N : Nat} {Q : β → Hp → Prop} {o : Option (α × Sto)} (h : PstO K mg T rel H μ N Q o) : ∃ p, o = some p := by
  cases o with
  | none => exact h.elim
  | some p => exact ⟨p, rfl⟩
section
variable {X : Cx} {T : Tb}
theorem cs_isi : CaS X T (.builtin "isinstance") bIsi := by
  intro pins s σ H xs us Q I rs h
  obtain ⟨μ, S, as, sr, ra, h⟩ := h
  obtain ⟨p, e⟩ := h.some_
  obtain ⟨v, b, a, rfl, h1, h2, rfl⟩ := bIsi_eq e
  rw [e] at h
  cases ra with
  | cons r1 r2 =>
    cases r2 with
    | cons r2 r3 =>
      cases r3
      cases r2
      obtain ⟨ty, ha⟩ := tyN_at sr r1 h1
      exact call_isi pins s σ H _ us Q I rs ⟨_, _, _, _, _, rfl, .ty b, ty, kit_ty (kit_at ha h2), PstO.here h sr (.bl _)⟩
end

/-! ### len, abs, int -/
def bLen : List Vl → MO Vl := fun as S => match as with
  | [.str z] => if z.length ≤ sizeLine then some (.int z.length, S) else none
  | [.tup xs] => some (.int xs.length, S)
  | [.ref n] => (match S.at_ n with
    | .lst xs => some (.int xs.length, S)
    | .ro xs => some (.int xs.length, S)
    | .dic _ kvs => some (.int kvs.length, S)
    | _ => none)
  | _ => none
def bAbs : List Vl → MO Vl := fun as S => match as with
  | [.int i] => some (.int (if i < 0 then -i else i), S)
  | _ => none
def bInt : List Vl → MO Vl := fun as S => match as with
  | [.int i] => some (.int i, S)
  | [.bl b] => some (.int (if b then 1 else 0), S)
  | _ => none
def bTuple : List Vl → MO Vl := fun as S => match as with
  | [.ref n] => (match getR S n with | some xs => some (.tup xs, S) | none => none)
  | [.tup xs] => some (.tup xs, S)
  | _ => none
def bList : List Vl → MO Vl := fun as S => match as with
  | [.ref n] => (match getR S n with | some xs => some (.ref S.n, S.push (.lst xs)) | none => none)
  | [.tup xs] => some (.ref S.n, S.push (.lst xs))
  | _ => none
def asInts : List Vl → Option (List Int)
  | [] => some []
  | .int i :: r => (asInts r).map (i :: ·)
  | _ => none
def asBls : List Vl → Option (List Bool)
  | [] => some []
  | .bl i :: r => (asBls r).map (i :: ·)
  | _ => none
def asStrs : List Vl → Option (List Str)
  | [] => some []
  | .str i :: r => (asStrs r).map (i :: ·)
  | _ => none
def bAll : List Vl → MO Vl := fun as S => match as with
  | [.ref n] => (match (getR S n).bind asBls with | some bs => some (.bl (bs.all id), S) | none => none)
  | _ => none
section
variable {K : PySem.W.Frag} {mg : Str → Option Value} {T : Tb} {H : Hp} {μ : Nat → Addr} {S : Sto} {N : Nat}
theorem asInts_rel : ∀ {xs : List Vl} {vs : List V} {ns : List Int}, asInts xs = some ns → RpAll K mg H μ N xs vs → vs = ns.map V.int
  | [], _, _, e, .nil => by cases e; rfl
  | .int i :: r, _, _, e, .cons r1 rs => by
    cases r1
    unfold asInts at e
    cases q : asInts r with
    | none => rw [q] at e; cases e
    | some ms => rw [q] at e; cases e; rw [asInts_rel q rs]; rfl
  | .non :: _, _, _, e, _ => by cases e
  | .bl _ :: _, _, _, e, _ => by cases e
  | .str _ :: _, _, _, e, _ => by cases e
  | .tup _ :: _, _, _, e, _ => by cases e
  | .ref _ :: _, _, _, e, _ => by cases e
  | .gl _ :: _, _, _, e, _ => by cases e
  | .ty _ :: _, _, _, e, _ => by cases e
  | .exc _ _ _ :: _, _, _, e, _ => by cases e
theorem asBls_rel : ∀ {xs : List Vl} {vs : List V} {ns : List Bool}, asBls xs = some ns → RpAll K mg H μ N xs vs → vs = ns.map V.bl
  | [], _, _, e, .nil => by cases e; rfl
  | .bl i :: r, _, _, e, .cons r1 rs => by
    cases r1
    unfold asBls at e
    cases q : asBls r with
    | none => rw [q] at e; cases e
    | some ms => rw [q] at e; cases e; rw [asBls_rel q rs]; rfl
  | .non :: _, _, _, e, _ => by cases e
  | .int _ :: _, _, _, e, _ => by cases e
  | .str _ :: _, _, _, e, _ => by cases e
  | .tup _ :: _, _, _, e, _ => by cases e
  | .ref _ :: _, _, _, e, _ => by cases e
  | .gl _ :: _, _, _, e, _ => by cases e
  | .ty _ :: _, _, _, e, _ => by cases e
  | .exc _ _ _ :: _, _, _, e, _ => by cases e
theorem asStrs_rel : ∀ {xs : List Vl} {vs : List V} {ns : List Str}, asStrs xs = some ns → RpAll K mg H μ N xs vs → vs = ns.map V.str
  | [], _, _, e, .nil => by cases e; rfl
  | .str i :: r, _, _, e, .cons r1 rs => by
    cases r1
    unfold asStrs at e
    cases q : asStrs r with
    | none => rw [q] at e; cases e
    | some ms => rw [q] at e; cases e; rw [asStrs_rel q rs]; rfl
  | .non :: _, _, _, e, _ => by cases e
  | .int _ :: _, _, _, e, _ => by cases e
  | .bl _ :: _, _, _, e, _ => by cases e
  | .tup _ :: _, _, _, e, _ => by cases e
  | .ref _ :: _, _, _, e, _ => by cases e
  | .gl _ :: _, _, _, e, _ => by cases e
  | .ty _ :: _, _, _, e, _ => by cases e
  | .exc _ _ _ :: _, _, _, e, _ => by cases e
/-- one argument -/
theorem RpAll.one {a : Vl} {xs : List V} (r : RpAll K mg H μ N [a] xs) : ∃ x, xs = [x] ∧ Rp K mg H μ N a x := by
  cases r with | cons r1 r2 => cases r2; exact ⟨_, rfl, r1⟩
/-- a list that is read, with a look at its items -/
theorem rd_bind {α : Type} {n : Nat} {f : List Vl → Option α} {y : α} {x : V} (sr : SRel K mg T H μ S) (r : Rp K mg H μ S.n (.ref n) x) (e : (getR S n).bind f = some y) : ∃ xs vs, f xs = some y ∧ x = .ref (μ n) ∧ SqL K H (μ n) vs ∧ RpAll K mg H μ S.n xs vs := by
  cases q : getR S n with
  | none => rw [q] at e; cases e
  | some xs =>
    rw [q] at e
    obtain ⟨vs, h1, h2, h3⟩ := r.read_at sr q
    exact ⟨xs, vs, e, h1, h2, h3⟩
end
section
variable {X : Cx} {T : Tb}
theorem cs_abs : CaS X T (.builtin "abs") bAbs := by
  intro pins s σ H xs us Q I rs h
  obtain ⟨μ, S, as, sr, ra, h⟩ := h
  obtain ⟨p, e⟩ := h.some_
  unfold bAbs at e h
  split at e
  · obtain ⟨x, rfl, r1⟩ := ra.one
    cases r1
    exact call_abs pins s σ H _ us Q I rs ⟨_, rfl, PstO.here h sr (.int _)⟩
  · cases e
theorem cs_int : CaS X T (.type "int") bInt := by
  intro pins s σ H xs us Q I rs h
  obtain ⟨μ, S, as, sr, ra, h⟩ := h
  obtain ⟨p, e⟩ := h.some_
  unfold bInt at e h
  split at e
  · obtain ⟨x, rfl, r1⟩ := ra.one
    cases r1
    exact call_int1 pins s σ H _ us Q I rs (.inl ⟨_, rfl, PstO.here h sr (.int _)⟩)
  · obtain ⟨x, rfl, r1⟩ := ra.one
    cases r1
    exact call_int1 pins s σ H _ us Q I rs (.inr ⟨_, rfl, PstO.here h sr (.int _)⟩)
  · cases e
theorem cs_len : CaS X T (.builtin "len") bLen := by
  intro pins s σ H xs us Q I rs h
  obtain ⟨μ, S, as, sr, ra, h⟩ := h
  obtain ⟨p, e⟩ := h.some_
  unfold bLen at e h
  split at e
  · rename_i z
    obtain ⟨x, rfl, r1⟩ := ra.one
    cases r1
    by_cases hz : z.length ≤ sizeLine
    · simp only [if_pos hz] at h
      exact call_len pins s σ H _ us Q I rs ⟨_, _, rfl, ⟨hz, rfl⟩, PstO.here h sr (.int _)⟩
    · simp only [if_neg hz] at e; cases e
  · rename_i zs
    obtain ⟨x, rfl, r1⟩ := ra.one
    obtain ⟨q, vs, rfl, h1, h2⟩ := r1.tup_at
    exact call_len pins s σ H _ us Q I rs ⟨_, zs.length, rfl, .inr ⟨vs, h1, h2.length⟩, PstO.here h sr (.int _)⟩
  · rename_i n
    obtain ⟨x, rfl, r1⟩ := ra.one
    cases q : S.at_ n with
    | lst zs =>
      simp only [q] at h
      obtain ⟨vs, rfl, hn, h1, h2⟩ := r1.lst_at sr q
      exact call_len pins s σ H _ us Q I rs ⟨_, zs.length, rfl, .inl ⟨vs, .inl (.inl h1), h2.length⟩, PstO.here h sr (.int _)⟩
    | ro zs =>
      simp only [q] at h
      obtain ⟨vs, rfl, h1, h2⟩ := r1.read_at (xs := zs) sr (by unfold getR; rw [q])
      exact call_len pins s σ H _ us Q I rs ⟨_, zs.length, rfl, .inl ⟨vs, h1, h2.length⟩, PstO.here h sr (.int _)⟩
    | dic lk kvs =>
      simp only [q] at h
      cases r1 with
      | ref n hn =>
      obtain ⟨vs, h1, h2⟩ := dic_at sr hn q
      obtain ⟨u, rfl, ru⟩ := Vals.one rs
      cases ru
      refine d_len I h1 fun t s' I' => ⟨.int kvs.length, H, I', ⟨t, ?_⟩, PstO.here h sr (.int _)⟩
      rw [h2.length]
    | _ => simp only [q] at e; cases e
  · cases e
theorem cs_tuple : CaS X T (.type "tuple") bTuple := by
  intro pins s σ H xs us Q I rs h
  obtain ⟨μ, S, as, sr, ra, h⟩ := h
  obtain ⟨p, e⟩ := h.some_
  unfold bTuple at e h
  split at e
  · rename_i n
    obtain ⟨x, rfl, r1⟩ := ra.one
    cases q : getR S n with
    | none => simp only [q] at e; cases e
    | some zs =>
      simp only [q] at h
      obtain ⟨vs, rfl, h1, h2⟩ := r1.read_at sr q
      exact call_tuple_of pins s σ H _ us Q I rs ⟨_, vs, rfl, .inl ⟨h1, fin_tup h sr h2⟩⟩
  · rename_i zs
    obtain ⟨x, rfl, r1⟩ := ra.one
    obtain ⟨q, vs, rfl, h1, h2⟩ := r1.tup_at
    exact call_tuple_of pins s σ H _ us Q I rs ⟨_, vs, rfl, .inr ⟨h1, PstO.here h sr (.tup h1 h2)⟩⟩
  · cases e
theorem cs_list : CaS X T (.type "list") bList := by
  intro pins s σ H xs us Q I rs h
  obtain ⟨μ, S, as, sr, ra, h⟩ := h
  obtain ⟨p, e⟩ := h.some_
  unfold bList at e h
  split at e
  · rename_i n
    obtain ⟨x, rfl, r1⟩ := ra.one
    cases q : getR S n with
    | none => simp only [q] at e; cases e
    | some zs =>
      simp only [q] at h
      obtain ⟨vs, rfl, h1, h2⟩ := r1.read_at sr q
      exact call_list_of pins s σ H _ us Q I rs ⟨_, vs, rfl, .inl h1, fin_lst h sr h2⟩
  · rename_i zs
    obtain ⟨x, rfl, r1⟩ := ra.one
    obtain ⟨q, vs, rfl, h1, h2⟩ := r1.tup_at
    exact call_list_of pins s σ H _ us Q I rs ⟨_, vs, rfl, .inr h1, fin_lst h sr h2⟩
  · cases e
theorem cs_all (hc : X.calm = true) : CaS X T (.builtin "all") bAll := by
  intro pins s σ H xs us Q I rs h
  obtain ⟨μ, S, as, sr, ra, h⟩ := h
  obtain ⟨p, e⟩ := h.some_
  unfold bAll at e h
  split at e
  · rename_i n
    obtain ⟨x, rfl, r1⟩ := ra.one
    cases q : (getR S n).bind asBls with
    | none => simp only [q] at e; cases e
    | some ns =>
      simp only [q] at h
      obtain ⟨zs, vs, k1, rfl, k2, k3⟩ := rd_bind sr r1 q
      rw [asBls_rel k1 k3] at k2
      exact cr_all hc pins s σ H _ us Q I rs ⟨_, ns, rfl, k2, PstO.here h sr (.bl _)⟩
  · cases e
end
end Q

set_option linter.all false
set_option maxRecDepth 100000
set_option maxHeartbeats 400000
namespace Q
open PySem PySem.Spec PyProof.Rows L2

/-! ### calls by keywords alone -/
theorem PK.imp {X : Cx} {e : List Keyword} {t t' : TA} (h : PK X e t) (i : ∀ σ H Q, t' σ H Q → t σ H Q) : PK X e t' := ⟨fun pos pins s σ H Q I q => h.run pos pins s σ H Q I (i σ H Q q)⟩
abbrev SK (X : Cx) (T : Tb) (W : WX) (es : List Keyword) (f : En → M (List Vl)) : Prop := PK X es (tOfA X.K X.mg T W f)
def reord (perm : List Nat) (ws : List α) : List α := perm.filterMap (ws[·]?)
def mCallK (f : List Vl → M Vl) (perm : List Nat) (g : En → M (List Vl)) : En → M Vl := fun ρ => bnd (g ρ) fun vs => f (reord perm vs)
structure CalK (g : Bool) (P : Program) (w : World) (K : PySem.W.Frag) (mg : Str → Option Value) (T : Tb) (base : Heap) (k : Nat) (x : Str) (ks : List Str) (perm : List Nat) (f : List Vl → M Vl) : Prop where
  ex : ∃ (a : Addr) (fd : FuncData) (ps : List Str), mg x = some (.ref a) ∧ PySem.W.keepIn K (.ref a) = true ∧ FnQ g P w K mg base k a fd ps (spF K mg T ps.length f) ∧ (∀ as S, as.length ≠ ps.length → f as S = none) ∧
    ∀ (ws : List Value), (reord perm ws).length = ps.length → bindArgs fd ⟨[], ks.zip ws⟩ = pure (ps.zip (reord perm ws))
theorem get_vals {vs : List V} {us : List Value} (r : Vals vs us) : ∀ (i : Nat), (∃ v u, vs[i]? = some v ∧ us[i]? = some u ∧ RelV v u) ∨ (vs[i]? = none ∧ us[i]? = none) := by
  induction r with
  | nil => exact fun i => .inr ⟨rfl, rfl⟩
  | cons r1 r2 ih =>
    intro i
    cases i with
    | zero => exact .inl ⟨_, _, rfl, rfl, r1⟩
    | succ i => rcases ih i with ⟨v, u, h1, h2, h3⟩ | ⟨h1, h2⟩
                · exact .inl ⟨v, u, by simpa using h1, by simpa using h2, h3⟩
                · exact .inr ⟨by simpa using h1, by simpa using h2⟩
theorem reord_vals {vs : List V} {us : List Value} (r : Vals vs us) : ∀ perm : List Nat, Vals (reord perm vs) (reord perm us)
  | [] => .nil
  | i :: perm => by
    have ih := reord_vals r perm
    unfold reord at ih ⊢
    rcases get_vals r i with ⟨v, u, h1, h2, h3⟩ | ⟨h1, h2⟩
    · rw [List.filterMap_cons_some (f := fun (x : Nat) => vs[x]?) h1, List.filterMap_cons_some (f := fun (x : Nat) => us[x]?) h2]; exact .cons h3 ih
    · rw [List.filterMap_cons_none (f := fun (x : Nat) => vs[x]?) h1, List.filterMap_cons_none (f := fun (x : Nat) => us[x]?) h2]; exact ih
theorem reord_rp {K : PySem.W.Frag} {mg : Str → Option Value} {H : Hp} {μ : Nat → Addr} {N : Nat} {vs : List Vl} {us : List V} (r : RpAll K mg H μ N vs us) : ∀ perm : List Nat, RpAll K mg H μ N (reord perm vs) (reord perm us)
  | [] => .nil
  | i :: perm => by
    have ih := reord_rp r perm
    unfold reord at ih ⊢
    cases e : vs[i]? with
    | some v =>
      obtain ⟨u, h2, h3⟩ := r.get e
      rw [List.filterMap_cons_some (f := fun (x : Nat) => vs[x]?) e, List.filterMap_cons_some (f := fun (x : Nat) => us[x]?) h2]; exact .cons h3 ih
    | none =>
      have h2 : us[i]? = none := by rw [List.getElem?_eq_none_iff] at e ⊢; rw [← r.length]; exact e
      rw [List.filterMap_cons_none (f := fun (x : Nat) => vs[x]?) e, List.filterMap_cons_none (f := fun (x : Nat) => us[x]?) h2]; exact ih
section
variable {X : Cx} {T : Tb} {W : WX} {k : Nat} {x : Str} {f : List Vl → M Vl} {p pos : Pos} {ks : List Str} {perm : List Nat} {kws : List Keyword} {g : En → M (List Vl)}
theorem sk_nil : SK X T W [] mNil := PK.imp pk_nil fun σ H Q ⟨ρ, μ, S, sr, er, h⟩ => Pst.here (x := ([] : List V)) h sr .nil
theorem sk_cons {e : Expr} {nm : Option Str} {kpos : Pos} {f : En → M Vl} {g : En → M (List Vl)} (ha : SE X T W e f) (hr : SK X T W kws g) : SK X T W (⟨nm, e, kpos⟩ :: kws) (mCons f g) := by
  refine PK.imp (pk_cons ha hr) fun σ H Q h => ?_
  obtain ⟨ρ, μ, S, sr, er, h⟩ := h
  refine ⟨ρ, μ, S, sr, er, Pst.bnd_ h fun v S1 H1 μ1 x e1 sr1 rx h1 => ?_⟩
  refine ⟨ρ, μ1, S1, sr1, er.ext e1, Pst.bnd_ h1 fun w S2 H2 μ2 y e2 sr2 ry h2 => ?_⟩
  exact Pst.here h2 sr2 (.cons (rx.ext e2) ry)
theorem se_callK {b : Bool} (c : CalK b X.prog X.w X.K X.mg T X.base k x ks perm f) (hr : Room k X.A) (hgd : b = true → X.A.guards = some []) (tk : Takes X W) (hkw : SK X T W kws g) (hg : Gl X x := by rfl) (hdb : (x == ("__debug__" : Str)) = false := by decide)
    (hall : (backToKw pos (keywordEach kws X.env)).all (·.1.isSome) = true := by rfl) (hks : (backToKw pos (keywordEach kws X.env)).filterMap (·.1) = ks := by rfl)
    (hpl : ((backTo pos (starEach [] X.env)).any (·.1) || (backToKw pos (keywordEach kws X.env)).any (·.1.isNone)) = false := by rfl) : SE X T W (.Call (.Name x p) [] kws pos) (mCallK f perm g) := by
  obtain ⟨a, fd, ps, hm, hk, F, hlen, hb⟩ := c.ex
  refine ⟨fun pins s σ H Q I h => ?_⟩
  obtain ⟨ρ, μ, S, sr, er, h⟩ := h
  refine wpAny_Call_Name_kw (ld_glob I hg hm ?_ hdb)
  refine PySem.W.callWith_KW0 (h₀ := X.base) I.ok.mod.kin hk hall (thn (hkw.run pos pins s σ H (fun vs H1 => spF X.K X.mg T ps.length f (reord perm vs) H1 Q (WE W σ)) I ⟨ρ, μ, S, sr, er, Pst.bnd_ h fun v S1 H1 μ1 x e1 sr1 rx h1 => ?_⟩) fun ws s2 ⟨zs, H2, I2, rz, q2⟩ => ⟨I2.kIn, ?_⟩) hpl
  · have rr := reord_rp rx perm
    refine ⟨?_, μ1, S1, reord perm v, sr1, rr, h1⟩
    rw [← rr.length]
    by_cases hz : (reord perm v).length = ps.length
    · exact hz
    · rw [hlen _ _ hz] at h1; exact h1.elim
  · rw [hks]
    have r2 := reord_vals rz perm
    have hl : (reord perm ws).length = ps.length := by rw [← r2.length]; exact F.len _ _ _ _ q2
    refine wpAny_call (codeAny_mono (F.run X.A X.stack s2 H2 ⟨[], ks.zip ws⟩ (reord perm ws) (reord perm zs) Q (WE W σ) hr hgd I2.env0 (.of_eq (hb ws hl)) r2 q2) fun r s' hq => ?_)
    cases r with
    | error e => exact passAt tk σ pins H2 s2 e s' I2 hq
    | ok fl =>
      cases fl with
      | ret u => exact I2.after hq
      | next => exact False.elim hq
      | brk => exact False.elim hq
      | cont => exact False.elim hq
end

/-! ### repr -/
def reprOf (S : Sto) (v : Vl) : Option Str := match toD S v with
  | some d => if d.showable = true ∧ d.shown.length ≤ sizeLine ∧ d.depth ≤ 190 ∧ d.hasDict = false then some d.shown else none
  | none => none
def bRepr : List Vl → MO Vl := fun as S => match as with
  | [v] => (match reprOf S v with | some z => some (.str z, S) | none => none)
  | _ => none
section
variable {X : Cx} {T : Tb}
theorem cs_repr (hu : X.A.units + 192 < cLine) (hg : X.A.guards = some []) : CaS X T (.builtin "repr") bRepr := by
  intro pins s σ H xs us Q I rs h
  obtain ⟨μ, S, as, sr, ra, h⟩ := h
  obtain ⟨p, e⟩ := h.some_
  rw [e] at h
  unfold bRepr at e
  split at e
  · rename_i v
    unfold reprOf at e
    cases ed : toD S v with
    | none => rw [ed] at e; cases e
    | some d =>
      rw [ed] at e
      simp only at e
      by_cases hc : d.showable = true ∧ d.shown.length ≤ sizeLine ∧ d.depth ≤ 190 ∧ d.hasDict = false
      · rw [if_pos hc] at e
        cases e
        obtain ⟨h1, h2, h3, h4⟩ := hc
        cases ra with
        | cons r1 r2 =>
        cases r2
        cases rs with
        | cons r1' r2' =>
        cases r2'
        rename_i x u
        have dp := Dp_toD sr r1 ed
        obtain ⟨cs, rd⟩ := Dp.reads I d x u dp r1'
        have fin : ∀ h' tk tk', (∀ b o, s.heap.get? b = some o → h'.get? b = some o) → EP X pins σ Q (.str d.shown tk) { s with heap := h', toks := tk' } := fun h' tk tk' hk => ⟨.str d.shown, H, I.kept (t' := tk') hk, ⟨tk, rfl⟩, PstO.here h sr (.str _)⟩
        cases rd with
        | none => exact PySem.P.repr_of_none (fin s.heap _ _ fun _ _ z => z)
        | bool b => exact PySem.P.repr_of_bool (fin s.heap _ _ fun _ _ z => z)
        | int i t => exact PySem.P.repr_of_int (by simpa [PyData.showable] using h1) (fin s.heap _ _ fun _ _ z => z)
        | str z t => exact PySem.P.repr_of_str (fin s.heap _ _ fun _ _ z => z) (by simpa only [PyData.shown] using h2)
        | list q1 q2 q3 q4 => exact repr_of_reads' (.list q1 q2 q3 q4) h1 (PyData.noDict_hsm h4) hg (by omega) (fun _ _ z => z) (fun h' u tk hk => fin h' _ _ hk) h2
        | tuple q1 q2 q3 q4 => exact repr_of_reads' (.tuple q1 q2 q3 q4) h1 (PyData.noDict_hsm h4) hg (by omega) (fun _ _ z => z) (fun h' u tk hk => fin h' _ _ hk) h2
        | dict q1 q2 q3 q4 q5 => simp only [PyData.hasDict] at h4; cases h4
      · rw [if_neg hc] at e; cases e
  · cases e
end
end Q

set_option linter.all false
set_option maxRecDepth 100000
set_option maxHeartbeats 400000
namespace Q
open PySem PySem.Spec PyProof.Rows L2

/-- the names' values at the entry -/
def startE (nN : Nat) (as : List Vl) : En := as.map some ++ List.replicate (nN - as.length) none
/-- a def's body as a function of values: nN names, np parameters -/
def runF (nN np : Nat) (body : MS) : List Vl → M Vl := fun as S => if as.length = np then (match body (startE nN as) S with
  | some (.rt v, _, S') => some (.ok v, S')
  | some (.nx, _, S') => some (.ok .non, S')
  | some (.ex c f v, _, S') => some (.exc c f v, S')
  | _ => none) else none
/-- what a body's derivation may use -/
structure FCx (g : Bool) (X : Cx) (W : WX) (k : Nat) : Prop where
  gd : g = true → X.A.guards = some []
  hr : Room k X.A
  tk : Takes X W
  po : PassesOwn (model X.prog X.w) X.A X.env X.xe
  calm : X.calm = true
  nd : X.N.Nodup
theorem FCx.u1 {X : Cx} {W : WX} {k : Nat} {g : Bool} (c : FCx g X W k) : X.A.units + 1 < cLine := by have := c.hr.un; omega
theorem FCx.u64 {X : Cx} {W : WX} {k : Nat} {g : Bool} (c : FCx g X W k) : X.A.units + 190 < cLine := by have := c.hr.un; omega
theorem FCx.u65 {X : Cx} {W : WX} {k : Nat} {g : Bool} (c : FCx g X W k) : X.A.units + 65 < cLine := by have := c.hr.un; omega
section
variable {P : Program} {w : World} {K : PySem.W.Frag} {mg : Str → Option Value} {T : Tb} {base : Heap}
abbrev fX (P : Program) (w : World) (K : PySem.W.Frag) (mg : Str → Option Value) (base : Heap) (N : List Str) (qual : Str) (st : Stmt) (f : Addr) (cdv : Value) (A : Around) (outer : List Env) (s : Shared) (H : Hp) (E : XK) : Cx :=
  cxOf (L2.CX P w) P w K mg base N qual (defScope st) f cdv A outer s H E
theorem startE_rel {H : Hp} {μ : Nat → Addr} {M : Nat} {N : List Str} {as : List Vl} {vs : List V} (r : RpAll K mg H μ M as vs) : ERel K mg H μ M (startE N.length as) (L2.start N vs) := by
  have hl := r.length
  refine ⟨by unfold startE L2.start; simp [hl], fun i v q => ?_⟩
  unfold startE at q
  by_cases hi : i < as.length
  · rw [List.getElem?_append_left (by simpa using hi), List.getElem?_map] at q
    cases e : as[i]? with
    | none => rw [e] at q; cases q
    | some a =>
      rw [e] at q; cases q
      obtain ⟨x, h1, h2⟩ := r.get e
      refine ⟨x, ?_, h2⟩
      unfold L2.start
      rw [List.getElem?_append_left (by rw [List.length_map, ← hl]; exact hi), List.getElem?_map, h1]
      rfl
  · rw [List.getElem?_append_right (by simpa using hi), List.getElem?_replicate] at q
    split at q <;> cases q
/-- a def of the program: its object, its code object, its defaults -/
structure FD (K : PySem.W.Frag) (x : Str) (st : Stmt) (f : Addr) (fd : FuncData) (cdv : Value) : Prop where
  ex : ∃ (oc : Value) (od : Option Addr) (dV kV doc pm : Value) (an : Option Addr) (ct : Value) (osl : Array (Option Value)),
    fd = PySem.W.fnOf x x (defArgs st) (defBody st) (defScope st) dV kV doc pm an cdv ct ∧ K.lookup f = some ⟨oc, od, .func fd, osl⟩ ∧ PySem.W.codeIn K cdv x = true
  kp : PySem.W.keepIn K (.ref f) = true
theorem fn_ok {g : Bool} {x : Str} {st : Stmt} {f : Addr} {fd : FuncData} {cdv : Value} {N ps : List Str} {k : Nat} {body : MS} (F : FD K x st f fd cdv) (Sc : FnScope N ps (defScope st))
    (hb : ∀ (A : Around) (outer : List Env) (s : Shared) (H : Hp) (E : XK), FCx g (fX P w K mg base N x st f cdv A outer s H E) (fun cls d _ H' => E cls d H') k → SSs (fX P w K mg base N x st f cdv A outer s H E) T (fun cls d _ H' => E cls d H') (defBody st) body) :
    FnQ g P w K mg base (k + 1) f fd ps (spF K mg T ps.length (runF N.length ps.length body)) := by
  obtain ⟨oc, od, dV, kV, doc, pm, an, ct, osl, rfl, lk, hcd⟩ := F.ex
  refine ⟨fun vs H Q E h => h.1, fun A outer s H args us vs Q E hr hgd e0 hbi r h => ?_⟩
  obtain ⟨hl, μ, S, as, sr, ra, q⟩ := h
  refine LamX.run_ofS lk hcd Sc hr e0 hbi r hl fun hr' => ?_
  have fc : FCx g (fX P w K mg base N x st f cdv A outer s H E) (fun cls d _ H' => E cls d H') k := ⟨hgd, hr', takes_of rfl rfl rfl rfl, passes_of rfl, rfl, Sc.nd⟩
  refine ⟨_, hb A outer s H E fc, startE N.length as, μ, S, sr, startE_rel ra, ?_⟩
  unfold runF at q
  have hla : as.length = ps.length := by rw [ra.length]; exact hl
  rw [if_pos hla] at q
  cases e : body (startE N.length as) S with
  | none => rw [e] at q; exact q
  | some p =>
    obtain ⟨fl, ρ', S'⟩ := p
    rw [e] at q
    cases fl with
    | nx => exact fun H' μ' σ' e' sr' er' => q H' μ' .non e' sr' .non
    | bk => exact q.elim
    | ct => exact q.elim
    | rt v => exact q
    | ex c g v => exact fun H' μ' σ' cls d e' sr' er' x => q H' μ' cls d e' sr' x
/-- a def that is called with all its arguments -/
theorem cal_of {g : Bool} {x : Str} {f : Addr} {fd : FuncData} {ps : List Str} {k : Nat} {h : List Vl → M Vl} (hk : PySem.W.keepIn K (.ref f) = true) (hm : mg x = some (.ref f)) (hb : L2.Binds K fd ps [])
    (ok : FnQ g P w K mg base k f fd ps (spF K mg T ps.length h)) (hl : ∀ as S, as.length ≠ ps.length → h as S = none) : CalS g P w K mg T base k x [] h :=
  ⟨f, fd, ps, [], [], hm, hk, ok, hl, hb, .nil, fun _ _ _ => .nil⟩
theorem calK_of {g : Bool} {x : Str} {f : Addr} {fd : FuncData} {ps ks : List Str} {perm : List Nat} {k : Nat} {h : List Vl → M Vl} (hk : PySem.W.keepIn K (.ref f) = true) (hm : mg x = some (.ref f))
    (hb : ∀ (ws : List Value), (reord perm ws).length = ps.length → bindArgs fd ⟨[], ks.zip ws⟩ = pure (ps.zip (reord perm ws)))
    (ok : FnQ g P w K mg base k f fd ps (spF K mg T ps.length h)) (hl : ∀ as S, as.length ≠ ps.length → h as S = none) : CalK g P w K mg T base k x ks perm h :=
  ⟨f, fd, ps, hm, hk, ok, hl, hb⟩
theorem runF_len {nN np : Nat} {body : MS} : ∀ as S, as.length ≠ np → runF nN np body as S = none := fun as S h => by unfold runF; rw [if_neg h]
/-- at depth nought nothing is promised -/
theorem fn_zero {g : Bool} {k : Nat} {f : Addr} {fd : FuncData} {ps : List Str} {n : Nat} : FnQ g P w K mg base k f fd ps (spF K mg T n fun _ _ => none) :=
  ⟨fun _ _ _ _ h => (by obtain ⟨_, _, _, _, _, _, q⟩ := h; exact q.elim), fun _ _ _ _ _ _ _ _ _ _ _ _ _ _ h => (by obtain ⟨_, _, _, _, _, _, q⟩ := h; exact q.elim)⟩
theorem FnQ.mono {g : Bool} {j k : Nat} {f : Addr} {fd : FuncData} {ps : List Str} {sp : Sp} (h : FnQ g P w K mg base j f fd ps sp) (e : j ≤ k) : FnQ g P w K mg base k f fd ps sp :=
  ⟨h.len, fun A outer s H args us vs Q E hr => h.run A outer s H args us vs Q E (hr.mono e)⟩
end

/-! ### raise -/
/-- an own exception class without an own __init__ -/
structure ExcS (K : PySem.W.Frag) (mg : Str → Option Value) (c : Str) (bmB : List Value) (newId : String) : Prop where
  ex : ∃ C, mg c = some (.ref C) ∧ PySem.W.excIn K C bmB newId = true ∧ PySem.W.keepIn K (.ref C) = true ∧ PySem.W.subIn K (.ref C) (.type "BaseException") = some true ∧ PySem.W.typeIn K (.ref C) = some (.type "type")
def sRaise (c : Str) : MS := fun ρ S => some (.ex c "" .non, ρ, S)
section
variable {X : Cx} {T : Tb} {W : WX} {pos : Pos}
theorem ss_raise {c m : Str} {j : Nat} {p p2 pos' : Pos} (hc : X.calm = true) (tk : Takes X W) (C : ExcS X.K X.mg c [.type "ValueError", .type "Exception", .type "BaseException", .type "object"] "ValueError.__new__") (hg : Gl X c := by rfl) (hdb : (c == ("__debug__" : Str)) = false := by decide) :
    SS X T W (.Raise (some (.Call (.Name c p) [.Constant (.str m) j p2] [] pos')) none pos) (sRaise c) := by
  obtain ⟨a, hm, h1, h2, h3, h4⟩ := C.ex
  refine PS.imp (ps_raise hc tk (pmk_own PySem.F.excBase_ValueError h1 hm h2 (raises_own h3 h4) hg hdb)) fun D σ H q => ?_
  obtain ⟨ρ, μ, S, sr, er, q⟩ := q
  exact q H μ σ _ _ Ext.refl sr er ⟨a, hm, rfl, .inl ⟨rfl, rfl⟩⟩
end
end Q

set_option linter.all false
set_option maxRecDepth 100000
set_option maxHeartbeats 800000
namespace Q
open PySem PySem.Spec PyProof.Rows L2

/-! ### an exception that is held on to -/
section
variable {X : Cx} {pins : List (Addr × Obj)} {σ : L2.St} {H : Hp} {s : Shared}
theorem Inv.adopt {a : Addr} {oe : Obj} {vs : Array Value} {cls : Value} {d : Option Addr} (I : Inv X pins σ H s) (he : s.heap.get? a = some oe) (hz : Zc cls d oe) (hd : oe.data = .fields vs) (na : H a = none) (nL : a ≠ X.env.locals)
    (n0 : ∀ o, X.s_0.heap.get? a = some o → a ∈ X.ex) (np : ∀ p ∈ X.pn ++ pins, p.1 ≠ a) : Inv X pins σ (upd H a (excO a cls d)) s := by
  have nn : ∀ {b : Addr} {u : HO}, H b = some u → upd H a (excO a cls d) b = some u := fun {b u} e => by rw [upd_ne (ne_of_none e na)]; exact e
  refine ⟨I.ok, I.os, I.bare, ⟨I.base.keep, I.base.slot, fun b o e n hx => ?_, I.base.there, fun b xs e => nn (I.base.tups b xs e), fun b o u e => nn (I.base.frzs b o u e), fun b ps e => ?_⟩, I.loc, I.cell, ?_, fun x c e => ?_, fun p hp => ?_, fun b u e => ?_, I.len⟩
  · by_cases hb : b = a
    · subst hb; exact absurd (n0 _ e) hx
    · rw [upd_ne hb]; exact I.base.free b o e n hx
  · obtain ⟨more, q⟩ := I.base.tbls b ps e
    exact ⟨more, nn q⟩
  · rw [upd_ne (Ne.symm nL)]; exact I.free
  · have h2 : c ≠ a := fun z => by
      subst z
      obtain ⟨v, o, ho, hv⟩ := I.cell x c e
      rw [he] at ho; cases ho
      rw [hd] at hv; cases hv
    rw [upd_ne h2]; exact I.freeC x c e
  · obtain ⟨e, n, ne, nf, q⟩ := I.pin p hp
    exact ⟨e, by rw [upd_ne (np p hp)]; exact n, ne, nf, q⟩
  · by_cases hb : b = a
    · subst hb
      rw [upd_same] at e
      cases e
      exact ⟨⟨oe, vs, he, hz, hd⟩, ⟨oe, he⟩, fun h1 h2 ⟨o, vs, e1, e2, e3⟩ st => ⟨o, vs, st _ e1, e2, e3⟩⟩
    · rw [upd_ne hb] at e
      exact (I.hok b u e).stay (fun _ _ _ q => q) (fun _ q => nn q) fun _ _ q => nn q
end

/-! ### try: body, except x as n: suite; the exception stays known -/
def wKeep (K : PySem.W.Frag) (c : Value) (i len : Nat) (ts : Addr → Value → Option Addr → TS) (D : Ends) : WX := fun cls d σ H =>
  PySem.W.exmOne K cls c = some true ∧ (σ.length = len → ∀ a, H a = none → ts a cls d { nx := fun σ' H' => D.nx (σ'.set i none) (upd H' a (excO a cls d)), rt := fun _ _ => False, bk := fun _ _ => False, ct := fun _ _ => False } (σ.set i (some (.ref a))) H)
section
variable {X : Cx} {x n : Str} {c : Value} {i : Nat} {body suite : List Stmt} {b₀ : Stmt} {np pos pos' : Pos} {tb : WX → TS} {ts : Addr → Value → Option Addr → TS}
theorem ps_try_keep (hs : X.stack = X.env :: X.outer) (hf : X.env.frame = some X.env.locals) (hN : X.N.Nodup) (hi : X.N[i]? = some n) (hln : X.env.kindOf n = some .local) (hc : Names X x c)
    (hb : ∀ (W : WX) (pn : List (Addr × Obj)) (xe : Value → Shared → Prop), Takes (X.tr pn xe) W → PassesOwn (model X.prog X.w) X.A X.env xe → PSs (X.tr pn xe) body (tb W))
    (hsu : ∀ (a : Addr) (oe : Obj) (cls : Value) (d : Option Addr) (pn : List (Addr × Obj)), Zc cls d oe → (∃ vs, oe.data = .fields vs) → PSs (X.suite a ((a, oe) :: pn)) (b₀ :: suite) (ts a cls d)) :
    PS X (.Try body [.ExceptHandler (some (.Name x np)) (some n) (b₀ :: suite) pos'] [] [] pos) (fun D σ H => tb (wKeep X.K c i X.N.length ts D) D σ H) := by
  refine ⟨fun pins s σ H D I h => ?_⟩
  have ok := I.ok
  have hfr : X.A.frames = some (X.env :: X.outer) := by rw [ok.frames, hs]
  have hloc : Loc X.env.scope n := .inl hln
  refine wpAny_Try_except ?_
  refine wpAny_mono ((hb (wKeep X.K c i X.N.length ts D) (X.pn ++ pins) (fun e s₁ => wpAny (model X.prog X.w) X.A (noteFrame e X.env) (fun _ s₂ => wpAny (model X.prog X.w) X.A (setFlight e none) (fun _ s₃ =>
    wpAny (model X.prog X.w) X.A (handleBy e X.env [.ExceptHandler (some (.Name x np)) (some n) (b₀ :: suite) pos']) (SP X pins D) X.xe s₃) X.xe s₂) X.xe s₁) (fun u s' xx => ?_) PassesOwn.looking).run [] s σ H D (I.toTry _) h) (fun f s1 hsp => ?_) (fun e s1 he => he)
  · obtain ⟨a, B, sI, pins', σ', H', cls, d, rfl, J', nb, up, sky, na, os, ag, hb1, hyes⟩ := xx
    have J : Inv X pins σ' H' sI := J'.ofTry ok
    have sky' : Sky B (X.env :: X.outer) a (Zc cls d) X.env.locals s'.heap := by rw [← hs]; exact sky
    show wpAny (model X.prog X.w) X.A (noteFrame (.ref a) X.env) _ _ _
    refine Sky.land Zc.steady hfr hf sky' fun h3 fl3 up3 => ?_
    have J3 : Inv X pins σ' H' { s' with heap := h3 } := J.landed nb fl3.1 (up.trans up3) os ag
    obtain ⟨oe3, vs3, he3, hz3, hd3⟩ := fl3.there
    have nB : B.get? a = none := fl3.2.1
    have notFr : ∀ {h : Heap} {o : Obj} {vs : Array Value}, h.FunFrames B (X.env :: X.outer) → h.get? a = some o → o.data = .fields vs → a ∉ frs (X.env :: X.outer) := fun {h o vs} ff e dd hm => by
      obtain ⟨_, o', e', hnf⟩ := ff.mem hm
      rw [e] at e'; cases e'
      exact hnf _ dd
    have nfr := notFr fl3.2.2.1 he3 hd3
    have nL : a ≠ X.env.locals := fun z => nfr (List.mem_filterMap.mpr ⟨X.env, List.mem_cons_self, by rw [hf, z]⟩)
    have nF : a ∉ X.fs := fun hm => by
      obtain ⟨e, he, q⟩ := List.mem_filterMap.mp hm
      exact nfr (List.mem_filterMap.mpr ⟨e, List.mem_cons_of_mem _ he, q⟩)
    have nI : ∀ o, sI.heap.get? a = some o → False := fun o e => by
      have z := nb a o e (by rw [hs]; exact nfr)
      rw [nB] at z; cases z
    have n0 : ∀ o, X.s_0.heap.get? a = some o → a ∈ X.ex := fun o e => by
      by_cases q : a ∈ X.ex
      · exact q
      · obtain ⟨o', e'⟩ := J.base.there a o e q
        exact (nI _ e').elim
    have np_ : ∀ p ∈ X.pn ++ pins, p.1 ≠ a := fun p hp z => nI _ (z ▸ (J.pin p hp).1)
    have S3 := J3.suite he3 hd3 na nL nF
    refine wpAny_handleBy_cons (codeAny_handlers_test ?_) (by intro q; cases q)
    have LT : PySem.W.Looks (model X.prog X.w) h3 (typeOf (.ref a)) cls := fun A Q E s k q => wpAny_typeOf_ref (k _ _ he3) (by rw [hz3.1]; exact q)
    have LM := PySem.W.exm_one (M := model X.prog X.w) (J3.kIn) LT hb1
    have test : ∀ {Q : Value → Shared → Prop} {E : Value → Shared → Prop}, Q c { s' with heap := h3 } → wpAny (model X.prog X.w) (X.A.mark (some (.ref a))) (eval (.Name x np) X.env) Q E { s' with heap := h3 } := fun {Q E} q => by
      obtain ⟨hg, hdbg, hm | ⟨hm, hv, hnn⟩⟩ := hc
      · exact ld_glob (X := X.suite a ((a, oe3) :: (X.pn ++ pins))) S3 hg hm q hdbg
      · exact ld_blt (X := X.suite a ((a, oe3) :: (X.pn ++ pins))) S3 hg hm hv q hnn hdbg
    refine test (LM.here ?_)
    refine codeAny_handlers_suite_as ?_
    refine HandSPX.lands_againZ fl3 fun h4 fl4 up4 => ?_
    have J4 : Inv X pins σ' H' { s' with heap := h4 } := J.landed nb fl4.1 ((up.trans up3).trans up4) os ag
    obtain ⟨oe4, vs4, he4, hz4, hd4⟩ := fl4.there
    have S4 := J4.suite he4 hd4 na nL nF
    refine store_ok (X := X.suite a ((a, oe4) :: (X.pn ++ pins))) (v := .ref a) S4 hN hi hloc rfl (fun s5 S5 => ?_) (.inr hln)
    refine wpAny_mono ((hsu a oe4 cls d (X.pn ++ pins) hz4 ⟨_, hd4⟩).run [] s5 _ H' _ S5 (hyes J.len a na)) (fun f s6 hsp => ?_) (fun _ _ z => False.elim z)
    cases f with
    | next =>
      obtain ⟨σ6, H6, S6, q6⟩ := hsp
      obtain ⟨g1, g2, g3, g4, _⟩ := S6.pin (a, oe4) (List.mem_append_left _ List.mem_cons_self)
      have J6 : Inv X pins σ6 H6 s6 := S6.unsuite ok
      have J7 := Inv.adopt (cls := cls) (d := d) J6 g1 hz4 hd4 g2 g3 n0 np_
      exact gone_ok J7 hN hi hln fun s7 J8 => ⟨_, _, J8, q6⟩
    | brk => obtain ⟨σ6, H6, S6, q6⟩ := hsp; exact q6.elim
    | cont => obtain ⟨σ6, H6, S6, q6⟩ := hsp; exact q6.elim
    | ret u => obtain ⟨v6, σ6, H6, S6, r6, q6⟩ := hsp; exact q6.elim
  · cases f with
    | next =>
      obtain ⟨σ', H', J', q⟩ := hsp
      exact wpAny_execs_nil ⟨σ', H', J'.ofTry ok, q⟩
    | brk =>
      obtain ⟨σ', H', J', q⟩ := hsp
      exact ⟨σ', H', J'.ofTry ok, q⟩
    | cont =>
      obtain ⟨σ', H', J', q⟩ := hsp
      exact ⟨σ', H', J'.ofTry ok, q⟩
    | ret u =>
      obtain ⟨v, σ', H', J', r, q⟩ := hsp
      exact ⟨v, σ', H', J'.ofTry ok, r, q⟩
end

/-! ### x = None; try: a() / except e as n: x = n; return x -/
def TTc (K : PySem.W.Frag) (E : Addr) : (XK → Hp → VK → Prop) → Hp → VK → Prop := fun tl H Q =>
  tl (fun cls d H' => PySem.W.exmOne K cls (.ref E) = some true ∧ ∀ a, H' a = none → Q (.ref a) (upd H' a (excO a cls d))) H (fun _ H' => Q .non H')
section
variable {X : Cx}
theorem caught_gives {x a r e q y : Str} {sg : Scope} {g CS : Addr} {cdg : Value} {j : Nat} {p0 p1 p2 p3 p4 p5 p6 p7 p8 p9 p10 p11 p12 p13 : Pos}
    (hN : ([a, r, e] : List Str).Nodup) (hge : sg.names.lookup y = some .globalImplicit) (hme : X.mg y = some (.ref CS)) (hde : (y == ("__debug__" : Str)) = false)
    (hr : sg.names.lookup r = some .local) (he : sg.names.lookup e = some .local) (hrd : (r == ("__debug__" : Str)) = false) (hrc : (r == ("__classdict__" : Str)) = false) (hed : (e == ("__debug__" : Str)) = false) (hec : (e == ("__classdict__" : Str)) = false) :
    LamX.GivesTo X [a, r, e] x sg g cdg [.Assign [.Name r p0] (.Constant .none j p1) p2, .Try [.Expr (.Call (.Name a p3) [] [] p4) p5] [.ExceptHandler (some (.Name y p6)) (some e) [.Assign [.Name r p7] (.Name e p8) p9] p10] [] [] p11, .Return (some (.Name r p12)) p13] a q (TTc X.K CS) := by
  intro f c' s H Q tl act hc h
  have hgl : Gl (cxOf C8.CX0 X.prog X.w X.K X.mg X.base [a, r, e] x sg g cdg X.A X.stack s H C8.E0).nox y := hge
  refine ⟨_, pss_cons (ps_set (X := (cxOf C8.CX0 X.prog X.w X.K X.mg X.base [a, r, e] x sg g cdg X.A X.stack s H C8.E0).nox) (i := 1) hN rfl (.inl hr) pe_non rfl (.inr hr))
    (pss_cons (ps_try_keep (X := (cxOf C8.CX0 X.prog X.w X.K X.mg X.base [a, r, e] x sg g cdg X.A X.stack s H C8.E0).nox) (i := 2) (c := .ref CS)
      (tb := fun W D σ H => ∃ Ech : XK, (∀ cls d σ' H', Ech cls d H' → W cls d σ' H') ∧ σ[0]? = some (some (.ref f)) ∧ H c' = some (LamX.CodeO c' q) ∧ tl Ech H fun _ H1 => D.nx σ H1)
      (ts := fun a cls d => tAsg (tVar 2) (gName 1))
      rfl rfl hN rfl he ⟨hgl, hde, .inl hme⟩ (fun W pn xe tk _ => ?_) (fun a oe cls d pn _ _ => pss_one (ps_set (i := 1) hN rfl (.inl hr) (pe_var (i := 2) rfl (.inl he) hed hec) rfl (.inr hr))))
    (pss_one (ps_ret (pe_var (i := 1) rfl (.inl hr) hrd hrc)))), ?_⟩
  · refine ⟨fun pins s' σ H' D I h' => ?_⟩
    obtain ⟨Ech, hW, h1, h2, h3⟩ := h'
    have hp := act W pn xe Ech p3 p4 tk hW
    have hq := pss_one (ps_expr (pos := p5) hp)
    exact hq.run pins s' σ H' D I ⟨h1, h2, h3⟩
  · refine ⟨fun cls d H' => PySem.W.exmOne X.K cls (.ref CS) = some true ∧ ∀ a, H' a = none → Q (.ref a) (upd H' a (excO a cls d)), fun cls d σ' H' hw => ?_, rfl, hc, ?_⟩
    · refine ⟨hw.1, fun hl b hb => ?_⟩
      refine ⟨.ref b, ?_, ?_⟩
      · exact List.getElem?_set_self (by rw [hl]; exact Nat.lt_succ_self 2)
      · refine ⟨.ref b, ?_, hw.2 b hb⟩
        rw [List.getElem?_set_ne (by decide), List.getElem?_set_self (by rw [List.length_set, hl]; exact Nat.lt_succ_of_lt (Nat.lt_succ_self 1))]
    · have z : ∀ H1 : Hp, ({ nx := tRet (tVar 1) { nx := fun _ H' => Q V.non H', rt := Q }, rt := Q } : Ends).nx (List.set (L2.start [a, r, e] [V.ref f]) 1 (some V.non)) H1 = (∃ v, (List.set (L2.start [a, r, e] [V.ref f]) 1 (some V.non))[1]? = some (some v) ∧ Q v H1) := fun _ => rfl
      refine (?_ : tl _ H _)
      have e2 : (fun (_ : V) H1 => Q .non H1) = fun (_ : V) H1 => ({ nx := tRet (tVar 1) { nx := fun _ H' => Q V.non H', rt := Q }, rt := Q } : Ends).nx (List.set (L2.start [a, r, e] [V.ref f]) 1 (some V.non)) H1 := by
        funext _ H1
        rw [z]
        exact propext ⟨fun q => ⟨.non, rfl, q⟩, fun ⟨v, e3, q⟩ => by cases e3; exact q⟩
      have h' : tl (fun cls d H' => PySem.W.exmOne X.K cls (.ref CS) = some true ∧ ∀ a, H' a = none → Q (.ref a) (upd H' a (excO a cls d))) H (fun (_ : V) H1 => Q .non H1) := h
      rw [e2] at h'
      exact h'
end
end Q

set_option linter.all false
set_option maxRecDepth 100000
set_option maxHeartbeats 4000000
namespace Q
open PySem PySem.Spec PySem.Calls PyProof.Rows PySem.W
/-! ### isinstance of an exception that has its own dict -/
section
variable {prog : Program} {w : World} {A : Around} {E : Value → Shared → Prop} {s : Shared} {K : Frag} {x D : Addr} {ox : Obj} {od : Option Obj}
theorem findObj_dataD {C : Addr} {name : Str} {a g : Value} (hc : (clsIn K C).isSome = true) (ha : findIn K (.ref C) name = some (some a)) (hg : specialIn K a "__get__" = some (some g)) (ht : takesIn K a = some true) : findObj K C od name = some (.bind g a) := by
  cases od with
  | none => exact findObj_dataN hc ha hg ht
  | some o => exact findObj_data hc ha hg ht
theorem kin_classD {Q : Option Value → Shared → Prop} (hga : findIn K (.ref D) "__getattribute__" = some (some (.builtin "BaseException.__getattribute__"))) (hgt : findIn K (.ref D) "__getattr__" = some none) (hsub : subIn K (.ref D) (.type "BaseException") = some true)
    (hdct : hasDictIn K D = true) (ha : findIn K (.ref D) "__class__" = some (some (.builtin "object.__class__")))
    (hn : specialIn K (.builtin "object.__class__") "__get__" = some (some (.builtin "getset_descriptor.__get__"))) (htk : takesIn K (.builtin "object.__class__") = some true) (hm : mroIn K D (.type "object") = some true)
    (X : K.In s.heap) (I : InstAt s.heap x ox D od) (h : Q (some (.ref D)) { s with toks := s.toks + 1 }) : wpAny (model prog w) A (getAttr? (.ref x) "__class__") Q E s := by
  have hf : findObj K D od "__class__" = some (.bind (.builtin "getset_descriptor.__get__") (.builtin "object.__class__")) := findObj_dataD (by obtain ⟨cd, hc, _⟩ := any_some hdct; rw [hc]; rfl) ha hn htk
  obtain ⟨hp, g, d, t, os⟩ := s
  have L0 := I.type (M := model prog w)
  have L1 := looks_findIn (M := model prog w) X hga
  have L2 := looks_findIn (M := model prog w) X hgt
  have L3 := looks_find (M := model prog w) X I hf
  have sub : Looks (model prog w) hp (isInstance (.ref x) (.type "BaseException")) true := L0.andThen (looks_subIn X hsub)
  have hx0 : (false && onTheHeap (Value.builtin "BaseException.__getattribute__")) = false := rfl
  have hx2 : (Value.builtin "BaseException.__getattribute__" == Value.builtin "object.__getattribute__") = false := by decide +kernel
  have hx1 : (onTheHeap (Value.ref D) && Value.builtin "BaseException.__getattribute__" == Value.builtin "object.__getattribute__") = false := by rw [hx2]; rfl
  unfold getAttr? getAttrBy? getAttrBy
  refine wpAny_bind (wpAny_mkText (wpAny_bind (wpAny_attempt (wpAny_holding (wpAny_bind (L0.at (wpAny_bind (L1.at ?_))))))))
  show wpAny _ _ (if (onTheHeap (Value.ref D) && Value.builtin "BaseException.__getattribute__" == Value.builtin "object.__getattribute__") = true then _ else _) _ _ _
  rw [hx1, if_neg Bool.false_ne_true]
  unfold getAttrByItsOwn hookBefore
  refine wpAny_bind ?_
  rw [if_pos (show onTheHeap (Value.ref D) = true from rfl)]
  refine L2.at ?_
  refine wpAny_bind (wpAny_attempt (wpAny_holding ?_))
  unfold callGetattribute
  rw [hx0, if_neg Bool.false_ne_true]
  unfold boundAndCalled
  rw [PySem.F.excAttr_ValueError.ga.bind (.ref x)]
  refine wpAny_bind (wpAny_pure ?_)
  show wpAny _ _ (call (.builtin "BaseException.__getattribute__") [.ref x, .str "__class__" t]) _ _ _
  refine wpAny_call (codeAny_call_builtin PySem.F.excAttr_ValueError.ga.plain PySem.F.entry_bexc_ga ?_)
  refine @check_slot (model prog w) _ _ ⟨hp, g, d, t + 1, os⟩ "BaseException.__getattribute__" "BaseException" "__getattribute__" (.ref x) [.str "__class__" t] [] _ (by decide +kernel) (by decide +kernel) sub (PySem.F.args_bexc_ga (.ref x) (.str "__class__" t)) ?_
  unfold Builtin.«object.__getattribute__»
  refine wpAny_bind (wpAny_of_eq (a := ((Value.ref x : Value), [Value.str "__class__" t])) (by first | rfl | (simp only [slotArgs]; rfl)) ?_)
  refine wpAny_bind (wpAny_pure (wpAny_bind (L0.at (wpAny_bind (L3.at ?_)))))
  show wpAny _ _ (holding [Value.builtin "object.__class__"] (call (.builtin "getset_descriptor.__get__") [.builtin "object.__class__", .ref x, .ref D]) >>= PySem.ret) _ _ _
  refine wpAny_bind (wpAny_holding (wpAny_call (class_get (s := ⟨hp, g, d, t + 1, os⟩) (ox := ox) (od := od) X I hm ?_)))
  refine wpAny_pure ?_
  show wpAny _ _ (handedOut (.ref D)) _ _ _
  rw [handedOut_of (v := .ref D) rfl]
  first
    | exact wpAny_pure (wpAny_pure h)
    | exact wpAny_pure h
    | exact wpAny_pure (wpAny_bind (wpAny_pure (wpAny_pure h)))
theorem kitx_excD (hga : findIn K (.ref D) "__getattribute__" = some (some (.builtin "BaseException.__getattribute__"))) (hgt : findIn K (.ref D) "__getattr__" = some none) (hsub : subIn K (.ref D) (.type "BaseException") = some true) (hdct : hasDictIn K D = true) (ha : findIn K (.ref D) "__class__" = some (some (.builtin "object.__class__")))
    (hn : specialIn K (.builtin "object.__class__") "__get__" = some (some (.builtin "getset_descriptor.__get__"))) (htk : takesIn K (.builtin "object.__class__") = some true) (hm : mroIn K D (.type "object") = some true) :
    KitX K (.ref x) (.ref D) (fun h => InstAt h x ox D od) where
  ty := fun _ _ _ I => I.type
  it := fun _ _ X _ => by
    obtain ⟨cdD, hcD, _⟩ := any_some hdct
    unfold clsIn at hcD
    split at hcD
    · rename_i c' d' cd' sl' ho
      intro A' Q' E' s' k q
      unfold isType loadHead
      exact wpAny_bind (wpAny_loadPart (k _ _ (X _ _ ho)) (wpAny_pure q))
    · cases hcD
  ne := fun h tp dd its n sl X htp => by
    obtain ⟨cdD, hcD, _⟩ := any_some hdct
    refine Bool.eq_false_iff.mpr fun q => ?_
    have e : D = tp := Value.ref.inj (beq_iff_eq.mp q)
    subst e
    unfold clsIn at hcD
    split at hcD
    · rename_i c' d' cd' sl' ho
      have z := (X _ _ ho).symm.trans htp
      cases z
    · cases hcD
  ca := fun X I k => kin_classD hga hgt hsub hdct ha hn htk hm X I k
end
end Q

set_option linter.all false
set_option maxRecDepth 100000
set_option maxHeartbeats 800000
namespace Q
open PySem PySem.Spec PyProof.Rows L2

/-! ### caught(lambda: e) -/
theorem obr_monoN {K : PySem.W.Frag} {mg : Str → Option Value} {H H' : Hp} {μ μ' : Nat → Addr} {N N' : Nat} {a : Addr} {ob : Ob} (e : Ext H μ N H' μ' N') (ha : ∀ o, H a = some o → (∀ ps, o ≠ .tbl ps) → H' a = some o) (h : ObR K mg H μ N a ob) : ObR K mg H' μ' N' a ob := by
  match ob, h with
  | .non, _ => trivial
  | .lst xs, ⟨vs, h1, h2⟩ => exact ⟨vs, ha _ h1 (fun _ z => by cases z), h2.ext e⟩
  | .ro xs, ⟨vs, h1, h2⟩ => exact ⟨vs, h1.imp (fun ⟨o, q⟩ => ⟨o, ha _ q (fun _ z => by cases z)⟩) id, h2.ext e⟩
  | .dic false kvs, ⟨vs, h1, h2⟩ => exact ⟨vs, ha _ h1 (fun _ z => by cases z), h2.ext e⟩
  | .dic true kvs, ⟨o, vs, h1, h2⟩ => exact ⟨o, vs, ha _ h1 (fun _ z => by cases z), h2.ext e⟩
  | .ins c fs, ⟨C, dx, vs, h0, h1, h2⟩ => exact ⟨C, dx, vs, h0, ha _ h1 (fun _ z => by cases z), h2.ext e⟩
section
variable {K : PySem.W.Frag} {mg : Str → Option Value} {T : Tb} {H H1 : Hp} {μ : Nat → Addr} {S : Sto}
theorem ext_extN (e : LamX.ExtN H H1) (N : Nat) : Ext H μ N H1 μ N :=
  ⟨fun b _ h => e b _ h (fun _ z => by cases z), fun b _ _ h => e b _ h (fun _ z => by cases z), fun b _ h => e b _ h (fun _ z => by cases z), Nat.le_refl _, fun _ _ => rfl⟩
theorem SRel.extN (r : SRel K mg T H μ S) (e : LamX.ExtN H H1) (t : LamX.Tabs T H1) : SRel K mg T H1 μ S :=
  ⟨fun n hn => obr_monoN (ext_extN e _) (fun o h z => e _ o h z) (r.at_ n hn), r.inj, t⟩
end
def mCaught (cs : List Str) (f : En → M Vl) : En → M Vl := fun ρ S => match f ρ S with
  | some (.ok _, S') => some (.ok .non, S')
  | some (.exc c g v, S') => if c ∈ cs then (match v with
    | .non => if g = "" then some (.ok (.exc c "" .non), S') else none
    | _ => none) else none
  | none => none
/-- what the def that catches is -/
structure CaughtS (K : PySem.W.Frag) (mg : Str → Option Value) (x : Str) (cs : List Str) : Prop where
  ex : ∃ (g CS : Addr) (a r e y : Str) (pg : Arguments) (sg : Scope) (dV kV doc pm cdv ct oc : Value) (an od : Option Addr) (osl : Array (Option Value)) (j : Nat) (p0 p1 p2 p3 p4 p5 p6 p7 p8 p9 p10 p11 p12 p13 : Pos) (bg : List Stmt),
    bg = [.Assign [.Name r p0] (.Constant .none j p1) p2, .Try [.Expr (.Call (.Name a p3) [] [] p4) p5] [.ExceptHandler (some (.Name y p6)) (some e) [.Assign [.Name r p7] (.Name e p8) p9] p10] [] [] p11, .Return (some (.Name r p12)) p13] ∧
    mg x = some (.ref g) ∧ PySem.W.keepIn K (.ref g) = true ∧ K.lookup g = some ⟨oc, od, .func (PySem.W.fnOf x x pg bg sg dV kV doc pm an cdv ct), osl⟩ ∧ PySem.W.codeIn K cdv x = true ∧
    L2.Binds K (PySem.W.fnOf x x pg bg sg dV kV doc pm an cdv ct) [a] [] ∧ FnScope [a, r, e] [a] sg ∧ Vis sg a ∧ ([a, r, e] : List Str).Nodup ∧ sg.names.lookup y = some .globalImplicit ∧ mg y = some (.ref CS) ∧ (y == ("__debug__" : Str)) = false ∧
    sg.names.lookup r = some .local ∧ sg.names.lookup e = some .local ∧ (r == ("__debug__" : Str)) = false ∧ (r == ("__classdict__" : Str)) = false ∧ (e == ("__debug__" : Str)) = false ∧ (e == ("__classdict__" : Str)) = false ∧ (a == ("__debug__" : Str)) = false ∧ (a == ("__classdict__" : Str)) = false ∧ (x == ("__debug__" : Str)) = false ∧
    ∀ c ∈ cs, ∀ C, mg c = some (.ref C) → PySem.W.exmOne K (.ref C) (.ref CS) = some true
/-- what the making of lambdas asks of the context -/
structure Maker (X : Cx) (T : Tb) : Prop where
  ex : ∃ c P : Addr, LamX.TabB X.base X.mg c P ∧ X.env.code = .ref c ∧ (P, X.env.qual ++ "<lambda>") ∈ T ∧ ∀ p ∈ T, p.1 = P → p.2 = X.env.qual ++ "<lambda>"
section
variable {X : Cx} {T : Tb} {W : WX} {k : Nat} {x : Str} {p lpos pos : Pos} {params : Arguments} {body : Expr} {scope : Scope} {f : En → M Vl} {cs : List Str}
theorem fcx_lam {A : Around} {outer : List Env} {s : Shared} {H : Hp} {E : XK} {fa c' : Addr} (hr : Room k (LamX.lamCx X A outer s H E scope fa c').A) (nd : X.N.Nodup) : FCx false (LamX.lamCx X A outer s H E scope fa c') (fun cls d _ H' => E cls d H') k :=
  ⟨(fun z => by cases z), hr, takes_of rfl rfl rfl rfl, passes_of rfl, rfl, nd⟩
end

/-! ### isinstance with the own classes -/
def bIsE (sub : List (Str × Str)) (ok : List Str) : List Vl → MO Vl := fun as S => match as with
  | [.exc c _ _, .gl d] => if c ∈ ok ∧ d ∈ ok then some (.bl (decide ((c, d) ∈ sub)), S) else none
  | [v, .gl d] => (match tyN S v with | some _ => if d ∈ ok then some (.bl false, S) else none | none => none)
  | as => bIsi as S
theorem bIsE_eq {sub : List (Str × Str)} {ok : List Str} {as : List Vl} {S : Sto} {p : Vl × Sto} (h : bIsE sub ok as S = some p) :
    (∃ c g v d, as = [.exc c g v, .gl d] ∧ c ∈ ok ∧ d ∈ ok ∧ p = (.bl (decide ((c, d) ∈ sub)), S)) ∨ (∃ v d a, as = [v, .gl d] ∧ tyN S v = some a ∧ d ∈ ok ∧ p = (.bl false, S)) ∨ bIsi as S = some p := by
  unfold bIsE at h
  split at h
  · rename_i c g v d
    by_cases hok : c ∈ ok ∧ d ∈ ok
    · rw [if_pos hok] at h; cases h; exact .inl ⟨c, g, v, d, rfl, hok.1, hok.2, rfl⟩
    · rw [if_neg hok] at h; cases h
  · rename_i v d _
    cases ht : tyN S v with
    | none => rw [ht] at h; cases h
    | some a =>
      rw [ht] at h
      simp only at h
      by_cases hok : d ∈ ok
      · rw [if_pos hok] at h; cases h; exact .inr (.inl ⟨v, d, a, rfl, ht, hok, rfl⟩)
      · rw [if_neg hok] at h; cases h
  · exact .inr (.inr h)
theorem rp_exc {K : PySem.W.Frag} {mg : Str → Option Value} {H : Hp} {μ : Nat → Addr} {N : Nat} {c g : Str} {v : Vl} {x : V} (r : Rp K mg H μ N (.exc c g v) x) :
    ∃ (a C0 : Addr) (dd : Option Addr), x = V.ref a ∧ mg c = some (.ref C0) ∧ H a = some (excO a (.ref C0) dd) ∧ ∀ d0, dd = some d0 → ∃ fs, H d0 = some (exd d0 fs) := by
  cases r with
  | @exc c a C0 hC hH => exact ⟨_, C0, none, rfl, hC, hH, fun d0 z => by cases z⟩
  | @excF c f a C0 d1 v w h0 hC hH hd r => exact ⟨_, C0, some d1, rfl, hC, hH, fun d0 z => by cases z; exact ⟨_, hd⟩⟩
structure ExcCs (K : PySem.W.Frag) (mg : Str → Option Value) (sub : List (Str × Str)) (ok : List Str) : Prop where
  c : ∀ c ∈ ok, ∀ C, mg c = some (.ref C) → ExcC K C
  s : ∀ c ∈ ok, ∀ d ∈ ok, ∀ C D, mg c = some (.ref C) → mg d = some (.ref D) → PySem.W.kitOne K (.ref C) (.ref D) = some (decide ((c, d) ∈ sub))
  t : ∀ d ∈ ok, ∀ D, mg d = some (.ref D) → ∀ a ∈ tyNs, PySem.W.kitOne K (.type a) (.ref D) = some false
section
variable {X : Cx} {T : Tb} {sub : List (Str × Str)} {ok : List Str}
theorem cs_isE (C : ExcCs X.K X.mg sub ok) : CaS X T (.builtin "isinstance") (bIsE sub ok) := by
  intro pins s σ H xs us Q I rs h
  have h0 := h
  obtain ⟨μ, S, as, sr, ra, h⟩ := h
  obtain ⟨p, e⟩ := h.some_
  rcases bIsE_eq e with ⟨c, g, v, d, rfl, hc, hd, rfl⟩ | ⟨v, d, a, rfl, ht, hok, rfl⟩ | e2
  · rw [e] at h
    cases ra with
    | cons r1 r2 =>
      cases r2 with
      | cons r2 r3 =>
        cases r3
        obtain ⟨a, C0, dd, ex, hC, hH, hod⟩ := rp_exc r1
        subst ex
        cases r2 with
        | @gl d D hD =>
        obtain ⟨u, w', rfl, ru, rw'⟩ := vals2 rs
        cases rw'
        obtain rfl : u = Value.ref a := ru
        obtain ⟨⟨oe, vs, he, hz, hdd⟩, _, _⟩ := I.hok a _ hH
        obtain ⟨od, J⟩ : ∃ od, PySem.W.InstAt s.heap a oe C0 od := by
          obtain ⟨oc, od, oda, osl⟩ := oe
          obtain ⟨h1, h2⟩ := hz
          dsimp only at h1 h2 hdd
          subst h1 h2 hdd
          cases od with
          | none => exact ⟨none, he, rfl, rfl, trivial⟩
          | some d0 =>
            obtain ⟨fs, hfs⟩ := hod d0 rfl
            obtain ⟨mA, hns, _⟩ := exd_at I.hok hfs
            obtain ⟨o, _, _, ho, _⟩ := hns
            exact ⟨some o, he, rfl, rfl, ho⟩
        have EC := C.c c hc C0 hC
        exact PySem.W.kia_one (kitx_excD EC.hg EC.hk EC.hs EC.hd EC.ha EC.hn EC.ht EC.hm) I.kIn J (C.s c hc d hd C0 D hC hD) (fun z => nomatch z) fun tk => ⟨.bl _, H, I.kept (t' := tk) fun _ _ z => z, rfl, PstO.here h sr (.bl _)⟩
  · rw [e] at h
    cases ra with
    | cons r1 r2 =>
      cases r2 with
      | cons r2 r3 =>
        cases r3
        cases r2 with
        | @gl d D hD =>
        obtain ⟨ty, ha⟩ := tyN_at sr r1 ht
        exact call_isi pins s σ H _ us Q I rs ⟨_, _, _, _, _, rfl, .own D, ty, C.t d hok D hD a ha, PstO.here h sr (.bl _)⟩
  · rw [e, ← e2] at h
    exact cs_isi pins s σ H xs us Q I rs ⟨μ, S, _, sr, ra, h⟩
end
end Q

set_option linter.all false
set_option maxRecDepth 100000
set_option maxHeartbeats 800000
namespace Q
open PySem PySem.Spec PyProof.Rows L2

/-! ### slices -/
def tOfO (K : PySem.W.Frag) (mg : Str → Option Value) (T : Tb) (W : WX) (f : En → M (Option Int)) : TO := fun σ H Q => ∃ (ρ : En) (μ : Nat → Addr) (S : Sto), SRel K mg T H μ S ∧ ERel K mg H μ S.n ρ σ ∧ Pst K mg T (fun cls d H' => W cls d σ H') (fun _ _ _ (a b : Option Int) => a = b) H μ S.n Q (f ρ S)
abbrev SO (X : Cx) (T : Tb) (W : WX) (e : Option Expr) (f : En → M (Option Int)) : Prop := PO X e (tOfO X.K X.mg T W f)
def oNone : En → M (Option Int) := fun _ => ret none
def oSome (f : En → M Vl) : En → M (Option Int) := fun ρ => bnd (f ρ) fun v => match v with
  | .int i => ret (some i)
  | _ => fail
/-- the items from lo up to hi -/
def cutL {α : Type} (xs : List α) (lo hi : Option Int) : List α := (xs.drop (HT.sIx xs.length 0 lo)).take (HT.sIx xs.length xs.length hi - HT.sIx xs.length 0 lo)
def bSl (v : Vl) (lo hi : Option Int) : MO Vl := fun S => match v with
  | .tup xs => some (.tup (cutL xs lo hi), S)
  | .str z => if z.length ≤ sizeLine then some (.str (cutS z lo hi), S) else none
  | .ref n => match getR S n with
    | some xs => some (.ref S.n, S.push (.lst (cutL xs lo hi)))
    | none => none
  | _ => none
def mSl (f : En → M Vl) (fl fh : En → M (Option Int)) : En → M Vl := fun ρ => bnd (f ρ) fun v => bnd (fl ρ) fun lo => bnd (fh ρ) fun hi => lift (bSl v lo hi)
theorem cutL_all {α : Type} (xs : List α) {lo hi : Option Int} (h1 : HT.sIx xs.length 0 lo = 0) (h2 : HT.sIx xs.length xs.length hi = xs.length) : cutL xs lo hi = xs := by
  unfold cutL; rw [h1, h2]; simp
section
variable {K : PySem.W.Frag} {mg : Str → Option Value} {T : Tb} {H : Hp} {μ : Nat → Addr} {S : Sto} {N : Nat}
theorem RpAll.cut {xs : List Vl} {vs : List V} (h : RpAll K mg H μ N xs vs) (lo hi : Option Int) : RpAll K mg H μ N (cutL xs lo hi) (cutV vs lo hi) := by
  unfold cutL cutV
  rw [h.length]
  exact (h.drop _).take _
end
section
variable {X : Cx} {T : Tb} {W : WX} {pos p2 : Pos} {e : Expr} {lo hi : Option Expr} {f : En → M Vl} {fl fh : En → M (Option Int)}
theorem so_none : SO X T W none oNone := ⟨fun pins s σ H Q I ⟨ρ, μ, S, sr, er, h⟩ => po_none.run pins s σ H Q I (Pst.here (rel := fun _ _ _ (a b : Option Int) => a = b) h sr rfl)⟩
theorem so_some {e : Expr} (he : SE X T W e f) : SO X T W (some e) (oSome f) := ⟨fun pins s σ H Q I ⟨ρ, μ, S, sr, er, h⟩ => (po_some he).run pins s σ H Q I ⟨ρ, μ, S, sr, er, Pst.bnd_ h fun v S1 H1 μ1 x e1 sr1 rx h1 => by
  cases v with
  | int i => cases rx; exact ⟨i, rfl, Pst.here (rel := fun _ _ _ (a b : Option Int) => a = b) h1 sr1 rfl⟩
  | _ => exact h1.elim⟩⟩
def rSlQ (K : PySem.W.Frag) (mg : Str → Option Value) (T : Tb) : V → Option Int → Option Int → Hp → VK → Prop := fun x lo hi H Q => ∃ (μ : Nat → Addr) (S : Sto) (v : Vl), SRel K mg T H μ S ∧ Rp K mg H μ S.n v x ∧ PstO K mg T (rl K mg) H μ S.n Q (bSl v lo hi S)
theorem sl_q : SlR X (rSlQ X.K X.mg T) := by
  intro pins s σ H x v vl vu lo hi sl Q I rx hs pl pu h
  obtain ⟨μ, S, a, sr, ra, h⟩ := h
  cases a with
  | tup xs =>
    obtain ⟨p, vs, rfl, h1, h2⟩ := ra.tup_at
    refine sl_tupA pins s σ H _ v vl vu lo hi sl Q I rx hs pl pu ⟨p, vs, rfl, h1, fun hw => ?_, fun hw q hq => ?_⟩
    · have e : cutL xs lo hi = xs := cutL_all xs (by rw [h2.length]; exact hw.1) (by rw [h2.length]; exact hw.2)
      have h : PstO X.K X.mg T (rl X.K X.mg) H μ S.n Q (some (.tup (cutL xs lo hi), S)) := h
      rw [e] at h
      exact PstO.here h sr (.tup h1 h2)
    · exact fin_tup (show PstO X.K X.mg T (rl X.K X.mg) H μ S.n Q (some (.tup (cutL xs lo hi), S)) from h) sr (h2.cut lo hi) q hq
  | str z =>
    cases ra
    have h : PstO X.K X.mg T (rl X.K X.mg) H μ S.n Q (if z.length ≤ sizeLine then some (.str (cutS z lo hi), S) else none) := h
    by_cases hz : z.length ≤ sizeLine
    · rw [if_pos hz] at h
      exact sl_str pins s σ H _ v vl vu lo hi sl Q I rx hs pl pu ⟨z, rfl, hz, PstO.here h sr (.str _)⟩
    · rw [if_neg hz] at h; exact h.elim
  | ref n =>
    cases e : getR S n with
    | none => unfold bSl at h; simp only [e] at h; exact h.elim
    | some xs =>
      unfold bSl at h; simp only [e] at h
      obtain ⟨vs, rfl, h1, h2⟩ := ra.read_at sr e
      exact sl_list pins s σ H _ v vl vu lo hi sl Q I rx hs pl pu ⟨_, vs, rfl, h1, fun p hp => fin_lst h sr (h2.cut lo hi) p hp⟩
  | _ => exact h.elim
theorem se_sl (he : SE X T W e f) (hl : SO X T W lo fl) (hu : SO X T W hi fh) : SE X T W (.Subscript e (.Slice lo hi none p2) pos) (mSl f fl fh) := by
  refine PE.imp (pe_slice (sl_q (T := T)) he hl hu) fun σ H Q h => ?_
  obtain ⟨ρ, μ, S, sr, er, h⟩ := h
  refine ⟨ρ, μ, S, sr, er, Pst.bnd_ h fun v S1 H1 μ1 x e1 sr1 rx h1 => ?_⟩
  refine ⟨ρ, μ1, S1, sr1, er.ext e1, Pst.bnd_ h1 fun o S2 H2 μ2 o' e2 sr2 ro h2 => ?_⟩
  obtain rfl : o = o' := ro
  refine ⟨ρ, μ2, S2, sr2, (er.ext e1).ext e2, Pst.bnd_ h2 fun o2 S3 H3 μ3 o2' e3 sr3 ro h3 => ?_⟩
  obtain rfl : o2 = o2' := ro
  exact ⟨μ3, S3, v, sr3, (rx.ext e2).ext e3, h3.lift_⟩
end

/-! ### {k: v, ..} -/
def mPairs : List ((En → M Vl) × (En → M Vl)) → En → M (List (Vl × Vl))
  | [], _ => ret []
  | (fk, fv) :: r, ρ => bnd (fk ρ) fun k => bnd (fv ρ) fun v => bnd (mPairs r ρ) fun ps => ret ((k, v) :: ps)
def mergeD (kvs more : List (Vl × Vl)) : List (Vl × Vl) := more.foldl (fun acc kv => dPut acc kv.1 kv.2) kvs
def mDisp (ms : List ((En → M Vl) × (En → M Vl))) : En → M Vl := fun ρ S => bnd (mPairs ms ρ) (fun ps => lift fun S2 => match S2.at_ S.n with
  | .dic false [] => if ps.length ≤ 15 ∧ (ps.all fun p => (keyOf p.1).isSome) = true then some (.ref S.n, S2.set S.n (.dic false (mergeD [] ps))) else none
  | _ => none) (S.push (.dic false []))
section
variable {K : PySem.W.Frag} {mg : Str → Option Value} {T : Tb} {H : Hp} {μ : Nat → Addr} {S : Sto} {N : Nat}
def RpP (K : PySem.W.Frag) (mg : Str → Option Value) : Hp → (Nat → Addr) → Nat → List (Vl × Vl) → List (V × V) → Prop := fun H μ N xs vs => RpAll K mg H μ N (xs.map (·.1)) (vs.map (·.1)) ∧ RpAll K mg H μ N (xs.map (·.2)) (vs.map (·.2))
theorem RpP.ext {H' : Hp} {μ' : Nat → Addr} {N' : Nat} (e : Ext H μ N H' μ' N') {xs : List (Vl × Vl)} {vs : List (V × V)} (h : RpP K mg H μ N xs vs) : RpP K mg H' μ' N' xs vs := ⟨h.1.ext e, h.2.ext e⟩
theorem RpP.keys : ∀ {xs : List (Vl × Vl)} {vs : List (V × V)}, RpP K mg H μ N xs vs → (xs.all fun p => (keyOf p.1).isSome) = true → ∃ kvs : List (Key × V), vs = kvs.map (fun kv => (kV kv.1, kv.2)) ∧ RpK K mg H μ N xs kvs
  | [], [], _, _ => ⟨[], rfl, .nil⟩
  | [], _ :: _, h, _ => by cases h.1
  | _ :: _, [], h, _ => by cases h.1
  | (k, x) :: xs, (a, b) :: vs, h, hk => by
    obtain ⟨h1, h2⟩ := h
    cases h1 with
    | cons r1 t1 =>
    cases h2 with
    | cons r2 t2 =>
    rw [List.all_cons, Bool.and_eq_true] at hk
    obtain ⟨kvs, e, rk⟩ := RpP.keys ⟨t1, t2⟩ hk.2
    cases ek : keyOf k with
    | none => rw [ek] at hk; cases hk.1
    | some κ =>
      have e1 : a = kV κ := by
        cases k with
        | int i => cases ek; cases r1; rfl
        | str i => cases ek; cases r1; rfl
        | _ => cases ek
      exact ⟨(κ, b) :: kvs, by rw [e, e1]; rfl, .cons ek r2 rk⟩
theorem RpK.merge {xs : List (Vl × Vl)} {vs : List (Key × V)} (h : RpK K mg H μ N xs vs) : ∀ {ys : List (Vl × Vl)} {us : List (Key × V)}, RpK K mg H μ N ys us → RpK K mg H μ N (mergeD ys xs) (mergeK us vs) := by
  induction h with
  | nil => intro ys us h2; exact h2
  | cons hk rv _ ih => intro ys us h2; exact ih (RpK.put hk rv h2)
end
section
variable {X : Cx} {T : Tb} {W : WX} {pos : Pos} {keys : List (Option Expr)} {values : List Expr}
def tPs (K : PySem.W.Frag) (mg : Str → Option Value) (T : Tb) (W : WX) (ms : List ((En → M Vl) × (En → M Vl))) : List (TE × TE) := ms.map fun m => (tOf K mg T W m.1, tOf K mg T W m.2)
theorem tPairs_of : ∀ (ms : List ((En → M Vl) × (En → M Vl))) {σ : L2.St} {ρ : En} {H : Hp} {μ : Nat → Addr} {S : Sto} {Q : List (V × V) → Hp → Prop}, SRel X.K X.mg T H μ S → ERel X.K X.mg H μ S.n ρ σ →
    Pst X.K X.mg T (fun cls d H' => W cls d σ H') (RpP X.K X.mg) H μ S.n Q (mPairs ms ρ S) → tPairs (tPs X.K X.mg T W ms) σ H Q
  | [], _, _, _, _, _, _, sr, er, h => Pst.here (rel := RpP X.K X.mg) h sr ⟨.nil, .nil⟩
  | (fk, fv) :: r, σ, ρ, H, μ, S, Q, sr, er, h => by
    refine ⟨ρ, μ, S, sr, er, Pst.bnd_ (rel := rl X.K X.mg) h fun k S1 H1 μ1 x e1 sr1 rx h1 => ?_⟩
    refine ⟨ρ, μ1, S1, sr1, er.ext e1, Pst.bnd_ (rel := rl X.K X.mg) h1 fun v S2 H2 μ2 y e2 sr2 ry h2 => ?_⟩
    refine tPairs_of r sr2 ((er.ext e1).ext e2) (Pst.bnd_ (rel := RpP X.K X.mg) h2 fun ps S3 H3 μ3 zs e3 sr3 rz h3 => ?_)
    exact Pst.here (rel := RpP X.K X.mg) h3 sr3 ⟨.cons ((rx.ext e2).ext e3) rz.1, .cons (ry.ext e3) rz.2⟩
abbrev SPs (X : Cx) (T : Tb) (W : WX) (pos : Pos) (keys : List (Option Expr)) (values : List Expr) (ms : List ((En → M Vl) × (En → M Vl))) : Prop := PPs X pos keys values (tPs X.K X.mg T W ms)
theorem sps_nil : SPs X T W pos [] [] [] := pps_nil
theorem sps_cons {k v : Expr} {fk fv : En → M Vl} {ms : List ((En → M Vl) × (En → M Vl))} (hk : SE X T W k fk) (hv : SE X T W v fv) (hr : SPs X T W pos keys values ms) : SPs X T W pos (some k :: keys) (v :: values) ((fk, fv) :: ms) := pps_cons hk hv hr
theorem se_disp {ms : List ((En → M Vl) × (En → M Vl))} (h : SPs X T W pos keys values ms) (hall : keys.all (·.isSome) = true := by rfl) (hl : keys.length = values.length := by rfl) (h0 : keys ≠ [] := by exact List.cons_ne_nil _ _) (h15 : keys.length ≤ 15 := by decide) :
    SE X T W (.Dict keys values pos) (mDisp ms) := by
  refine PE.imp (pe_disp h hall hl h0 h15) fun σ H Q h => ?_
  obtain ⟨ρ, μ, S, sr, er, h⟩ := h
  intro p hp
  have e1 := ext_new (o := .dK []) (μ := μ) hp S.n (S.n + 1) (Nat.le_succ _)
  have sr1 := sr.push (ob := .dic false []) hp ⟨[], upd_same, .nil⟩
  refine tPairs_of (S := S.push (.dic false [])) ms sr1 (er.ext e1) (Pst.bnd_ (rel := RpP X.K X.mg) (Pst.step h e1) fun ps S2 H2 μ2 zs e2 sr2 rz h2 => ?_)
  have h2 := h2.lift_
  cases e3 : S2.at_ S.n with
  | dic lk kvs =>
    rw [e3] at h2
    match lk, kvs, e3, h2 with
    | false, [], e3, h2 =>
      simp only at h2
      have hn : S.n < S2.n := Nat.lt_of_lt_of_le (Nat.lt_succ_self _) e2.le
      have ep : μ2 S.n = p := by rw [e2.mu S.n (Nat.lt_succ_self _)]; exact mu1_same
      have ob := sr2.at_ S.n hn
      rw [e3, ep] at ob
      obtain ⟨vs, hv, rk0⟩ := ob
      cases rk0
      by_cases hz : ps.length ≤ 15 ∧ (ps.all fun p => (keyOf p.1).isSome) = true
      · rw [if_pos hz] at h2
        obtain ⟨kvs, ek, rk⟩ := rz.keys hz.2
        refine ⟨hv, kvs, ek, ?_, ?_⟩
        · have h3 := rz.1.length
          rw [List.length_map, List.length_map, ek, List.length_map] at h3
          omega
        · have wr := sr2.write (k := S.n) (o := .dK (mergeK [] kvs)) (ob := .dic false (mergeD [] ps)) hn (by rw [e3]; rfl) rfl (by rw [ep, hv]; intro _ z; cases z) (by rw [ep, hv]; intro _ _ z; cases z) (by rw [ep, hv]; intro _ z; cases z) (by rw [ep, hv]; intro _ z; cases z) (fun ew => ⟨_, upd_same, (rk.merge .nil).ext ew⟩)
          rw [ep] at wr
          have rr : Rp X.K X.mg (upd H2 p (.dK (mergeK [] kvs))) μ2 S2.n (.ref S.n) (.ref p) := by
            have := Rp.ref (K := X.K) (mg := X.mg) (H := upd H2 p (.dK (mergeK [] kvs))) (μ := μ2) (N := S2.n) S.n hn
            rw [ep] at this; exact this
          exact h2 _ μ2 (.ref p) wr.2 wr.1 rr
      · rw [if_neg hz] at h2; exact h2.elim
    | true, _, _, h2 => exact h2.elim
    | false, _ :: _, _, h2 => exact h2.elim
  | _ => rw [e3] at h2; exact h2.elim
end

/-! ### str(int), min and max of two, text methods -/
def bStr : List Vl → MO Vl := fun as S => match as with
  | [.int i] => if i.natAbs.log2 < 1920 then some (.str (toString i), S) else none
  | _ => none
def bMin2 : List Vl → MO Vl := fun as S => match as with
  | [.int i, .int j] => some (.int (if j < i then j else i), S)
  | _ => none
def mtUpper : Vl → List Vl → MO Vl := fun o as S => match o, as with
  | .str z, [] => if z.length ≤ 5592405 then some (.str (Txt.upper z), S) else none
  | _, _ => none
section
variable {X : Cx} {T : Tb}
theorem cs_str : CaS X T (.type "str") bStr := by
  intro pins s σ H xs us Q I rs h
  obtain ⟨μ, S, as, sr, ra, h⟩ := h
  obtain ⟨p, e⟩ := h.some_
  rw [e] at h
  unfold bStr at e
  split at e
  · rename_i i
    by_cases hz : i.natAbs.log2 < 1920
    · rw [if_pos hz] at e; cases e
      cases ra with
      | cons r1 r2 =>
      cases r2; cases r1
      exact call_str_int pins s σ H _ us Q I rs ⟨i, rfl, hz, PstO.here h sr (.str _)⟩
    · rw [if_neg hz] at e; cases e
  · cases e
theorem cs_min2 (hc : X.calm = true) : CaS X T (.builtin "min") bMin2 := by
  intro pins s σ H xs us Q I rs h
  obtain ⟨μ, S, as, sr, ra, h⟩ := h
  obtain ⟨p, e⟩ := h.some_
  rw [e] at h
  unfold bMin2 at e
  split at e
  · rename_i i j
    cases e
    cases ra with
    | cons r1 r2 =>
    cases r2 with
    | cons r2 r3 =>
    cases r3; cases r1; cases r2
    exact call_min2 hc pins s σ H _ us Q I rs ⟨i, j, rfl, PstO.here h sr (.int _)⟩
  · cases e
end
end Q

set_option linter.all false
set_option maxRecDepth 100000
set_option maxHeartbeats 800000
namespace Q
open PySem PySem.Spec PyProof.Rows L2

/-! ### o[::-1] -/
def revS (z : Str) : Str := ⟨(((List.range z.length).map fun k => z.length - 1 - k).filterMap (z.cps[·]?)).toArray⟩
def bRev (v : Vl) : MO Vl := fun S => match v with
  | .tup xs => some (.tup xs.reverse, S)
  | .str z => if z.length ≤ sizeLine then some (.str (revS z), S) else none
  | .ref n => match getR S n with
    | some xs => some (.ref S.n, S.push (.lst xs.reverse))
    | none => none
  | _ => none
def mRev (f : En → M Vl) : En → M Vl := fun ρ => bnd (f ρ) fun v => lift (bRev v)
theorem rev_at {α : Type} (xs : Array α) : (List.range xs.size).filterMap (fun (m : Nat) => xs[(((xs.size : Int) - 1) + (m : Int) * (-1)).toNat]?) = xs.toList.reverse := by
  have e : (List.range xs.size).filterMap (fun (m : Nat) => xs[(((xs.size : Int) - 1) + (m : Int) * (-1)).toNat]?) = (List.range xs.size).filterMap (fun m => xs[xs.size - 1 - m]?) :=
    filterMap_congr' fun m hm => by
      have hm := List.mem_range.mp hm
      have : (((xs.size : Int) - 1) + (m : Int) * (-1)).toNat = xs.size - 1 - m := by omega
      rw [this]
  rw [e]
  have h := PySem.W.krv_all xs
  have e2 : (List.range xs.size).filterMap (fun m => xs[xs.size - 1 - m]?) = ((List.range xs.size).map fun k => xs.size - 1 - k).filterMap (xs[·]?) := by rw [List.filterMap_map]; rfl
  rw [e2, PySem.W.krv_range, ← h, List.filterMap_reverse]
where
  filterMap_congr' {β : Type} {l : List Nat} {f g : Nat → Option β} (h : ∀ m ∈ l, f m = g m) : l.filterMap f = l.filterMap g := by
    induction l with
    | nil => rfl
    | cons a l ih => simp only [List.filterMap_cons]; rw [h a List.mem_cons_self, ih fun m hm => h m (List.mem_cons_of_mem _ hm)]
section
variable {prog : Program} {w : World} {A : Around} {E : Value → Shared → Prop} {s : Shared}
theorem applied_rev {sl : Addr} {vl vu vs : Value} {n : Nat} {R : Int × Int × Nat → Shared → Prop} (hs : s.heap.IsSliceOf sl vl vu vs) (pl : IsPart vl none) (pu : IsPart vu none) (ps : IsPart vs (some (-1))) (h : R ((n : Int) - 1, -1, n) s) :
    wpAny (model prog w) A (Builtin.Slice.sliceApplied (.ref sl) (pure (n : Int))) R E s := by
  obtain ⟨os, hos, hcs, hds⟩ := id hs
  unfold Builtin.Slice.sliceApplied Builtin.Slice.sliceFields
  refine wpAny_bind (wpAny_bind (wpAny_field hos hds (x := vl) rfl (wpAny_bind (wpAny_field hos hds (x := vu) rfl (wpAny_bind (wpAny_field hos hds (x := vs) rfl (wpAny_pure ?_)))))))
  refine wpAny_bind (HT.slicePart_ ps ?_)
  show wpAny _ _ (if ((-1 : Int) == 0) = true then _ else _) _ _ s
  rw [if_neg (by decide)]
  refine wpAny_bind (HT.slicePart_ pl (wpAny_bind (HT.slicePart_ pu (wpAny_bind (wpAny_pure ?_)))))
  have e1 : Builtin.Slice.sliceAdjust none none (-1) (n : Int) = ((n : Int) - 1, -1) := rfl
  have e2 : Builtin.Slice.slicePlaces ((n : Int) - 1) (-1) (-1) = n := by
    unfold Builtin.Slice.slicePlaces
    have h1 : ¬ ((-1 : Int) > 0) := by omega
    rw [if_neg h1]
    by_cases hn : n = 0
    · subst hn; rfl
    · rw [if_pos (by omega), show (-(-1 : Int)) = 1 from rfl, Int.ediv_one]; omega
  show wpAny _ _ (match Builtin.Slice.sliceAdjust none none (-1) (n : Int) with | (lo, hi) => pure (lo, (-1 : Int), Builtin.Slice.slicePlaces lo hi (-1))) _ _ s
  rw [e1]
  show wpAny _ _ (pure ((n : Int) - 1, (-1 : Int), Builtin.Slice.slicePlaces ((n : Int) - 1) (-1) (-1))) _ _ s
  rw [e2]
  exact wpAny_pure h
theorem item_rev_tup {t sl : Addr} {items : Array Value} {vl vu vs : Value} {R : Value → Shared → Prop} (ht : IsTup s.heap t items) (hs : s.heap.IsSliceOf sl vl vu vs) (pl : IsPart vl none) (pu : IsPart vu none) (ps : IsPart vs (some (-1)))
    (h : R (.ref s.heap.objs.size) { s with heap := s.heap.push { cls := .type "tuple", data := .seq items.toList.reverse.toArray } }) (hsz : items.size ≤ sizeLine) : wpAny (model prog w) A (getItem (.ref t) (.ref sl)) R E s := by
  have hk : sizeOk (.seq items.toList.reverse.toArray) := by
    show items.toList.reverse.toArray.size ≤ sizeLine
    rw [List.size_toArray, List.length_reverse, Array.length_toList]; exact hsz
  obtain ⟨os, hos, hcs, hds⟩ := id hs
  have hTs : s.TypeIs (.ref sl) "slice" := ⟨os, hos, hcs⟩
  unfold getItem
  try with_reducible refine wpAny_holding ?_
  first | refine wpAny_bind (wpAny_pure ?_) | skip
  refine wpAny_bind (wpAny_sequenceKey ht.typeIs (by decide) ?_)
  refine wpAny_bind (wpAny_callSpecial?_slot (name := Str.ofString "__getitem__") ht.typeIs PyProof.Rows.slot_tuple_getitem
    (wpAny_call_entry PyProof.Rows.slot_tuple_getitem ht.typeIs entry_tuple_getitem ?_ (args_tuple_getitem _ _)))
  show wpAny _ _ (Builtin.Tuple.tupleItemsOf (.ref t) >>= _) _ _ s
  refine wpAny_bind (tupleItemsOf_ ht ?_)
  refine wpAny_bind (wpAny_typeOf hTs ?_)
  rw [if_pos (by decide)]
  refine wpAny_bind (applied_rev hs pl pu ps ?_)
  have hno : ¬ ((((items.size : Int) - 1 == 0) && (-1 : Int) == 1 && items.size == items.size) = true) := by
    intro q
    rw [Bool.and_eq_true, Bool.and_eq_true] at q
    exact absurd q.1.2 (by decide)
  show wpAny _ _ (if (((items.size : Int) - 1 == 0) && (-1 : Int) == 1 && items.size == items.size) = true then _ else _) _ _ s
  rw [if_neg hno]
  have e := rev_at items
  show wpAny _ _ (Builtin.Tuple.tupleExact ((List.range items.size).filterMap fun (m : Nat) => items[(((items.size : Int) - 1) + (m : Int) * (-1)).toNat]?).toArray >>= _) _ _ s
  rw [e]
  first
    | exact wpAny_bind (m := Builtin.Tuple.tupleExact _) (wpAny_newObj_type (wpAny_pure ⟨_, rfl, wpAny_pure h⟩) hk)
    | exact wpAny_bind (m := Builtin.Tuple.tupleExact _) (wpAny_newObj_type (wpAny_bind (wpAny_pure (wpAny_pure ⟨_, rfl, wpAny_pure h⟩))) hk)
    | exact wpAny_bind (wpAny_bind (m := Builtin.Tuple.tupleExact _) (wpAny_newObj_type (wpAny_pure (wpAny_pure ⟨_, rfl, wpAny_pure h⟩)) hk))
    | exact wpAny_bind (wpAny_bind (m := Builtin.Tuple.tupleExact _) (wpAny_newObj_type (wpAny_pure ⟨_, rfl, wpAny_pure h⟩) hk))
end
section
variable {X : Cx} {T : Tb} {W : WX} {f : En → M Vl}
theorem se_rev {e : Expr} {k : Nat} {p1 p2 p3 pos : Pos} (he : SE X T W e f) : SE X T W (.Subscript e (.Slice none none (some (.UnaryOp .USub (.Constant (.int 1) k p1) p2)) p3) pos) (mRev f) := by
  refine ⟨fun pins s σ H Q I h => ?_⟩
  obtain ⟨ρ, μ, S, sr, er, h⟩ := h
  refine Subscript_ (thn (he.run pins s σ H (fun x H1 => ∃ (μ1 : Nat → Addr) (S1 : Sto) (v : Vl), SRel X.K X.mg T H1 μ1 S1 ∧ Rp X.K X.mg H1 μ1 S1.n v x ∧ PstO X.K X.mg T (rl X.K X.mg) H1 μ1 S1.n Q (bRev v S1)) I ⟨ρ, μ, S, sr, er, Pst.bnd_ h fun v S1 H1 μ1 x e1 sr1 rx h1 => ⟨μ1, S1, v, sr1, rx, h1.lift_⟩⟩) fun v s1 ⟨x, H1, I1, r1, q1⟩ => ?_)
  obtain ⟨μ1, S1, a, sr1, ra, h1⟩ := q1
  have hst : PO X (some (.UnaryOp .USub (.Constant (.int 1) k p1) p2)) (tPart (tUn (rU fun i => .int (-i)) (tC (.int 1)))) := po_some (pe_un un_neg pe_int)
  refine wpAny_Slice (thn (po_none.run pins s1 σ H1 (fun o H2 => o = none ∧ H2 = H1) I1 ⟨rfl, rfl⟩) fun vl s2 ⟨l, H2, I2, pl, el, e2⟩ => ?_)
  subst el e2
  refine thn (po_none.run pins s2 σ H2 (fun o H3 => o = none ∧ H3 = H2) I2 ⟨rfl, rfl⟩) fun vu s3 ⟨u, H3, I3, pu, eu, e3⟩ => ?_
  subst eu e3
  refine thn (hst.run pins s3 σ H3 (fun o H4 => o = some (-1) ∧ H4 = H3) I3 ⟨1, rfl, -1, rfl, rfl, rfl⟩) fun vs s4 ⟨o, H4, I4, ps, eo, e4⟩ => ?_
  subst eo e4
  have I5 : Inv X pins σ H4 { s4 with heap := s4.heap.push { cls := .type "slice", data := .fields #[vl, vu, vs] } } := I4.kept (t' := s4.toks) fun b ob q => Heap.get?_push_of_some _ q
  have hsl := Heap.IsSliceOf.new s4.heap vl vu vs
  show wpAny (model X.prog X.w) X.A (subscriptTail e (.Slice none none (some (.UnaryOp .USub (.Constant (.int 1) k p1) p2)) p3) v (.ref s4.heap.objs.size)) (EP X pins σ Q) X.xe { s4 with heap := s4.heap.push { cls := .type "slice", data := .fields #[vl, vu, vs] } }
  cases a with
  | tup xs =>
    obtain ⟨p, vs', rfl, hx, hr⟩ := ra.tup_at
    cases r1
    obtain ⟨its, r, ht, hz⟩ := I5.tuple hx
    refine tail_any (ops := [.ref p, .ref s4.heap.objs.size]) ht.typeIs (PyProof.Rows.slot_tuple_getitem.lookup) ?_ (by with_unfolding_all rfl)
    have hlen : its.toArray.size = vs'.length := by rw [List.size_toArray]; exact r.length.symm
    refine item_rev_tup ht hsl pl pu ps ?_ (by rw [hlen]; exact hz)
    have I6 := I5.laid (a := (s4.heap.push { cls := .type "slice", data := .fields #[vl, vu, vs] }).objs.size) (o := .tup vs'.reverse) (t' := s4.toks) (h' := (s4.heap.push { cls := .type "slice", data := .fields #[vl, vu, vs] }).push { cls := .type "tuple", data := .seq its.toArray.toList.reverse.toArray }) (fun b ob q => Heap.get?_push_of_some _ q) (Nat.le_refl _)
      ⟨by rw [List.length_reverse]; exact hz, _, by simpa using r.reverse, IsTup.new _ _⟩
    exact ⟨.ref _, _, I6, rfl, fin_tup (show PstO X.K X.mg T (rl X.K X.mg) H4 μ1 S1.n Q (some (.tup xs.reverse, S1)) from h1) sr1 hr.reverse _ (I5.hok.fresh (Nat.le_refl _))⟩
  | ref n =>
    cases e9 : getR S1 n with
    | none => unfold bRev at h1; simp only [e9] at h1; exact h1.elim
    | some xs =>
      unfold bRev at h1; simp only [e9] at h1
      obtain ⟨vs', rfl, hx, hr⟩ := ra.read_at sr1 e9
      cases r1
      obtain ⟨its, r, ht, hz⟩ := I5.list hx
      refine tail_any (ops := [.ref (μ1 n), .ref s4.heap.objs.size]) ht.isList.typeIs (PySem.slot_list_getitem.lookup) ?_ (by with_unfolding_all rfl)
      have hlen : its.toArray.size = vs'.length := by rw [List.size_toArray]; exact r.length.symm
      refine wpAny_getItem_list_slice ht.isList hsl pl pu ps (by decide) ?_ (by rw [hlen]; exact hz)
      rw [PySem.W.krv_pick]
      have I6 := I5.laid (a := (s4.heap.push { cls := .type "slice", data := .fields #[vl, vu, vs] }).objs.size) (o := .lst vs'.reverse) (t' := s4.toks) (h' := (s4.heap.push { cls := .type "slice", data := .fields #[vl, vu, vs] }).push { cls := .type "list", data := .seq its.toArray.toList.reverse.toArray }) (fun b ob q => Heap.get?_push_of_some _ q) (Nat.le_refl _)
        ⟨by rw [List.length_reverse]; exact hz, _, 0, by simpa using r.reverse, Heap.get?_push_size _ rfl⟩
      exact ⟨.ref _, _, I6, rfl, fin_lst h1 sr1 hr.reverse _ (I5.hok.fresh (Nat.le_refl _))⟩
  | str z =>
    cases ra
    obtain ⟨t, rfl⟩ := r1
    have h1 : PstO X.K X.mg T (rl X.K X.mg) H4 μ1 S1.n Q (if z.length ≤ sizeLine then some (.str (revS z), S1) else none) := h1
    by_cases hz : z.length ≤ sizeLine
    · rw [if_pos hz] at h1
      obtain ⟨os, hos, hcs, hds⟩ := hsl
      obtain ⟨l, rfl, el⟩ := IsPart.raw pl
      obtain ⟨u, rfl, eu⟩ := IsPart.raw pu
      obtain ⟨q, rfl, eq⟩ := IsPart.raw ps
      refine tail_any (ops := [.str z t, .ref s4.heap.objs.size]) (typeIs_str _ _ _) (PySem.F.slot_str_getitem.lookup) ?_ (by with_unfolding_all rfl)
      refine wpAny_getItem_str_slice (l := l) (u := u) (st := q) ⟨os, hos, hcs, hds⟩ (by rw [eq]; rfl) ?_
      have e3 : slicePicked z l u q = (List.range z.length).map fun k => z.length - 1 - k := by
        unfold slicePicked
        rw [el, eu, eq]
        exact PySem.W.krv_sliceRange z.length
      unfold sliceMade
      rw [eq, e3]
      have hno : ¬ (((some (-1 : Int)).getD 1 == 1 && ((List.range z.length).map fun k => z.length - 1 - k).length == z.length) = true) := by
        intro q
        rw [Bool.and_eq_true] at q
        exact absurd q.1 (by decide)
      rw [if_neg hno]
      refine ⟨?_, .str (revS z), H4, I5.tok _, ⟨_, rfl⟩, PstO.here h1 sr1 (.str _)⟩
      have hl : (revS z).length ≤ z.length := by
        unfold revS
        show ((((List.range z.length).map fun k => z.length - 1 - k).filterMap (z.cps[·]?)).toArray).size ≤ _
        rw [List.size_toArray]
        refine Nat.le_trans (List.length_filterMap_le _ _) ?_
        rw [List.length_map, List.length_range]; exact Nat.le_refl _
      exact Nat.le_trans hl hz
    · rw [if_neg hz] at h1; exact h1.elim
  | _ => exact h1.elim
end

section
variable {X : Cx} {T : Tb}
theorem ms_upper : MtS X T "str.upper" mtUpper := by
  intro pins s σ H x xs v us Q I rx rs h
  obtain ⟨μ, S, o, as, sr, ro, ra, h⟩ := h
  cases o with
  | str z =>
    cases ra with
    | cons _ _ => exact h.elim
    | nil =>
      cases ro
      have h : PstO X.K X.mg T (rl X.K X.mg) H μ S.n Q (if z.length ≤ 5592405 then some (.str (Txt.upper z), S) else none) := h
      by_cases hz : z.length ≤ 5592405
      · rw [if_pos hz] at h
        exact mt_upper pins s σ H _ _ v us Q I rx rs ⟨z, rfl, rfl, hz, PstO.here h sr (.str _)⟩
      · rw [if_neg hz] at h; exact h.elim
  | _ => exact h.elim
end
end Q

set_option linter.all false
set_option maxRecDepth 100000
set_option maxHeartbeats 800000
namespace Q
open PySem PySem.Spec PyProof.Rows L2

/-! ### what the printed derivations use besides -/
theorem FCx.u1002 {X : Cx} {W : WX} {k : Nat} {g : Bool} (c : FCx g X W k) : X.A.units + 192 < cLine := by have := c.hr.un; omega
theorem FCx.calm_ {X : Cx} {W : WX} {k : Nat} {g : Bool} (c : FCx g X W k) : X.calm = true := c.calm
theorem FCx.nd_ {X : Cx} {W : WX} {k : Nat} {g : Bool} (c : FCx g X W k) : X.N.Nodup := c.nd
def mNeg (f : En → M Vl) : En → M Vl := fun ρ => bnd (f ρ) fun v => match v with
  | .int i => ret (.int (-i))
  | _ => fail
section
variable {X : Cx} {T : Tb} {W : WX} {pos : Pos}
theorem se_gl2 {x : Str} (hg : Gl X x) (hm : ∃ a, X.mg x = some (.ref a)) (hd : (x == ("__debug__" : Str)) = false := by decide) : SE X T W (.Name x pos) (mC (.gl x)) := by
  obtain ⟨a, hm⟩ := hm
  exact se_gl hg hm hd
theorem se_neg {a : Expr} {f : En → M Vl} (ha : SE X T W a f) : SE X T W (.UnaryOp .USub a pos) (mNeg f) := by
  refine PE.imp (pe_un un_neg ha) fun σ H Q h => ?_
  obtain ⟨ρ, μ, S, sr, er, h⟩ := h
  refine ⟨ρ, μ, S, sr, er, Pst.bnd_ h fun v S1 H1 μ1 x e1 sr1 rx h1 => ?_⟩
  cases v with
  | int i => cases rx; exact ⟨i, rfl, Pst.here h1 sr1 (.int _)⟩
  | _ => exact h1.elim
end
/-- the name of the lambdas of a def x -/
def lamQ (x : Str) : Str := (envOfC x default 0 0 .none).qual ++ "<lambda>"
structure MkOf (base : Heap) (mg : Str → Option Value) (T : Tb) (x : Str) (cdv : Value) : Prop where
  ex : ∃ c P : Addr, cdv = .ref c ∧ LamX.TabB base mg c P ∧ (P, lamQ x) ∈ T ∧ ∀ p ∈ T, p.1 = P → p.2 = lamQ x
theorem MkOf.of {P : Program} {w : World} {K : PySem.W.Frag} {mg : Str → Option Value} {T : Tb} {base : Heap} {x : Str} {cdv : Value} (m : MkOf base mg T x cdv) {N : List Str} {st : Stmt} {f : Addr} (A : Around) (outer : List Env) (s : Shared) (H : Hp) (E : XK) :
    Maker (fX P w K mg base N x st f cdv A outer s H E) T := by
  obtain ⟨c, p, rfl, h1, h2, h3⟩ := m.ex
  exact ⟨c, p, h1, rfl, h2, h3⟩
end Q

set_option linter.all false
set_option maxRecDepth 100000
set_option maxHeartbeats 2000000
namespace Q
open PySem PySem.Spec PyProof.Rows L2

/-! ### the law is called: what is tracked then -/
/-- the script, where it is no part of K, and the empty tables -/
noncomputable def trk0 (tb : List Addr) (K : PySem.W.Frag) (a : Addr) (ob : Obj) (ns : List Int) : Hp := fun b =>
  open Classical in if b ∈ tb then some (.tbl #[]) else if b = a ∧ K.lookup a = none then some (.frz ob (.lst (ns.map V.int))) else none
section
variable {tb : List Addr} {K : PySem.W.Frag} {a : Addr} {ob : Obj} {ns : List Int}
theorem trk0_tab {b : Addr} (h : b ∈ tb) : trk0 tb K a ob ns b = some (.tbl #[]) := by unfold trk0; rw [if_pos h]
theorem trk0_scr (h : a ∉ tb) (hk : K.lookup a = none) : trk0 tb K a ob ns a = some (.frz ob (.lst (ns.map V.int))) := by unfold trk0; rw [if_neg h, if_pos ⟨rfl, hk⟩]
theorem trk0_else {b : Addr} (h : b ∉ tb) (h2 : ¬ (b = a ∧ K.lookup a = none)) : trk0 tb K a ob ns b = none := by unfold trk0; rw [if_neg h, if_neg h2]
theorem trk0_inv {b : Addr} {u : HO} (e : trk0 tb K a ob ns b = some u) : (b ∈ tb ∧ u = .tbl #[]) ∨ (b ∉ tb ∧ b = a ∧ K.lookup a = none ∧ u = .frz ob (.lst (ns.map V.int))) := by
  by_cases h : b ∈ tb
  · rw [trk0_tab h] at e; exact .inl ⟨h, (Option.some.inj e).symm⟩
  · by_cases h2 : b = a ∧ K.lookup a = none
    · obtain ⟨rfl, h3⟩ := h2
      rw [trk0_scr h h3] at e
      exact .inr ⟨h, rfl, h3, (Option.some.inj e).symm⟩
    · rw [trk0_else h h2] at e; cases e
end
/-- a list that is only read -/
abbrev RoV (K : PySem.W.Frag) (H : Hp) (a : Addr) (vs : List V) : Prop := (∃ o, H a = some (.frz o (.lst vs))) ∨ (∃ (o : Obj) (its : Array Value) (n : Nat), K.lookup a = some o ∧ o.cls = .type "list" ∧ o.dict = none ∧ o.data = .seq its n ∧ its.size ≤ sizeLine ∧ Vals vs its.toList)
/-- the law's call, where no text of a container is under way -/
theorem law_g {P : Program} {w : World} {K : PySem.W.Frag} {mg mb : Str → Option Value} {k : Nat} {fa a : Addr} {cs : List (Addr × Addr)} {fd : FuncData} {x : Str} {sp : Sp} {s₁ : Shared} {vs : List Value} {ns : List Int}
    (KX : K.In s₁.heap) (hns : s₁.heap.Ns mainGlobals mg) (hb : s₁.heap.Ns builtinsNs mb) (hbb : ∀ x : Str, x ≠ "__name__" → mb x = bootBuiltins x) (hlim : s₁.heap.NoLimit) (hg : s₁.gens = #[])
    (hT : ∀ p ∈ cs, s₁.heap.get? p.2 = some { cls := .none, data := .fields #[] }) (nT : ∀ p ∈ cs, K.lookup p.2 = none) (C : ∀ p ∈ cs, PySem.W.CodeHd s₁.heap p.1 p.2)
    (hbm : ∃ (bm : Addr) (ob : Obj), mg "__builtins__" = some (.ref bm) ∧ bm ≠ builtinsNs ∧ s₁.heap.get? bm = some ob ∧ ob.cls = .type "module" ∧ ob.dict = some builtinsNs ∧ ob.data = .plain)
    (ha : s₁.heap.get? a = some { cls := .type "list", data := .seq vs.toArray }) (hi : IntsAre vs ns) (hl : ns.length ≤ sizeLine) (hr : Room k callerA)
    (F : ∀ base : Heap, K.In base → base.Ns mainGlobals mg → (∀ p ∈ cs, LamX.TabB base mg p.1 p.2) → FnQ true P w K mg base k fa fd [x] sp) (hbind : ∀ (s : Shared) (u : Value), BindsTo s fd ⟨[u], []⟩ [(x, u)])
    (hsp : ∀ H : Hp, (∀ p ∈ cs, H p.2 = some (.tbl #[])) → RoV K H a (ns.map V.int) → sp [.ref a] H (fun v _ => v = .bl true) fun _ _ _ => False) :
    codeAny (model P w) callerA (.call (.ref fa) ⟨[.ref a], []⟩) (fun r s' => r = .ok (.ret (.bool true)) ∧ OldK s₁.heap s'.heap ∧ s'.os = s₁.os ∧ AllBare s'.gens) s₁ := by
  let ob : Obj := { cls := .type "list", data := .seq vs.toArray }
  let tb : List Addr := cs.map (·.2)
  let H : Hp := trk0 tb K a ob ns
  have rv := vals_ints hi
  have lenV := hi.length
  have tabAt : ∀ b ∈ tb, s₁.heap.get? b = some { cls := .none, data := .fields #[] } := fun b hb => by
    obtain ⟨p, hp, rfl⟩ := List.mem_map.mp hb
    exact hT p hp
  have aOut : a ∉ tb := fun z => by
    have q := tabAt a z
    rw [ha] at q
    exact nomatch (congrArg Obj.data (Option.some.inj q) : Data.seq vs.toArray _ = Data.fields #[])
  -- an object that is neither a list nor an empty table is not tracked
  have free_ : ∀ {b : Addr} {o : Obj}, s₁.heap.get? b = some o → (∀ z n, o.data ≠ .seq z n) → o.data ≠ .fields #[] → H b = none := fun {b o} e h1 h2 => by
    refine trk0_else (fun z => ?_) fun z => ?_
    · have q := tabAt b z
      rw [e] at q; cases q; exact h2 rfl
    · have q := ha
      rw [← z.1, e] at q; cases q; exact h1 _ _ rfl
  have dict_ : ∀ {b : Addr} {o : Obj} {es : Array DictEntry} {ep : Nat}, s₁.heap.get? b = some o → o.data = .dict es ep → H b = none := fun e d => free_ e (fun z n q => by rw [d] at q; cases q) fun q => by rw [d] at q; cases q
  have ns_ : ∀ {b : Addr} {m : Str → Option Value}, s₁.heap.Ns b m → (hidT s₁.heap H).Ns b m := fun {b m} ⟨o, es, ep, e, d, r⟩ => ⟨o, es, ep, hidT_get e (dict_ e d), d, r⟩
  have kin : K.In (hidT s₁.heap H) := fun b o e => hidT_get (KX b o e) (trk0_else (fun z => by
      obtain ⟨p, hp, rfl⟩ := List.mem_map.mp z
      rw [nT p hp] at e; cases e) fun z => by
      rw [z.1, z.2] at e; cases e)
  have md : L2.Mod K mg (hidT s₁.heap H) := ⟨kin, ns_ hns, ⟨mb, ns_ hb, hbb⟩, let ⟨mc, h1, h2⟩ := hlim; ⟨mc, ns_ h1, h2⟩⟩
  have tabB : ∀ p ∈ cs, LamX.TabB (hidT s₁.heap H) mg p.1 p.2 := fun p hp => by
    refine ⟨?_, ?_, fun z => ?_⟩
    · obtain ⟨o, us, f, tf, fl, tg, inF, tx, tt, e1, r1, r2, r3, rest⟩ := C p hp
      refine ⟨o, us, f, tf, fl, tg, inF, tx, tt, hidT_get e1 (free_ e1 (fun z n q => ?_) fun q => ?_), r1, r2, r3, rest⟩
      · rw [r2] at q; cases q
      · rw [r2] at q; cases q; simp at r3
    · obtain ⟨bm, o, b1, b2, b3, b4, b5, b6⟩ := hbm
      refine ⟨bm, o, b1, b2, fun q => ?_, fun q => ?_, hidT_get b3 (free_ b3 (fun z n q => ?_) fun q => ?_), b4, b5, b6⟩
      · obtain ⟨o2, es, ep, e, hd, _⟩ := hns
        rw [q, e] at b3; cases b3
        rw [hd] at b6; cases b6
      · rw [q, hT p hp] at b3; cases b3; cases b6
      · rw [b6] at q; cases q
      · rw [b6] at q; cases q
    · obtain ⟨o2, es, ep, e, hd, _⟩ := hns
      rw [z, hT p hp] at e; cases e; cases hd
  have hok : HOk P w H s₁.heap := fun b u e => by
    rcases trk0_inv e with ⟨h1, rfl⟩ | ⟨_, rfl, _, rfl⟩
    · exact tabAt b h1
    · exact ⟨ha, by rw [List.length_map]; exact hl, vs, _, rv, ha⟩
  have sq : RoV K H a (ns.map V.int) := by
    cases hk : K.lookup a with
    | none => exact .inl ⟨ob, trk0_scr aOut hk⟩
    | some o =>
      have e := KX a o hk
      rw [ha] at e; cases e
      exact .inr ⟨_, vs.toArray, _, hk, rfl, rfl, rfl, by rw [List.size_toArray, lenV]; exact hl, by simpa using rv⟩
  have tabs : ∀ p ∈ cs, H p.2 = some (.tbl #[]) := fun p hp => trk0_tab (List.mem_map.mpr ⟨p, hp, rfl⟩)
  have e0 : Env0 P w K mg (hidT s₁.heap H) callerA [] s₁ H := ⟨rfl, md, fun b o e => of_hidT e, Nat.le_of_eq (hidT_size _ _), trivial, fun b hb => absurd (show b ∈ ([] : List Addr) from hb) (by simp), hok, .of_eq hg⟩
  refine codeAny_mono ((F _ kin (ns_ hns) tabB).run callerA [] s₁ H ⟨[.ref a], []⟩ [.ref a] [.ref a] _ _ hr (fun _ => rfl) e0 (hbind s₁ (.ref a)) (.cons rfl .nil) (hsp H tabs sq)) fun r s' h => ?_
  match r, h with
  | .error e, h =>
    exact (CX_false h).elim
  | .ok .next, h => exact False.elim h
  | .ok .brk, h => exact False.elim h
  | .ok .cont, h => exact False.elim h
  | .ok (.ret u), h =>
    obtain ⟨v, H', os, bare, un, hok', ru, qv⟩ := h
    obtain rfl : v = .bl true := qv
    obtain rfl : u = Value.bool true := ru
    have stays : ∀ b o, b ∉ tb → s₁.heap.get? b = some o → s'.heap.get? b = some o := fun b o nb e => by
      cases q : H b with
      | none => exact un.keep b o e q (fun z => absurd (show b ∈ ([] : List Addr) from z) (by simp)) (by simp)
      | some u =>
        rcases trk0_inv q with ⟨h1, _⟩ | ⟨_, rfl, _, rfl⟩
        · exact absurd h1 nb
        · obtain ⟨e2, _⟩ := hok' b _ (un.frzs b ob _ q)
          rw [ha] at e; cases e
          exact e2
    have grown : ∀ p ∈ cs, ∃ more : Array Value, s'.heap.get? p.2 = some { cls := .none, data := .fields more } := fun p hp => by
      obtain ⟨more, z⟩ := un.tbls p.2 #[] (tabs p hp)
      exact ⟨_, hok' p.2 _ z⟩
    refine ⟨rfl, ⟨fun b o e => ?_, fun b o e => ?_⟩, os, bare⟩
    · by_cases hm : b ∈ tb
      · obtain ⟨p, hp, rfl⟩ := List.mem_map.mp hm
        obtain ⟨more, hm⟩ := grown p hp
        rw [hT p hp] at e; cases e
        exact .inr (.inl ⟨((C p hp).tab (hT p hp)).isCodeTable, rfl, #[], more, rfl, by rw [Array.empty_append]; exact hm⟩)
      · exact .inl (stays b o hm e)
    · by_cases hm : b ∈ tb
      · obtain ⟨p, hp, rfl⟩ := List.mem_map.mp hm
        obtain ⟨more, hm⟩ := grown p hp
        exact ⟨_, hm⟩
      · exact ⟨o, stays b o hm e⟩
where
  CX_false {P : Program} {w : World} {H : Hp} {s s' : Shared} {Q : VK} {e : Value} (h : CR (L2.CX P w) [] P w H s Q (fun _ _ _ => False) (.error e) s') : False := by
    obtain ⟨_, _, _, _, _, _, _, _, _, _, _, _, z⟩ := h
    exact z
/-! ### the law's row -/
def LawG (l : PySem.W.OpenLaw) (w : World) (K : PySem.W.Frag) (k n : Nat) (x : Str) (mg : Str → Option Value) (fa : Addr) (h : Heap) : Prop :=
  ∃ (fd : FuncData) (cs : List (Addr × Addr)) (sp : Sp), (∀ p ∈ cs, h.get? p.2 = some { cls := .none, data := .fields #[] }) ∧ (∀ p ∈ cs, K.lookup p.2 = none) ∧ (∀ p ∈ cs, PySem.W.CodeHd h p.1 p.2) ∧ (∀ (s : Shared) (u : Value), BindsTo s fd ⟨[u], []⟩ [(x, u)]) ∧
    (∀ (H : Hp) (a : Addr) (ns : List Int), ns.length ≤ n → (∀ z ∈ ns, Builtin.Int.intBits z ≤ 1048576) → (∀ p ∈ cs, H p.2 = some (.tbl #[])) → RoV K H a (ns.map V.int) → sp [.ref a] H (fun v _ => v = .bl true) fun _ _ _ => False) ∧
    ∀ base : Heap, K.In base → base.Ns mainGlobals mg → (∀ p ∈ cs, LamX.TabB base mg p.1 p.2) → FnQ true l.prog w K mg base k fa fd [x] sp
theorem walk_g {l : PySem.W.OpenLaw} {n k : Nat} {q : Program} {loose : List Str} {XP : (Str → Option Value) → Heap → Prop} {YP : World → Heap → Prop} {d : DefRec} {x : Str}
    (hn : l.most = some n) (hn2 : n ≤ sizeLine) (hdf : d.params.defaults = []) (hr : Room k callerA)
    (F : ∀ (w : World) (mg : Str → Option Value) (fa : Addr) (h : Heap), YP w h → h.Ns mainGlobals mg → mg d.name = some (.ref fa) → ∃ K : PySem.W.Frag, K.In h ∧ LawG l w K k n x mg fa h) :
    PySem.W.WalkO q loose XP YP l.row.toRowW d [] (fun f vs => PySem.call f vs) := by
  refine Att.attach_callB hn hdf fun w s₀ s₁ mg mb fa o pm cd doc a vs ns G Y ho hd hcd hmg hobj hints hlen hbits hg => ?_
  obtain ⟨K, KX, fd, cs, sp, hT, nT, C, hb, hsp, hF⟩ := F w mg fa _ Y G.T.g hmg
  exact law_g KX G.T.g G.T.b G.T.builtins G.T.nolimit hg hT nT C G.T.bmain hobj hints (Nat.le_trans hlen hn2) hr hF hb fun H hH hS => hsp H a ns hlen hbits hH hS
/-! ### facts of the top -/
mutual
def cstB (K : PySem.W.Frag) : Vl → Value → Bool
  | .non, .none => true
  | .bl b, .bool c => b == c
  | .int i, .int j _ => decide (i = j)
  | .str x, .str y _ => decide (x = y)
  | .tup xs, .ref a => (match K.lookup a with
    | some ⟨.type c, _, .seq its _, _⟩ => decide (c = "tuple") && (decide (its.size ≤ sizeLine) && cstBs K xs its.toList)
    | _ => false)
  | _, _ => false
def cstBs (K : PySem.W.Frag) : List Vl → List Value → Bool
  | [], [] => true
  | v :: vs, u :: us => cstB K v u && cstBs K vs us
  | _, _ => false
end
mutual
theorem cstB_ok {K : PySem.W.Frag} {mg : Str → Option Value} : ∀ {v : Vl} {u : Value}, cstB K v u = true → ∃ y, RelV y u ∧ ∀ H μ N, Rp K mg H μ N v y
  | .non, .none, _ => ⟨.non, rfl, fun _ _ _ => .non⟩
  | .bl b, .bool c, h => by
    have e : b = c := by simpa [cstB] using h
    subst e; exact ⟨.bl b, rfl, fun _ _ _ => .bl b⟩
  | .int i, .int j t, h => by
    have e : i = j := by simpa [cstB] using h
    subst e; exact ⟨.int i, ⟨t, rfl⟩, fun _ _ _ => .int i⟩
  | .str i, .str j t, h => by
    have e : i = j := by simpa [cstB] using h
    subst e; exact ⟨.str i, ⟨t, rfl⟩, fun _ _ _ => .str i⟩
  | .tup xs, .ref a, h => by
    unfold cstB at h
    cases q : K.lookup a with
    | none => rw [q] at h; cases h
    | some o =>
      obtain ⟨oc, od, dt, osl⟩ := o
      rw [q] at h
      cases oc with
      | type c =>
        cases dt with
        | seq its n =>
          have h : (decide (c = "tuple") && (decide (its.size ≤ sizeLine) && cstBs K xs its.toList)) = true := h
          simp only [Bool.and_eq_true, decide_eq_true_eq] at h
          obtain ⟨h1, h2, h3⟩ := h
          obtain ⟨ys, r, rp⟩ := cstBs_ok h3
          exact ⟨.ref a, rfl, fun H μ N => .tup (.inr ⟨_, its, n, q, congrArg Value.type h1, rfl, h2, r⟩) (rp H μ N)⟩
        | _ => cases h
      | _ => cases dt <;> cases h
  | .non, .bool _, h | .non, .int _ _, h | .non, .str _ _, h | .non, .ref _, h => by cases h
theorem cstBs_ok {K : PySem.W.Frag} {mg : Str → Option Value} : ∀ {v : List Vl} {u : List Value}, cstBs K v u = true → ∃ y, Vals y u ∧ ∀ H μ N, RpAll K mg H μ N v y
  | [], [], _ => ⟨[], .nil, fun _ _ _ => .nil⟩
  | v :: vs, u :: us, h => by
    have h : (cstB K v u && cstBs K vs us) = true := h
    rw [Bool.and_eq_true] at h
    obtain ⟨y, r1, p1⟩ := cstB_ok h.1
    obtain ⟨ys, r2, p2⟩ := cstBs_ok h.2
    exact ⟨y :: ys, .cons r1 r2, fun H μ N => .cons (p1 H μ N) (p2 H μ N)⟩
  | [], _ :: _, h => by cases h
  | _ :: _, [], h => by cases h
end
end Q

set_option linter.all false
set_option maxRecDepth 100000
set_option maxHeartbeats 1000000
namespace Q
open PySem PySem.Spec PyProof.Rows L2

/-! ### classes and constants, looked at -/
def bb {a b : Bool} (h : (a && b) = true) : a = true ∧ b = true := Bool.and_eq_true_iff.mp h
def excCB (K : PySem.W.Frag) (D : Addr) : Bool :=
  He.eqO (PySem.W.findIn K (.ref D) "__getattribute__") (some (some (.builtin "BaseException.__getattribute__"))) && (He.eqO (PySem.W.findIn K (.ref D) "__getattr__") (some none) && (decide (PySem.W.subIn K (.ref D) (.type "BaseException") = some true) && (PySem.W.hasDictIn K D &&
  (He.eqO (PySem.W.findIn K (.ref D) "__class__") (some (some (.builtin "object.__class__"))) && (He.eqO (PySem.W.specialIn K (.builtin "object.__class__") "__get__") (some (some (.builtin "getset_descriptor.__get__"))) && (decide (PySem.W.takesIn K (.builtin "object.__class__") = some true) && decide (PySem.W.mroIn K D (.type "object") = some true)))))))
theorem excCB_ok {K : PySem.W.Frag} {D : Addr} (h : excCB K D = true) : ExcC K D := by
  obtain ⟨h1, h⟩ := bb h
  obtain ⟨h2, h⟩ := bb h
  obtain ⟨h3, h⟩ := bb h
  obtain ⟨h4, h⟩ := bb h
  obtain ⟨h5, h⟩ := bb h
  obtain ⟨h6, h⟩ := bb h
  obtain ⟨h7, h8⟩ := bb h
  exact ⟨He.eqO_ok h1, He.eqO_ok h2, of_decide_eq_true h3, h4, He.eqO_ok h5, He.eqO_ok h6, of_decide_eq_true h7, of_decide_eq_true h8⟩
def exsB (K : PySem.W.Frag) (sub : List (Str × Str)) (ok : List Str) : Bool :=
  (ok.all fun c => excCB K (He.ga K c)) && ((ok.all fun c => ok.all fun d => decide (PySem.W.kitOne K (.ref (He.ga K c)) (.ref (He.ga K d)) = some (decide ((c, d) ∈ sub)))) && (ok.all fun d => tyNs.all fun a => decide (PySem.W.kitOne K (.type a) (.ref (He.ga K d)) = some false)))
def glosB (K : PySem.W.Frag) (xs : List Str) : Bool := xs.all fun x => (He.Fa.glo x).ok K
def freesB (K : PySem.W.Frag) (xs : List Str) : Bool := xs.all fun x => (He.Fa.free x).ok K
section
variable {K : PySem.W.Frag} {h : Heap} {mg : Str → Option Value}
theorem glo_at (X : K.In h) (G : h.Ns mainGlobals mg) {xs : List Str} (c : glosB K xs = true) {x : Str} (hx : x ∈ xs) : mg x = some (.ref (He.ga K x)) := He.glo_ok X G (List.all_eq_true.mp c x hx)
theorem free_at (X : K.In h) (G : h.Ns mainGlobals mg) {xs : List Str} (c : freesB K xs = true) {x : Str} (hx : x ∈ xs) : mg x = none := He.free_ok X G (List.all_eq_true.mp c x hx)
theorem exs_of (X : K.In h) (G : h.Ns mainGlobals mg) {sub : List (Str × Str)} {ok xs : List Str} (hg : glosB K xs = true) (hs : ∀ x ∈ ok, x ∈ xs) (c : exsB K sub ok = true) : ExcCs K mg sub ok := by
  obtain ⟨c1, c⟩ := bb c
  obtain ⟨c2, c3⟩ := bb c
  have at_ : ∀ c ∈ ok, ∀ C, mg c = some (.ref C) → C = He.ga K c := fun c hc C e => by
    rw [glo_at X G hg (hs c hc)] at e
    exact (Value.ref.inj (Option.some.inj e)).symm
  refine ⟨fun c hc C e => ?_, fun c hc d hd C D e e2 => ?_, fun d hd D e a ha => ?_⟩
  · rw [at_ c hc C e]; exact excCB_ok (List.all_eq_true.mp c1 c hc)
  · rw [at_ c hc C e, at_ d hd D e2]; exact of_decide_eq_true (List.all_eq_true.mp (List.all_eq_true.mp c2 c hc) d hd)
  · rw [at_ d hd D e]; exact of_decide_eq_true (List.all_eq_true.mp (List.all_eq_true.mp c3 d hd) a ha)
theorem excS_of (X : K.In h) (G : h.Ns mainGlobals mg) {xs : List Str} (hg : glosB K xs = true) {c : Str} (hc : c ∈ xs) (e : (He.Fa.exc c).ok K = true) : ExcS K mg c [.type "ValueError", .type "Exception", .type "BaseException", .type "object"] "ValueError.__new__" := by
  obtain ⟨h1, h2, h3, h4⟩ := He.exc_ok e
  exact ⟨_, glo_at X G hg hc, h1, h2, h3, h4⟩
def csB (K : PySem.W.Frag) (x : Str) (v : Vl) : Bool := match PySem.W.nsIn K mainGlobals x with
  | some (some u) => cstB K v u
  | _ => false
theorem cst_of (X : K.In h) (G : h.Ns mainGlobals mg) {x : Str} {v : Vl} (c : csB K x v = true) : Cst K mg x v := by
  unfold csB at c
  cases e : PySem.W.nsIn K mainGlobals x with
  | none => rw [e] at c; cases c
  | some o =>
    rw [e] at c
    cases o with
    | none => cases c
    | some u =>
      obtain ⟨y, r, rp⟩ := cstB_ok (mg := mg) c
      exact ⟨u, y, PySem.W.mg_of X G e, r, rp⟩
/-! ### a def, out of the head's facts -/
/-- a def without defaults, as the head tells it -/
def dOf (x : Str) (st : Stmt) : He.DefD := ⟨(x, none), x, x, defArgs st, defBody st, defScope st, [], []⟩
structure FDx (K : PySem.W.Frag) (x : Str) (st : Stmt) (fd : FuncData) (cdv : Value) : Prop where
  ex : ∃ (oc : Value) (od : Option Addr) (kV doc pm : Value) (an : Option Addr) (ct : Value) (osl : Array (Option Value)),
    fd = PySem.W.fnOf x x (defArgs st) (defBody st) (defScope st) .none kV doc pm an cdv ct ∧ K.lookup (He.ga K x) = some ⟨oc, od, .func fd, osl⟩ ∧ PySem.W.codeIn K cdv x = true
  kp : PySem.W.keepIn K (.ref (He.ga K x)) = true
  code : ∃ c, cdv = .ref c ∧ He.codeOf K (x, none) = c
theorem FDx.tx {x : Str} {st : Stmt} {fd : FuncData} {cdv : Value} (F : FDx K x st fd cdv) : FD K x st (He.ga K x) fd cdv := by
  obtain ⟨oc, od, kV, doc, pm, an, ct, osl, e, lk, hcd⟩ := F.ex
  exact ⟨⟨oc, od, _, kV, doc, pm, an, ct, osl, e, lk, hcd⟩, F.kp⟩
theorem fdx_of {fa : List He.Fa} {fn : List He.DefD} (c : He.SaysD fa fn K) {x : Str} {st : Stmt} (hx : dOf x st ∈ fn) : ∃ fd cdv, FDx K x st fd cdv := by
  obtain ⟨fd, F⟩ := c.defs hx
  obtain ⟨oc, od, dV, kV, doc, pm, an, cdv, ct, osl, rfl, lk, hcd, hD, hK⟩ := F.ex
  obtain ⟨cc, rfl⟩ := He.codeIn_ref hcd
  have hD : dV = .none := by
    rcases hD with ⟨_, e⟩ | ⟨e, _⟩
    · exact e
    · exact absurd rfl e
  subst hD
  exact ⟨_, _, ⟨_, _, _, _, _, _, _, _, rfl, lk, hcd⟩, F.kp, cc, rfl, He.codeOf_eq (p := (x, none)) lk rfl⟩
end
section
variable {P : Program} {w : World} {K : PySem.W.Frag} {mg : Str → Option Value} {T : Tb} {base : Heap}
theorem FDx.cal {g : Bool} {x : Str} {st : Stmt} {fd : FuncData} {cdv : Value} {ps : List Str} {k : Nat} {h : List Vl → M Vl} (F : FDx K x st fd cdv) (hm : mg x = some (.ref (He.ga K x)))
    (hb : ∀ (kV doc pm : Value) (an : Option Addr) (ct : Value) (us : List Value), us.length = ps.length → bindArgs (PySem.W.fnOf x x (defArgs st) (defBody st) (defScope st) .none kV doc pm an cdv ct) ⟨us, []⟩ = pure (ps.zip us))
    (ok : FnQ g P w K mg base k (He.ga K x) fd ps (spF K mg T ps.length h)) (hl : ∀ as S, as.length ≠ ps.length → h as S = none) : CalS g P w K mg T base k x [] h := by
  obtain ⟨oc, od, kV, doc, pm, an, ct, osl, rfl, lk, hcd⟩ := F.ex
  exact cal_of F.kp hm (.all (hb kV doc pm an ct)) ok hl
theorem FDx.calK {g : Bool} {x : Str} {st : Stmt} {fd : FuncData} {cdv : Value} {ps ks : List Str} {perm : List Nat} {k : Nat} {h : List Vl → M Vl} (F : FDx K x st fd cdv) (hm : mg x = some (.ref (He.ga K x)))
    (hb : ∀ (kV doc pm : Value) (an : Option Addr) (ct : Value) (ws : List Value), (reord perm ws).length = ps.length → bindArgs (PySem.W.fnOf x x (defArgs st) (defBody st) (defScope st) .none kV doc pm an cdv ct) ⟨[], ks.zip ws⟩ = pure (ps.zip (reord perm ws)))
    (ok : FnQ g P w K mg base k (He.ga K x) fd ps (spF K mg T ps.length h)) (hl : ∀ as S, as.length ≠ ps.length → h as S = none) : CalK g P w K mg T base k x ks perm h := by
  obtain ⟨oc, od, kV, doc, pm, an, ct, osl, rfl, lk, hcd⟩ := F.ex
  exact calK_of F.kp hm (hb kV doc pm an ct) ok hl
end
/-- what catches -/
def exmB (K : PySem.W.Frag) (cs : List Str) (y : Str) : Bool := cs.all fun c => decide (PySem.W.exmOne K (.ref (He.ga K c)) (.ref (He.ga K y)) = some true)
theorem caught_of {K : PySem.W.Frag} {h : Heap} {mg : Str → Option Value} (X : K.In h) (G : h.Ns mainGlobals mg) {xs cs : List Str} (hg : glosB K xs = true) {x a r e y : Str} {st : Stmt} {fd : FuncData} {cdv : Value} (F : FDx K x st fd cdv) (hx : x ∈ xs) (hy : y ∈ xs) (hcs : ∀ c ∈ cs, c ∈ xs) (he : exmB K cs y = true)
    {j : Nat} {p0 p1 p2 p3 p4 p5 p6 p7 p8 p9 p10 p11 p12 p13 : Pos}
    (hbg : defBody st = [.Assign [.Name r p0] (.Constant .none j p1) p2, .Try [.Expr (.Call (.Name a p3) [] [] p4) p5] [.ExceptHandler (some (.Name y p6)) (some e) [.Assign [.Name r p7] (.Name e p8) p9] p10] [] [] p11, .Return (some (.Name r p12)) p13])
    (hb : ∀ (kV doc pm : Value) (an : Option Addr) (cdv ct : Value) (us : List Value), us.length = ([a] : List Str).length → bindArgs (PySem.W.fnOf x x (defArgs st) (defBody st) (defScope st) .none kV doc pm an cdv ct) ⟨us, []⟩ = pure (([a] : List Str).zip us))
    (Sg : FnScope [a, r, e] [a] (defScope st)) (hva : Vis (defScope st) a) (hN : ([a, r, e] : List Str).Nodup) (hge : (defScope st).names.lookup y = some .globalImplicit) (hr1 : (defScope st).names.lookup r = some .local) (he1 : (defScope st).names.lookup e = some .local)
    (hde : (y == ("__debug__" : Str)) = false) (hrd : (r == ("__debug__" : Str)) = false) (hrc : (r == ("__classdict__" : Str)) = false) (hed : (e == ("__debug__" : Str)) = false) (hec : (e == ("__classdict__" : Str)) = false) (had : (a == ("__debug__" : Str)) = false) (hac : (a == ("__classdict__" : Str)) = false) (hxd : (x == ("__debug__" : Str)) = false) :
    CaughtS K mg x cs := by
  obtain ⟨oc, od, kV, doc, pm, an, ct, osl, rfl, lk, hcd⟩ := F.ex
  refine ⟨_, _, a, r, e, y, _, _, _, kV, doc, pm, cdv, ct, oc, an, od, osl, j, p0, p1, p2, p3, p4, p5, p6, p7, p8, p9, p10, p11, p12, p13, _, hbg, glo_at X G hg hx, F.kp, lk, hcd, .all (hb kV doc pm an cdv ct), Sg, hva, hN, hge, glo_at X G hg hy, hde, hr1, he1, hrd, hrc, hed, hec, had, hac, hxd, fun c hc C q => ?_⟩
  rw [glo_at X G hg (hcs c hc)] at q
  cases q
  exact of_decide_eq_true (List.all_eq_true.mp he c hc)
/-- the law's store at the entry: the script alone -/
def S0 (ns : List Int) : Sto := ⟨1, fun _ => .ro (ns.map Vl.int)⟩
theorem ints_rp {K : PySem.W.Frag} {mg : Str → Option Value} {H : Hp} {μ : Nat → Addr} {N : Nat} : ∀ ns : List Int, RpAll K mg H μ N (ns.map Vl.int) (ns.map V.int)
  | [] => .nil
  | n :: ns => .cons (.int n) (ints_rp ns)
theorem law_sp {K : PySem.W.Frag} {mg : Str → Option Value} {T : Tb} {H : Hp} {a : Addr} {ns : List Int} {f : List Vl → M Vl} (ht : LamX.Tabs T H) (hs : RoV K H a (ns.map V.int)) (h : ∃ S', f [.ref 0] (S0 ns) = some (.ok (.bl true), S')) :
    spF K mg T 1 f [.ref a] H (fun v _ => v = .bl true) fun _ _ _ => False := by
  obtain ⟨S', h⟩ := h
  refine ⟨rfl, fun _ => a, S0 ns, [.ref 0], ⟨fun n hn => ⟨_, hs, ints_rp ns⟩, fun n m hn hm h1 h2 _ => Bool.noConfusion h1, ht⟩, .cons (.ref 0 (Nat.lt_succ_self 0)) .nil, ?_⟩
  rw [h]
  exact fun H' μ' x e sr r => by cases r; rfl
end Q

set_option linter.all false
set_option maxRecDepth 100000
set_option maxHeartbeats 400000
namespace Q
open PySem PySem.Spec PyProof.Rows L2

/-! ### a chain of two comparisons -/
def mChain (m1 m2 : Vl → Vl → MO Vl) (fa fb fc : En → M Vl) : En → M Vl := fun ρ => bnd (fa ρ) fun x => bnd (fb ρ) fun y => bnd (lift (m1 x y)) fun z => match z with
  | .bl true => bnd (fc ρ) fun w => lift (m2 y w)
  | .bl false => ret (.bl false)
  | _ => fail
section
variable {X : Cx} {T : Tb} {W : WX} {pos : Pos}
theorem se_chain {a b c : Expr} {o1 o2 : CmpOp} {m1 m2 : Vl → Vl → MO Vl} {fa fb fc : En → M Vl} (h1 : OpS X T (compareOp o1) m1) (h2 : OpS X T (compareOp o2) m2) (ha : SE X T W a fa) (hb : SE X T W b fb) (hc : SE X T W c fc)
    (hm : lastMarks [o1, o2] [b, c] = false := by with_unfolding_all rfl) : SE X T W (.Compare a [o1, o2] [b, c] pos) (mChain m1 m2 fa fb fc) := by
  refine PE.imp (pe_chain h1 h2 ha hb hc hm) fun σ H Q h => ?_
  obtain ⟨ρ, μ, S, sr, er, h⟩ := h
  refine ⟨ρ, μ, S, sr, er, Pst.bnd_ h fun x S1 H1 μ1 x' e1 sr1 rx h1 => ?_⟩
  refine ⟨ρ, μ1, S1, sr1, er.ext e1, Pst.bnd_ h1 fun y S2 H2 μ2 y' e2 sr2 ry h2 => ?_⟩
  refine ⟨μ2, S2, x, y, sr2, rx.ext e2, ry, (Pst.bnd_ (rel := rl X.K X.mg) h2 fun z S3 H3 μ3 z' e3 sr3 rz h3 => ?_).lift_⟩
  cases z with
  | bl k =>
    cases rz
    cases k with
    | true =>
      refine ⟨true, rfl, ?_⟩
      rw [if_pos rfl]
      refine ⟨ρ, μ3, S3, sr3, ((er.ext e1).ext e2).ext e3, Pst.bnd_ h3 fun w S4 H4 μ4 w' e4 sr4 rw_ h4 => ?_⟩
      exact ⟨μ4, S4, y, w, sr4, (ry.ext e3).ext e4, rw_, h4.lift_⟩
    | false =>
      refine ⟨false, rfl, ?_⟩
      rw [if_neg (by decide)]
      exact Pst.here h3 sr3 (.bl false)
  | _ => exact h3.elim
/-! ### list(d), sorted(d), dict(pairs) -/
section
variable {K : PySem.W.Frag} {mg : Str → Option Value} {H : Hp} {μ : Nat → Addr} {N : Nat}
theorem key_rp {k : Vl} {κ : Key} (h : keyOf k = some κ) : Rp K mg H μ N k (kV κ) := by
  cases k with
  | int i => cases h; exact .int i
  | str s => cases h; exact .str s
  | _ => cases h
theorem RpK.keys {kvs : List (Vl × Vl)} {vs : List (Key × V)} (h : RpK K mg H μ N kvs vs) : RpAll K mg H μ N (kvs.map (·.1)) (vs.map fun kv => kV kv.1) := by
  induction h with
  | nil => exact .nil
  | cons k _ _ ih => exact .cons (key_rp k) ih
end
def sortI (ns : List Int) : List Int := ns.mergeSort fun a b => decide (a ≤ b)
theorem sortI_eq {ns ys : List Int} (h1 : ys.Perm ns) (h2 : ys.Pairwise (· ≤ ·)) : ys = sortI ns := by
  refine List.Perm.eq_of_pairwise (le := (· ≤ ·)) (fun a b _ _ x y => Int.le_antisymm x y) h2 ?_ (h1.trans (List.mergeSort_perm _ _).symm)
  have := List.pairwise_mergeSort (le := fun a b : Int => decide (a ≤ b)) (fun a b c x y => by simp at *; omega) (fun a b => by simp; omega) ns
  exact this.imp fun h => by simpa using h
end

/-! ### a dict that is walked -/
section
variable {K : PySem.W.Frag} {mg : Str → Option Value} {T : Tb} {H : Hp} {μ : Nat → Addr} {S : Sto} {N : Nat} {d : Addr} {od : Obj} {vs : List (Key × V)}
theorem SRel.lock {k : Nat} {kvs : List (Vl × Vl)} (r : SRel K mg T H μ S) (hk : k < S.n) (hS : S.at_ k = .dic false kvs) (h1 : H (μ k) = some (.dK vs)) (h2 : RpK K mg H μ S.n kvs vs) : SRel K mg T (upd H (μ k) (.frz od (.dK vs))) μ (S.set k (.dic true kvs)) ∧ Ext H μ S.n (upd H (μ k) (.frz od (.dK vs))) μ S.n :=
  r.write (o := .frz od (.dK vs)) (ob := .dic true kvs) hk (by rw [hS]; rfl) rfl (by rw [h1]; intro _ z; cases z) (by rw [h1]; intro _ _ z; cases z) (by rw [h1]; intro _ z; cases z) (by rw [h1]; intro _ z; cases z) (fun ex => ⟨od, vs, upd_same, h2.ext ex⟩)
end

/-! ### list(range(n)) -/
def rngZ (n : Int) : List Vl := (List.range (n - 0).toNat).map fun i : Nat => Vl.int (0 + (i : Nat))
def mListR (f : En → M Vl) : En → M Vl := fun ρ => bnd (f ρ) fun v S => match v with
  | .int n => if 0 ≤ n ∧ n ≤ 16777216 then some (.ok (.ref S.n), S.push (.lst (rngZ n))) else none
  | _ => none
section
variable {X : Cx} {T : Tb} {W : WX} {pos p cpos cp : Pos}
theorem se_listR {a : Expr} {f : En → M Vl} (hc : X.calm = true) (hl : X.mg "list" = none) (hr : X.mg "range" = none) (ha : SE X T W a f) (hg1 : Gl X "list" := by rfl) (hg2 : Gl X "range" := by rfl) (na : starEach [a] X.env = (false, eval a X.env) :: starEach [] X.env := by rfl)
    (nb : starEach [.Call (.Name "range" p) [a] [] pos] X.env = (false, eval (.Call (.Name "range" p) [a] [] pos) X.env) :: starEach [] X.env := by rfl) : SE X T W (.Call (.Name "list" cp) [.Call (.Name "range" p) [a] [] pos] [] cpos) (mListR f) := by
  refine PE.imp (pe_listRg hc hg1 hl (prg_1 hg2 hr ha na) nb) fun σ H Q h => ?_
  obtain ⟨ρ, μ, S, sr, er, h⟩ := h
  refine ⟨ρ, μ, S, sr, er, Pst.bnd_ h fun v S1 H1 μ1 x e1 sr1 rx h1 => ?_⟩
  cases v with
  | int n =>
    cases rx
    have h1 : Pst X.K X.mg T (fun cls d H' => W cls d σ H') (rl X.K X.mg) H1 μ1 S1.n Q (if 0 ≤ n ∧ n ≤ 16777216 then some (.ok (.ref S1.n), S1.push (.lst (rngZ n))) else none) := h1
    by_cases hn : 0 ≤ n ∧ n ≤ 16777216
    · rw [if_pos hn] at h1
      refine ⟨n, rfl, .of_le (by decide) hn.2 (by decide) hn.1, fun q hq => ?_⟩
      have h2 : PstO X.K X.mg T (rl X.K X.mg) H1 μ1 S1.n Q (some (.ref S1.n, S1.push (.lst (rngZ n)))) := h1
      refine fin_lst h2 sr1 ?_ q hq
      unfold rngZ rgV
      generalize List.range (n - 0).toNat = l
      induction l with
      | nil => exact .nil
      | cons z zs ih => exact .cons (.int _) ih
    · rw [if_neg hn] at h1; exact h1.elim
  | _ => exact h1.elim
end

structure FDd (K : PySem.W.Frag) (x : Str) (st : Stmt) (dv : List He.Dv) (fd : FuncData) (cdv : Value) : Prop where
  F : FunD K x x (defArgs st) (defBody st) (defScope st) (dv.map (He.Dv.v K)) [] (He.ga K x) fd
  tx : FD K x st (He.ga K x) fd cdv
section
variable {P : Program} {w : World} {K : PySem.W.Frag} {mg : Str → Option Value} {T : Tb} {base : Heap}
theorem FDd.cal {g : Bool} {x : Str} {st : Stmt} {dv : List He.Dv} {fd : FuncData} {cdv : Value} {ps : List Str} {k : Nat} {h : List Vl → M Vl} (F : FDd K x st dv fd cdv) (hm : mg x = some (.ref (He.ga K x))) (n j : Nat) (dl : List Vl) (hd : dv ≠ []) (hn : n + (dv.length - j) = ps.length)
    (hb : ∀ (T : Addr) (kV doc pm : Value) (an : Option Addr) (cdv ct : Value) (us its : List Value), us.length = n → its.length = dv.length →
      ∃ k, bindArgs (PySem.W.fnOf x x (defArgs st) (defBody st) (defScope st) (.ref T) kV doc pm an cdv ct) ⟨us, []⟩ = seqItems? (.ref T) >>= k ∧ k (some its.toArray) = pure (ps.zip (us ++ its.drop j)))
    (hv : ∀ H μ N, RpAll K mg H μ N dl ((dv.map (He.Dv.v K)).drop j))
    (ok : FnQ g P w K mg base k (He.ga K x) fd ps (spF K mg T ps.length h)) (hl : ∀ as S, as.length ≠ ps.length → h as S = none) : CalS g P w K mg T base k x dl h := by
  obtain ⟨ds, V, B⟩ := F.F.binds1 (ps := ps) n j (by simpa using hd) (by rw [List.length_map]; exact hn) (fun T kV doc pm an cdv ct us its l1 l2 => hb T kV doc pm an cdv ct us its l1 (by rw [l2, List.length_map]))
  exact ⟨_, fd, ps, ds, _, hm, F.F.kp, ok, hl, B, V, hv⟩
end
end Q

set_option linter.all false
set_option maxRecDepth 100000
set_option maxHeartbeats 400000
namespace Q
open PySem PySem.Spec PyProof.Rows L2

/-! ### what is wanted of a run -/
/-- what is wanted of an exception: its class, its field, the field's value, the store -/
abbrev XP := Str → Str → Vl → Sto → Prop
abbrev noE : XP := fun _ _ _ _ => False
def wpe {α : Type} (o : Option (R α × Sto)) (E : XP) (Q : α → Sto → Prop) : Prop := match o with
  | some (.ok a, S) => Q a S
  | some (.exc c f v, S) => E c f v S
  | none => False
def wpo {α : Type} (o : Option (α × Sto)) (Q : α → Sto → Prop) : Prop := match o with
  | some (a, S) => Q a S
  | none => False
/-- the ends of a statement -/
structure End_ where
  nx : En → Sto → Prop
  bk : En → Sto → Prop := fun _ _ => False
  ct : En → Sto → Prop := fun _ _ => False
  rt : Vl → Sto → Prop := fun _ _ => False
  ex : XP := noE
def wps (o : Option (Fl × En × Sto)) (D : End_) : Prop := match o with
  | some (.nx, ρ, S) => D.nx ρ S
  | some (.bk, ρ, S) => D.bk ρ S
  | some (.ct, ρ, S) => D.ct ρ S
  | some (.rt v, _, S) => D.rt v S
  | some (.ex c f v, _, S) => D.ex c f v S
  | none => False
section
variable {α β : Type} {E : XP} {S : Sto} {ρ : En} {D : End_}
theorem w_ok {a : α} {Q : α → Sto → Prop} : wpe (some (.ok a, S)) E Q = Q a S := rfl
theorem w_ret {a : α} {Q : α → Sto → Prop} : wpe (ret a S) E Q = Q a S := rfl
theorem w_bnd {m : M α} {k : α → M β} {Q : β → Sto → Prop} : wpe (bnd m k S) E Q = wpe (m S) E fun a S1 => wpe (k a S1) E Q := by
  unfold bnd
  cases m S with
  | none => rfl
  | some p => obtain ⟨r, S'⟩ := p; cases r <;> rfl
theorem w_lift {m : MO α} {Q : α → Sto → Prop} : wpe (lift m S) E Q = wpo (m S) Q := by
  unfold lift
  cases m S with
  | none => rfl
  | some p => obtain ⟨r, S'⟩ := p; rfl
theorem wo_some {a : α} {Q : α → Sto → Prop} : wpo (some (a, S)) Q = Q a S := rfl
theorem wo_if {c : Prop} [Decidable c] {a b : Option (α × Sto)} {Q : α → Sto → Prop} : wpo (if c then a else b) Q = if c then wpo a Q else wpo b Q := by split <;> rfl
theorem w_if {c : Prop} [Decidable c] {a b : Option (R α × Sto)} {Q : α → Sto → Prop} : wpe (if c then a else b) E Q = if c then wpe a E Q else wpe b E Q := by split <;> rfl
theorem w_slot {i : Nat} {Q : Vl → Sto → Prop} : wpe (mSlot i ρ S) E Q = ∃ v, ρ[i]? = some (some v) ∧ Q v S := by
  unfold mSlot
  apply propext
  cases e : ρ[i]? with
  | none => exact ⟨fun h => h.elim, fun ⟨w, e2, _⟩ => by cases e2⟩
  | some o =>
    cases o with
    | none => exact ⟨fun h => h.elim, fun ⟨w, e2, _⟩ => by cases e2⟩
    | some v => exact ⟨fun h => ⟨v, rfl, h⟩, fun ⟨w, e2, h⟩ => by cases e2; exact h⟩
theorem w_c {v : Vl} {Q : Vl → Sto → Prop} : wpe (mC v ρ S) E Q = Q v S := rfl
theorem w_nil {Q : List Vl → Sto → Prop} : wpe (mNil ρ S) E Q = Q [] S := rfl
theorem w_cons {f : En → M Vl} {g : En → M (List Vl)} {Q : List Vl → Sto → Prop} : wpe (mCons f g ρ S) E Q = wpe (f ρ S) E fun x S1 => wpe (g ρ S1) E fun xs S2 => Q (x :: xs) S2 := by
  unfold mCons; simp only [w_bnd, w_ret]
theorem w_bin {m : Vl → Vl → MO Vl} {fa fb : En → M Vl} {Q : Vl → Sto → Prop} : wpe (mBin m fa fb ρ S) E Q = wpe (fa ρ S) E fun x S1 => wpe (fb ρ S1) E fun y S2 => wpo (m x y S2) Q := by
  unfold mBin; simp only [w_bnd, w_lift]
theorem w_bi {m : List Vl → MO Vl} {g : En → M (List Vl)} {Q : Vl → Sto → Prop} : wpe (mBi m g ρ S) E Q = wpe (g ρ S) E fun vs S1 => wpo (m vs S1) Q := by
  unfold mBi; simp only [w_bnd, w_lift]
theorem w_tup {g : En → M (List Vl)} {Q : Vl → Sto → Prop} : wpe (mTup g ρ S) E Q = wpe (g ρ S) E fun xs S1 => xs.length ≤ sizeLine ∧ Q (.tup xs) S1 := by
  unfold mTup; simp only [w_bnd, w_lift]
  congr 1; funext xs S1; apply propext
  by_cases h : xs.length ≤ sizeLine
  · rw [if_pos h]; exact ⟨fun q => ⟨h, q⟩, fun q => q.2⟩
  · rw [if_neg h]; exact ⟨fun q => q.elim, fun q => (h q.1).elim⟩
theorem w_lst {g : En → M (List Vl)} {Q : Vl → Sto → Prop} : wpe (mLst g ρ S) E Q = wpe (g ρ S) E fun xs S1 => xs.length ≤ sizeLine ∧ Q (.ref S1.n) (S1.push (.lst xs)) := by
  unfold mLst; simp only [w_bnd, w_lift]
  congr 1; funext xs S1; apply propext
  by_cases h : xs.length ≤ sizeLine
  · rw [if_pos h]; exact ⟨fun q => ⟨h, q⟩, fun q => q.2⟩
  · rw [if_neg h]; exact ⟨fun q => q.elim, fun q => (h q.1).elim⟩
theorem w_tst {f : En → M Vl} {Q : Bool → Sto → Prop} : wpe (mTst f ρ S) E Q = wpe (f ρ S) E fun v S1 => ∃ b, v = .bl b ∧ Q b S1 := by
  unfold mTst; simp only [w_bnd]
  congr 1; funext v S1; apply propext
  cases v with
  | bl b => exact ⟨fun q => ⟨b, rfl, q⟩, fun ⟨c, e, q⟩ => by cases e; exact q⟩
  | _ => exact ⟨fun q => q.elim, fun ⟨c, e, _⟩ => by cases e⟩
theorem w_not {f : En → M Bool} {Q : Bool → Sto → Prop} : wpe (mNot f ρ S) E Q = wpe (f ρ S) E fun b S1 => Q (!b) S1 := by
  unfold mNot; simp only [w_bnd, w_ret]
theorem w_and {f g : En → M Bool} {Q : Bool → Sto → Prop} : wpe (mAnd f g ρ S) E Q = wpe (f ρ S) E fun b S1 => if b = true then wpe (g ρ S1) E Q else Q false S1 := by
  unfold mAnd; simp only [w_bnd]
  congr 1; funext b S1; cases b <;> rfl
theorem w_or {f g : En → M Bool} {Q : Bool → Sto → Prop} : wpe (mOr f g ρ S) E Q = wpe (f ρ S) E fun b S1 => if b = true then Q true S1 else wpe (g ρ S1) E Q := by
  unfold mOr; simp only [w_bnd]
  congr 1; funext b S1; cases b <;> rfl
theorem w_ite {c : En → M Bool} {f g : En → M Vl} {Q : Vl → Sto → Prop} : wpe (mIte c f g ρ S) E Q = wpe (c ρ S) E fun b S1 => if b = true then wpe (f ρ S1) E Q else wpe (g ρ S1) E Q := by
  unfold mIte; simp only [w_bnd]
  congr 1; funext b S1; cases b <;> rfl
theorem w_andV {f g : En → M Vl} {Q : Vl → Sto → Prop} : wpe (mAndV f g ρ S) E Q = wpe (f ρ S) E fun v S1 => ∃ b, v = .bl b ∧ if b = true then wpe (g ρ S1) E Q else Q (.bl false) S1 := by
  unfold mAndV; simp only [w_bnd]
  congr 1; funext v S1; apply propext
  cases v with
  | bl b => exact ⟨fun q => ⟨b, rfl, by cases b <;> exact q⟩, fun ⟨c, e, q⟩ => by cases e; cases b <;> exact q⟩
  | _ => exact ⟨fun q => q.elim, fun ⟨c, e, _⟩ => by cases e⟩
theorem w_orV {f g : En → M Vl} {Q : Vl → Sto → Prop} : wpe (mOrV f g ρ S) E Q = wpe (f ρ S) E fun v S1 => ∃ b, v = .bl b ∧ if b = true then Q (.bl true) S1 else wpe (g ρ S1) E Q := by
  unfold mOrV; simp only [w_bnd]
  congr 1; funext v S1; apply propext
  cases v with
  | bl b => exact ⟨fun q => ⟨b, rfl, by cases b <;> exact q⟩, fun ⟨c, e, q⟩ => by cases e; cases b <;> exact q⟩
  | _ => exact ⟨fun q => q.elim, fun ⟨c, e, _⟩ => by cases e⟩
theorem w_call {f : List Vl → M Vl} {g : En → M (List Vl)} {Q : Vl → Sto → Prop} : wpe (mCall f [] g ρ S) E Q = wpe (g ρ S) E fun vs S1 => wpe (f vs S1) E Q := by
  unfold mCall; simp only [w_bnd, List.append_nil]
theorem w_callK {f : List Vl → M Vl} {p : List Nat} {g : En → M (List Vl)} {Q : Vl → Sto → Prop} : wpe (mCallK f p g ρ S) E Q = wpe (g ρ S) E fun vs S1 => wpe (f (reord p vs) S1) E Q := by
  unfold mCallK; simp only [w_bnd]
theorem w_met {Ty : String} {m : Vl → List Vl → MO Vl} {f : En → M Vl} {g : En → M (List Vl)} {Q : Vl → Sto → Prop} : wpe (mMet Ty m f g ρ S) E Q = wpe (f ρ S) E fun o S1 => tyB Ty S1 o = true ∧ wpe (g ρ S1) E fun as S2 => wpo (m o as S2) Q := by
  unfold mMet; simp only [w_bnd]
  congr 1; funext o S1; apply propext
  by_cases h : tyB Ty S1 o = true
  · rw [if_pos h, w_bnd]; simp only [w_lift]; exact ⟨fun q => ⟨h, q⟩, fun q => q.2⟩
  · rw [if_neg h]; exact ⟨fun q => q.elim, fun q => (h q.1).elim⟩
theorem w_caught {cs : List Str} {f : En → M Vl} {Q : Vl → Sto → Prop} : wpe (mCaught cs f ρ S) E Q = wpe (f ρ S) (fun c g v S1 => c ∈ cs ∧ g = "" ∧ v = .non ∧ Q (.exc c "" .non) S1) fun _ S1 => Q .non S1 := by
  unfold mCaught
  cases e : f ρ S with
  | none => rfl
  | some p =>
    obtain ⟨r, S1⟩ := p
    cases r with
    | ok v => rfl
    | exc c g v =>
      apply propext
      show wpe (if c ∈ cs then (match v with
        | .non => if g = "" then some (.ok (.exc c "" .non), S1) else none
        | _ => none) else none) E Q ↔ (c ∈ cs ∧ g = "" ∧ v = .non ∧ Q (.exc c "" .non) S1)
      by_cases hc : c ∈ cs
      · rw [if_pos hc]
        cases v with
        | non =>
          by_cases hg : g = ""
          · show wpe (if g = "" then some (.ok (.exc c "" .non), S1) else none) E Q ↔ _
            rw [if_pos hg]; exact ⟨fun q => ⟨hc, hg, rfl, q⟩, fun q => q.2.2.2⟩
          · show wpe (if g = "" then some (.ok (.exc c "" .non), S1) else none) E Q ↔ _
            rw [if_neg hg]; exact ⟨fun q => q.elim, fun q => (hg q.2.1).elim⟩
        | _ => exact ⟨fun q => q.elim, fun q => by cases q.2.2.1⟩
      · rw [if_neg hc]; exact ⟨fun q => q.elim, fun q => (hc q.1).elim⟩
/-! statements -/
theorem s_seq {a b : MS} : wps (sSeq a b ρ S) D = wps (a ρ S) { D with nx := fun ρ1 S1 => wps (b ρ1 S1) D } := by
  unfold sSeq
  cases a ρ S with
  | none => rfl
  | some p => obtain ⟨fl, ρ', S'⟩ := p; cases fl <;> rfl
theorem s_if {c : En → M Bool} {a b : MS} : wps (sIf c a b ρ S) D = wpe (c ρ S) D.ex fun t S1 => if t = true then wps (a ρ S1) D else wps (b ρ S1) D := by
  unfold sIf
  cases c ρ S with
  | none => rfl
  | some p =>
    obtain ⟨r, S'⟩ := p
    cases r with
    | ok t => cases t <;> rfl
    | exc c g v => rfl
theorem s_ret {f : En → M Vl} : wps (sRet f ρ S) D = wpe (f ρ S) D.ex D.rt := by
  unfold sRet
  cases f ρ S with
  | none => rfl
  | some p => obtain ⟨r, S'⟩ := p; cases r <;> rfl
theorem s_exp {f : En → M Vl} : wps (sExp f ρ S) D = wpe (f ρ S) D.ex fun _ S1 => D.nx ρ S1 := by
  unfold sExp
  cases f ρ S with
  | none => rfl
  | some p => obtain ⟨r, S'⟩ := p; cases r <;> rfl
theorem s_skip : wps (sSkip ρ S) D = D.nx ρ S := rfl
theorem s_cont : wps (sCont ρ S) D = D.ct ρ S := rfl
theorem s_break : wps (sBreak ρ S) D = D.bk ρ S := rfl
theorem s_raise {c : Str} : wps (sRaise c ρ S) D = D.ex c "" .non S := rfl
theorem s_set {f : En → M Vl} {i : Nat} : wps (sAsg f (gNm i) ρ S) D = wpe (f ρ S) D.ex fun v S1 => D.nx (ρ.set i (some v)) S1 := by
  unfold sAsg
  cases f ρ S with
  | none => rfl
  | some p => obtain ⟨r, S'⟩ := p; cases r <;> rfl
theorem s_asg {f : En → M Vl} {g : Vl → En → MO En} : wps (sAsg f g ρ S) D = wpe (f ρ S) D.ex fun v S1 => wpo (g v ρ S1) D.nx := by
  unfold sAsg
  cases f ρ S with
  | none => rfl
  | some p =>
    obtain ⟨r, S'⟩ := p
    cases r with
    | ok v =>
      show wps (match g v ρ S' with | none => none | some (ρ', S2) => some (.nx, ρ', S2)) D = wpo (g v ρ S') D.nx
      cases g v ρ S' with
      | none => rfl
      | some q => obtain ⟨a, b⟩ := q; rfl
    | exc c g v => rfl
theorem s_par {is : List Nat} {g : En → M (List Vl)} : wps (sPar is g ρ S) D = wpe (g ρ S) D.ex fun vs S1 => vs.length = is.length ∧ D.nx ((is.zip vs).foldl (fun ρ p => ρ.set p.1 (some p.2)) ρ) S1 := by
  unfold sPar
  cases g ρ S with
  | none => rfl
  | some p =>
    obtain ⟨r, S'⟩ := p
    cases r with
    | ok vs =>
      apply propext
      by_cases h : vs.length = is.length
      · show wps (if _ then _ else _) D ↔ _
        rw [if_pos h]; exact ⟨fun q => ⟨h, q⟩, fun q => q.2⟩
      · show wps (if _ then _ else _) D ↔ _
        rw [if_neg h]; exact ⟨fun q => q.elim, fun q => (h q.1).elim⟩
    | exc c g v => rfl
theorem s_aug {i : Nat} {f : En → M Vl} {m : Vl → Vl → MO Vl} : wps (sAug i f m ρ S) D = ∃ x, ρ[i]? = some (some x) ∧ wpe (f ρ S) D.ex fun v S1 => wpo (m x v S1) fun z S2 => D.nx (ρ.set i (some z)) S2 := by
  unfold sAug
  apply propext
  cases e : ρ[i]? with
  | none => exact ⟨fun h => h.elim, fun ⟨w, e2, _⟩ => by cases e2⟩
  | some o =>
    cases o with
    | none => exact ⟨fun h => h.elim, fun ⟨w, e2, _⟩ => by cases e2⟩
    | some x =>
      have key : wps (match f ρ S with
        | none => none
        | some (.ok v, S') => (match m x v S' with | none => none | some (z, S2) => some (.nx, ρ.set i (some z), S2))
        | some (.exc c g v, S') => some (.ex c g v, ρ, S')) D = wpe (f ρ S) D.ex fun v S1 => wpo (m x v S1) fun z S2 => D.nx (ρ.set i (some z)) S2 := by
        cases f ρ S with
        | none => rfl
        | some p =>
          obtain ⟨r, S'⟩ := p
          cases r with
          | ok v =>
            show wps (match m x v S' with | none => none | some (z, S2) => some (.nx, ρ.set i (some z), S2)) D = wpo (m x v S') _
            cases m x v S' with
            | none => rfl
            | some q => obtain ⟨a, b⟩ := q; rfl
          | exc c g v => rfl
      exact ⟨fun h => ⟨x, rfl, key ▸ h⟩, fun ⟨y, e2, h⟩ => by cases e2; exact key.symm ▸ h⟩
/-- a def's call -/
theorem w_run {nN np : Nat} {b : MS} {as : List Vl} {Q : Vl → Sto → Prop} (hl : as.length = np) (h : wps (b (startE nN as) S) ⟨fun _ S1 => Q .non S1, fun _ _ => False, fun _ _ => False, Q, E⟩) : wpe (runF nN np b as S) E Q := by
  unfold runF
  rw [if_pos hl]
  cases e : b (startE nN as) S with
  | none => rw [e] at h; exact h.elim
  | some p =>
    obtain ⟨fl, ρ', S'⟩ := p
    rw [e] at h
    cases fl with
    | nx => exact h
    | bk => exact h.elim
    | ct => exact h.elim
    | rt v => exact h
    | ex c g v => exact h
theorem wpe_mono {o : Option (R α × Sto)} {E E' : XP} {Q Q' : α → Sto → Prop} (h : wpe o E Q) (hq : ∀ a S, Q a S → Q' a S) (he : ∀ c f v S, E c f v S → E' c f v S) : wpe o E' Q' := by
  match o, h with
  | some (.ok a, S), h => exact hq a S h
  | some (.exc c f v, S), h => exact he c f v S h
theorem wps_mono {o : Option (Fl × En × Sto)} {D D' : End_} (h : wps o D) (h1 : ∀ ρ S, D.nx ρ S → D'.nx ρ S) (h2 : ∀ ρ S, D.bk ρ S → D'.bk ρ S) (h3 : ∀ ρ S, D.ct ρ S → D'.ct ρ S) (h4 : ∀ v S, D.rt v S → D'.rt v S) (h5 : ∀ c f v S, D.ex c f v S → D'.ex c f v S) : wps o D' := by
  match o, h with
  | some (.nx, ρ, S), h => exact h1 ρ S h
  | some (.bk, ρ, S), h => exact h2 ρ S h
  | some (.ct, ρ, S), h => exact h3 ρ S h
  | some (.rt v, _, S), h => exact h4 v S h
  | some (.ex c f v, _, S), h => exact h5 c f v S h
theorem wpe_ok {o : Option (R α × Sto)} {Q : α → Sto → Prop} (h : wpe o noE Q) : ∃ a S, o = some (.ok a, S) ∧ Q a S := by
  match o, h with
  | some (.ok a, S), h => exact ⟨a, S, rfl, h⟩
  | some (.exc c f v, S), h => exact h.elim
end

/-! ### loops -/
theorem lim_is {α : Type} {f : Nat → Option α} {r : α} {n : Nat} (h : f n = some r) (hm : ∀ n m a b, f n = some a → f m = some b → a = b) : lim f = some r := by
  have hx : ∃ n, (f n).isSome = true := ⟨n, by rw [h]; rfl⟩
  unfold lim
  rw [dif_pos hx]
  obtain ⟨b, hb⟩ := Option.isSome_iff_exists.mp (Classical.choose_spec hx)
  rw [hb, hm _ _ _ _ hb h]
theorem forN_mono {nx : Nxt} {g : Vl → En → MO En} {b : MS} : ∀ {n i : Nat} {ρ : En} {S : Sto} {r : Fl × En × Sto}, forN nx g b n i ρ S = some r → ∀ m, n ≤ m → forN nx g b m i ρ S = some r
  | 0, _, _, _, _, h, _, _ => by cases h
  | n + 1, i, ρ, S, r, h, 0, hm => by omega
  | n + 1, i, ρ, S, r, h, m + 1, hm => by
    unfold forN at h ⊢
    cases e : nx i S with
    | none => rw [e] at h; cases h
    | some p =>
      rw [e] at h
      cases p with
      | none => exact h
      | some v =>
        simp only at h ⊢
        cases e1 : g v ρ S with
        | none => rw [e1] at h; cases h
        | some p1 =>
          obtain ⟨ρ1, S1⟩ := p1
          rw [e1] at h
          simp only at h ⊢
          cases e2 : b ρ1 S1 with
          | none => rw [e2] at h; cases h
          | some p2 =>
            obtain ⟨fl, ρ', S2⟩ := p2
            rw [e2] at h
            cases fl with
            | nx => exact forN_mono (n := n) h m (by omega)
            | ct => exact forN_mono (n := n) h m (by omega)
            | bk => exact h
            | rt v => exact h
            | ex _ _ _ => exact h
theorem det_of_mono {α : Type} {f : Nat → Option α} (h : ∀ n r, f n = some r → ∀ m, n ≤ m → f m = some r) : ∀ n m a b, f n = some a → f m = some b → a = b := fun n m a b e1 e2 => by
  rcases Nat.le_total n m with q | q
  · rw [h n a e1 m q] at e2; exact Option.some.inj e2
  · rw [h m b e2 n q] at e1; exact (Option.some.inj e1).symm
theorem wps_lim {f : Nat → Option (Fl × En × Sto)} {D : End_} {n : Nat} (hm : ∀ n r, f n = some r → ∀ m, n ≤ m → f m = some r) (h : wps (f n) D) : wps (lim f) D := by
  cases e : f n with
  | none => rw [e] at h; exact h.elim
  | some r => rw [lim_is e (det_of_mono hm), ← e]; exact h
/-- for over a list of values that stays what it is -/
theorem s_forN {nx : Nxt} {g : Vl → En → MO En} {b : MS} {D : End_} (xs : List Vl) (J : Nat → En → Sto → Prop) (hn : ∀ i ρ S, i ≤ xs.length → J i ρ S → nx i S = some xs[i]?)
    (step : ∀ i x ρ S, xs[i]? = some x → J i ρ S → wpo (g x ρ S) fun ρ1 S1 => wps (b ρ1 S1) ⟨J (i + 1), D.nx, J (i + 1), D.rt, D.ex⟩) (done : ∀ ρ S, J xs.length ρ S → D.nx ρ S) :
    ∀ (k i : Nat) {ρ : En} {S : Sto}, i + k = xs.length → J i ρ S → wps (forN nx g b (k + 1) i ρ S) D
  | 0, i, ρ, S, hi, h => by
    unfold forN
    rw [hn i ρ S (by omega) h, List.getElem?_eq_none (by omega)]
    have e : i = xs.length := by omega
    rw [e] at h
    exact done ρ S h
  | k + 1, i, ρ, S, hi, h => by
    unfold forN
    have hx : xs[i]? = some xs[i] := List.getElem?_eq_getElem (by omega)
    have q := step i _ ρ S hx h
    rw [hn i ρ S (by omega) h, hx]
    simp only
    cases e : g xs[i] ρ S with
    | none => rw [e] at q; exact q.elim
    | some p =>
      obtain ⟨ρ1, S1⟩ := p
      rw [e] at q
      have q : wps (b ρ1 S1) _ := q
      simp only
      cases e2 : b ρ1 S1 with
      | none => rw [e2] at q; exact q.elim
      | some p2 =>
        obtain ⟨fl, ρ', S2⟩ := p2
        rw [e2] at q
        cases fl with
        | nx => exact s_forN xs J hn step done k (i + 1) (by omega) q
        | ct => exact s_forN xs J hn step done k (i + 1) (by omega) q
        | bk => exact q
        | rt v => exact q
        | ex _ _ _ => exact q
theorem s_for {fi : En → M Nxt} {g : Vl → En → MO En} {b : MS} {D : End_} {ρ : En} {S : Sto} (h : wpe (fi ρ S) D.ex fun nx S1 => ∃ (xs : List Vl) (J : Nat → En → Sto → Prop), J 0 ρ S1 ∧ (∀ i ρ S, i ≤ xs.length → J i ρ S → nx i S = some xs[i]?) ∧
    (∀ i x ρ S, xs[i]? = some x → J i ρ S → wpo (g x ρ S) fun ρ1 S1 => wps (b ρ1 S1) ⟨J (i + 1), D.nx, J (i + 1), D.rt, D.ex⟩) ∧ ∀ ρ S, J xs.length ρ S → D.nx ρ S) : wps (sFor fi g b ρ S) D := by
  unfold sFor
  cases e : fi ρ S with
  | none => rw [e] at h; exact h.elim
  | some p =>
    obtain ⟨r, S1⟩ := p
    rw [e] at h
    cases r with
    | exc c f v => exact h
    | ok nx =>
      obtain ⟨xs, J, h0, hn, step, done⟩ := h
      exact wps_lim (n := xs.length + 1) (fun n r e m hm => forN_mono e m hm) (s_forN xs J hn step done xs.length 0 (by omega) h0)
end Q

set_option linter.all false
set_option maxRecDepth 100000
set_option maxHeartbeats 400000
namespace Q
open PySem PySem.Spec PyProof.Rows L2

/-! ### what is wanted of the operators -/
section
variable {S : Sto} {Z : Vl → Sto → Prop} {i j : Int} {n m : Nat} {xs ys : List Vl} {v : Vl}
theorem o_isi {a : String} {b : String} (h : tyN S v = some a) (hb : b ∈ tyCs := by decide) : wpo (bIsi [v, .ty b] S) Z = Z (.bl (isT a b)) S := by
  show wpo (match tyN S v with | some a => if b ∈ tyCs then some (.bl (isT a b), S) else none | none => none) Z = _
  rw [h]; simp only; rw [if_pos hb]; rfl
theorem o_add : wpo (bAdd (.int i) (.int j) S) Z = Z (.int (i + j)) S := rfl
theorem o_sub : wpo (bSub (.int i) (.int j) S) Z = Z (.int (i - j)) S := rfl
theorem o_adds {a b : Str} : wpo (bAdd (.str a) (.str b) S) Z = (a.length + b.length ≤ sizeLine ∧ Z (.str (a ++ b)) S) := by
  show wpo (if _ then _ else _) Z = _
  apply propext
  by_cases h : a.length + b.length ≤ sizeLine
  · rw [if_pos h]; exact ⟨fun q => ⟨h, q⟩, fun q => q.2⟩
  · rw [if_neg h]; exact ⟨fun q => q.elim, fun q => (h q.1).elim⟩
theorem o_addt : wpo (bAdd (.tup xs) (.tup ys) S) Z = (xs.length + ys.length ≤ sizeLine ∧ Z (.tup (xs ++ ys)) S) := by
  show wpo (if _ then _ else _) Z = _
  apply propext
  by_cases h : xs.length + ys.length ≤ sizeLine
  · rw [if_pos h]; exact ⟨fun q => ⟨h, q⟩, fun q => q.2⟩
  · rw [if_neg h]; exact ⟨fun q => q.elim, fun q => (h q.1).elim⟩
theorem o_addl (h1 : S.at_ n = .lst xs) (h2 : S.at_ m = .lst ys) : wpo (bAdd (.ref n) (.ref m) S) Z = (xs.length + ys.length ≤ sizeLine ∧ Z (.ref S.n) (S.push (.lst (xs ++ ys)))) := by
  show wpo (match S.at_ n, S.at_ m with | .lst xs, .lst ys => if xs.length + ys.length ≤ sizeLine then some (.ref S.n, S.push (.lst (xs ++ ys))) else none | _, _ => none) Z = _
  rw [h1, h2]
  apply propext
  by_cases h : xs.length + ys.length ≤ sizeLine
  · simp only [if_pos h]; exact ⟨fun q => ⟨h, q⟩, fun q => q.2⟩
  · simp only [if_neg h]; exact ⟨fun q => q.elim, fun q => (h q.1).elim⟩
theorem o_mul (h : CMul i j) : wpo (bMul (.int i) (.int j) S) Z = Z (.int (i * j)) S := by
  show wpo (if CMul i j then some (.int (i * j), S) else none) Z = _
  rw [if_pos h]; rfl
theorem o_div (h : CDiv i j) : wpo (bDiv (.int i) (.int j) S) Z = Z (.int (i / j)) S := by
  show wpo (if CDiv i j then some (.int (i / j), S) else none) Z = _
  rw [if_pos h]; rfl
theorem o_mod (h : 0 < j) : wpo (bMod (.int i) (.int j) S) Z = Z (.int (i % j)) S := by
  show wpo (if 0 < j then some (.int (i % j), S) else none) Z = _
  rw [if_pos h]; rfl
theorem o_pow (h : CPow i j) : wpo (bPow (.int i) (.int j) S) Z = Z (.int (i ^ j.toNat)) S := by
  show wpo (if CPow i j then some (.int (i ^ j.toNat), S) else none) Z = _
  rw [if_pos h]; rfl
theorem o_abs : wpo (bAbs [.int i] S) Z = Z (.int (if i < 0 then -i else i)) S := rfl
theorem o_int : wpo (bInt [.int i] S) Z = Z (.int i) S := rfl
theorem o_lenl (h : S.at_ n = .lst xs) : wpo (bLen [.ref n] S) Z = Z (.int xs.length) S := by
  show wpo (match S.at_ n with | .lst xs => some (.int xs.length, S) | .ro xs => some (.int xs.length, S) | .dic _ kvs => some (.int kvs.length, S) | _ => none) Z = _
  rw [h]; rfl
theorem o_lenr (h : S.at_ n = .ro xs) : wpo (bLen [.ref n] S) Z = Z (.int xs.length) S := by
  show wpo (match S.at_ n with | .lst xs => some (.int xs.length, S) | .ro xs => some (.int xs.length, S) | .dic _ kvs => some (.int kvs.length, S) | _ => none) Z = _
  rw [h]; rfl
theorem o_strs {a b : Str} : wpo (bEq (.str a) (.str b) S) Z = Z (.bl (decide (a = b))) S := rfl
theorem o_eqi : wpo (bEq (.int i) (.int j) S) Z = Z (.bl (i == j)) S := rfl
/-- == of data: what the data are -/
theorem o_eqd {a b : Vl} {d e : PyData} (h1 : toD S a = some d) (h2 : toD S b = some e) (hs : ¬ ∃ x y, a = .str x ∧ b = .str y) (c1 : d.canLay0 = true) (c2 : e.canLay0 = true) (c3 : min d.depth e.depth ≤ 190) : wpo (bEq a b S) Z = Z (.bl (PyData.eqv d e)) S := by
  rcases bEqW_eq (neg := false) (a := a) (b := b) with z | z
  · exact absurd z hs
  · show wpo (bEqW _ a b S) Z = _
    rw [z]; unfold bEqD; rw [h1, h2]; simp only [c1, c2, Bool.and_self, Bool.true_and, decide_eq_true_eq, if_pos c3]; rfl
theorem o_ned {a b : Vl} {d e : PyData} (h1 : toD S a = some d) (h2 : toD S b = some e) (hs : ¬ ∃ x y, a = .str x ∧ b = .str y) (c1 : d.canLay0 = true) (c2 : e.canLay0 = true) (c3 : min d.depth e.depth ≤ 190) : wpo (bNe a b S) Z = Z (.bl (!PyData.eqv d e)) S := by
  rcases bEqW_eq (neg := true) (a := a) (b := b) with z | z
  · exact absurd z hs
  · show wpo (bEqW _ a b S) Z = _
    rw [z]; unfold bEqD; rw [h1, h2]; simp only [c1, c2, Bool.and_self, Bool.true_and, decide_eq_true_eq, if_pos c3]; rfl
theorem o_at {k : Nat} (h : xs[k]? = some v) (hk : k < 2 ^ 62) : wpo (bSub' (.tup xs) (.int k) S) Z = Z v S := by
  have hl : k < xs.length := by
    rw [List.getElem?_eq_some_iff] at h; exact h.1
  have e : atI xs (k : Int) = some v := by
    unfold atI
    have e2 : seqIndex? (k : Int) xs.length = some k := by
      unfold seqIndex?
      have h1 : ¬ ((k : Int) < 0) := by omega
      simp only [h1, if_false]
      have h2 : (decide ((0 : Int) ≤ k) && decide ((k : Int) < xs.length)) = true := by simp; omega
      rw [if_pos h2]; simp
    have hb : -(2 ^ 63) ≤ (k : Int) ∧ (k : Int) < 2 ^ 63 := by constructor <;> omega
    have h9 : xs[k] = v := by rw [List.getElem?_eq_getElem hl] at h; exact Option.some.inj h
    simp [ixN, hb, e2, hl, h9]
  show wpo (match atI xs (k : Int) with | some v => some (v, S) | none => none) Z = _
  rw [e]; rfl
theorem o_at0 : wpo (bSub' (.tup (v :: xs)) (.int 0) S) Z = Z v S := o_at (k := 0) rfl (by decide)
theorem o_at1 {a : Vl} : wpo (bSub' (.tup (a :: v :: xs)) (.int 1) S) Z = Z v S := o_at (k := 1) rfl (by decide)
theorem o_at2 {a b : Vl} : wpo (bSub' (.tup (a :: b :: v :: xs)) (.int 2) S) Z = Z v S := o_at (k := 2) rfl (by decide)
theorem o_key {lk : Bool} {kvs : List (Vl × Vl)} {k : Vl} (h : S.at_ n = .dic lk kvs) (hk : (keyOf k).isSome = true) (hv : dGet kvs k = some v) : wpo (bSub' (.ref n) k S) Z = Z v S := by
  obtain ⟨κ, hκ⟩ := Option.isSome_iff_exists.mp hk
  have e : getD S n = some kvs := by unfold getD; rw [h]
  show wpo (match getD S n with
    | some kvs => (match keyOf k with
      | some _ => (match dGet kvs k with | some v => some (v, S) | none => none)
      | none => none)
    | none => bIdx (.ref n) k S) Z = _
  rw [e]; simp only; rw [hκ]; simp only; rw [hv]; rfl
theorem o_append (h : S.at_ n = .lst xs) (hl : xs.length < sizeLine) : wpo (mtAppend (.ref n) [v] S) Z = Z .non (S.set n (.lst (xs ++ [v]))) := by
  show wpo (match S.at_ n with
    | .lst xs => if xs.length < sizeLine then some (.non, S.set n (.lst (xs ++ [v]))) else none
    | _ => none) Z = _
  rw [h]; simp only; rw [if_pos hl]; rfl
theorem o_tyl (h : S.at_ n = .lst xs) : tyB "list" S (.ref n) = true := by
  show (match S.at_ n with | .lst _ => ("list" : String) == "list" | .ro _ => ("list" : String) == "list" | .dic false _ => ("list" : String) == "dict" | _ => false) = true
  rw [h]; rfl
/-- a list against [] -/
theorem toD_list {ds : List PyData} (h : S.at_ n = .lst xs) (hd : toDWs (lkN S 5) xs = some ds) : toD S (.ref n) = some (.list ds) := by
  show (match S.at_ n with | .lst xs => (toDWs (lkN S 5) xs).map PyData.list | .ro xs => (toDWs (lkN S 5) xs).map PyData.list | _ => none) = _
  rw [h]; simp only; rw [hd]; rfl
end
/-! ### isinstance of the built-in classes -/
def isTup : Vl → Bool
  | .tup _ => true
  | _ => false
def isStr : Vl → Bool
  | .str _ => true
  | _ => false
def isIntV : Vl → Bool
  | .int _ => true
  | .bl _ => true
  | _ => false
def isLst (S : Sto) : Vl → Bool
  | .ref n => (match S.at_ n with | .lst _ => true | .ro _ => true | _ => false)
  | _ => false
section
variable {S : Sto} {Z : Vl → Sto → Prop} {v : Vl} {t : String}
theorem ty_refs {n : Nat} (h : tyN S (.ref n) = some t) : (t = "list" ∧ isLst S (.ref n) = true) ∨ (t = "dict" ∧ isLst S (.ref n) = false) := by
  have h : (match S.at_ n with | .lst _ => some "list" | .ro _ => some "list" | .dic _ _ => some "dict" | _ => none) = some t := h
  have g : isLst S (.ref n) = (match S.at_ n with | .lst _ => true | .ro _ => true | _ => false) := rfl
  rw [g]
  cases e : S.at_ n with
  | lst _ => rw [e] at h; cases h; exact .inl ⟨rfl, rfl⟩
  | ro _ => rw [e] at h; cases h; exact .inl ⟨rfl, rfl⟩
  | dic _ _ => rw [e] at h; cases h; exact .inr ⟨rfl, rfl⟩
  | non => rw [e] at h; cases h
  | ins _ _ => rw [e] at h; cases h
theorem o_isTup (h : tyN S v = some t) : wpo (bIsi [v, .ty "tuple"] S) Z = Z (.bl (isTup v)) S := by
  rw [o_isi h (b := "tuple")]
  have e : isT t "tuple" = isTup v := by
    cases v with
    | ref n =>
      show isT t "tuple" = false
      rcases ty_refs h with ⟨rfl, _⟩ | ⟨rfl, _⟩ <;> decide
    | gl _ => cases h
    | ty _ => cases h
    | exc _ _ _ => cases h
    | _ => cases h; first | decide | rfl
  rw [e]
theorem o_isStr (h : tyN S v = some t) : wpo (bIsi [v, .ty "str"] S) Z = Z (.bl (isStr v)) S := by
  rw [o_isi h (b := "str")]
  have e : isT t "str" = isStr v := by
    cases v with
    | ref n =>
      show isT t "str" = false
      rcases ty_refs h with ⟨rfl, _⟩ | ⟨rfl, _⟩ <;> decide
    | gl _ => cases h
    | ty _ => cases h
    | exc _ _ _ => cases h
    | _ => cases h; first | decide | rfl
  rw [e]
theorem o_isInt (h : tyN S v = some t) : wpo (bIsi [v, .ty "int"] S) Z = Z (.bl (isIntV v)) S := by
  rw [o_isi h (b := "int")]
  have e : isT t "int" = isIntV v := by
    cases v with
    | ref n =>
      show isT t "int" = false
      rcases ty_refs h with ⟨rfl, _⟩ | ⟨rfl, _⟩ <;> decide
    | gl _ => cases h
    | ty _ => cases h
    | exc _ _ _ => cases h
    | _ => cases h; first | decide | rfl
  rw [e]
end
end Q

set_option linter.all false
set_option maxRecDepth 100000
set_option maxHeartbeats 400000
namespace Q
open PySem PySem.Spec PyProof.Rows L2

/-! ### data: lists of the store from lo on, read k deep -/
mutual
inductive Dat (lo : Nat) (S : Sto) : Nat → Vl → PyData → Prop
  | non {k : Nat} : Dat lo S k .non .none
  | bl {k : Nat} (b : Bool) : Dat lo S k (.bl b) (.bool b)
  | int {k : Nat} (i : Int) : Dat lo S k (.int i) (.int i)
  | str {k : Nat} (x : Str) : x.cps.all (· < 0x110000) = true → Dat lo S k (.str x) (.str x)
  | tup {k : Nat} {xs : List Vl} {ds : List PyData} : DatAll lo S k xs ds → Dat lo S k (.tup xs) (.tuple ds)
  | lst {k n : Nat} {xs : List Vl} {ds : List PyData} : lo ≤ n → n < S.n → S.at_ n = .lst xs → DatAll lo S k xs ds → Dat lo S (k + 1) (.ref n) (.list ds)
inductive DatAll (lo : Nat) (S : Sto) : Nat → List Vl → List PyData → Prop
  | nil {k : Nat} : DatAll lo S k [] []
  | cons {k : Nat} {x : Vl} {d : PyData} {xs : List Vl} {ds : List PyData} : Dat lo S k x d → DatAll lo S k xs ds → DatAll lo S k (x :: xs) (d :: ds)
end
/-- the store grows; from lo on it stays -/
structure Gr (lo : Nat) (S S' : Sto) : Prop where
  n : S.n ≤ S'.n
  at_ : ∀ i, lo ≤ i → i < S.n → S'.at_ i = S.at_ i
section
variable {lo : Nat} {S S' S2 : Sto}
theorem Gr.refl : Gr lo S S := ⟨Nat.le_refl _, fun _ _ _ => rfl⟩
theorem Gr.trans (a : Gr lo S S') (b : Gr lo S' S2) : Gr lo S S2 := ⟨Nat.le_trans a.n b.n, fun i h1 h2 => (b.at_ i h1 (Nat.lt_of_lt_of_le h2 a.n)).trans (a.at_ i h1 h2)⟩
theorem Gr.push {o : Ob} : Gr lo S (S.push o) := ⟨Nat.le_succ _, fun i _ h => push_lt h⟩
theorem Gr.set_new {S0 : Sto} {k : Nat} {o : Ob} (g : Gr lo S0 S) (h : S0.n ≤ k) : Gr lo S0 (S.set k o) := ⟨g.n, fun i h1 h2 => by rw [set_ne (by omega)]; exact g.at_ i h1 h2⟩
theorem Gr.set_low {S0 : Sto} {k : Nat} {o : Ob} (g : Gr lo S0 S) (h : k < lo) : Gr lo S0 (S.set k o) := ⟨g.n, fun i h1 h2 => by rw [set_ne (by omega)]; exact g.at_ i h1 h2⟩
theorem Gr.up {hi : Nat} (g : Gr lo S S') (h : lo ≤ hi) : Gr hi S S' := ⟨g.n, fun i h1 h2 => g.at_ i (Nat.le_trans h h1) h2⟩
mutual
theorem Dat.gr (g : Gr lo S S') : ∀ {k : Nat} {v : Vl} {d : PyData}, Dat lo S k v d → Dat lo S' k v d
  | _, _, _, .non => .non
  | _, _, _, .bl b => .bl b
  | _, _, _, .int b => .int b
  | _, _, _, .str b h => .str b h
  | _, _, _, .tup h => .tup (DatAll.gr g h)
  | _, _, _, .lst h1 h2 h3 h4 => .lst h1 (Nat.lt_of_lt_of_le h2 g.n) ((g.at_ _ h1 h2).trans h3) (DatAll.gr g h4)
theorem DatAll.gr (g : Gr lo S S') : ∀ {k : Nat} {v : List Vl} {d : List PyData}, DatAll lo S k v d → DatAll lo S' k v d
  | _, _, _, .nil => .nil
  | _, _, _, .cons h t => .cons (Dat.gr g h) (DatAll.gr g t)
end
mutual
theorem Dat.toDW : ∀ {k : Nat} {v : Vl} {d : PyData}, Dat lo S k v d → Q.toDW (lkN S k) v = some d
  | _, _, _, .non => rfl
  | _, _, _, .bl b => rfl
  | _, _, _, .int b => rfl
  | _, _, _, .str b _ => rfl
  | _, _, _, .tup h => by unfold Q.toDW; rw [DatAll.toDWs h]; rfl
  | k + 1, _, _, .lst (n := n) h1 h2 h3 h4 => by
    show lkN S (k + 1) n = _
    unfold lkN
    rw [h3]; simp only; rw [DatAll.toDWs h4]; rfl
theorem DatAll.toDWs : ∀ {k : Nat} {v : List Vl} {d : List PyData}, DatAll lo S k v d → Q.toDWs (lkN S k) v = some d
  | _, _, _, .nil => rfl
  | _, _, _, .cons h t => by unfold Q.toDWs; rw [Dat.toDW h, DatAll.toDWs t]
end
mutual
theorem Dat.lay : ∀ {k : Nat} {v : Vl} {d : PyData}, Dat lo S k v d → d.canLay0 = true
  | _, _, _, .non => rfl
  | _, _, _, .bl b => rfl
  | _, _, _, .int b => rfl
  | _, _, _, .str b h => h
  | _, _, _, .tup h => by show PyData.canLayAll0 _ = true; exact DatAll.lay h
  | _, _, _, .lst _ _ _ h => by show PyData.canLayAll0 _ = true; exact DatAll.lay h
theorem DatAll.lay : ∀ {k : Nat} {v : List Vl} {d : List PyData}, DatAll lo S k v d → PyData.canLayAll0 d = true
  | _, _, _, .nil => rfl
  | _, _, _, .cons h t => by show (PyData.canLay0 _ && PyData.canLayAll0 _) = true; rw [Dat.lay h, DatAll.lay t]; rfl
end
theorem Dat.ty {k : Nat} {v : Vl} {d : PyData} (h : Dat lo S k v d) : ∃ t, tyN S v = some t := by
  cases h with
  | lst h1 h2 h3 h4 => exact ⟨"list", by show (match S.at_ _ with | .lst _ => some "list" | .ro _ => some "list" | .dic _ _ => some "dict" | _ => none) = _; rw [h3]⟩
  | _ => exact ⟨_, rfl⟩
theorem DatAll.mem {k : Nat} : ∀ {xs : List Vl} {ds : List PyData}, DatAll lo S k xs ds → ∀ x ∈ xs, ∃ d, Dat lo S k x d
  | _, _, .nil, x, hx => by cases hx
  | _, _, .cons h t, x, hx => by
    rcases List.mem_cons.mp hx with e | e
    · subst e; exact ⟨_, h⟩
    · exact t.mem x e
theorem datAll_of {k : Nat} : ∀ {xs : List Vl}, (∀ x ∈ xs, ∃ d, Dat lo S k x d) → ∃ ds, DatAll lo S k xs ds
  | [], _ => ⟨[], .nil⟩
  | x :: xs, h => by
    obtain ⟨d, hd⟩ := h x List.mem_cons_self
    obtain ⟨ds, hs⟩ := datAll_of fun y hy => h y (List.mem_cons_of_mem _ hy)
    exact ⟨d :: ds, .cons hd hs⟩
theorem DatAll.append {k : Nat} : ∀ {xs ys : List Vl} {ds es : List PyData}, DatAll lo S k xs ds → DatAll lo S k ys es → DatAll lo S k (xs ++ ys) (ds ++ es)
  | _, _, _, _, .nil, h => h
  | _, _, _, _, .cons h t, k => .cons h (t.append k)
theorem DatAll.length {k : Nat} : ∀ {xs : List Vl} {ds : List PyData}, DatAll lo S k xs ds → ds.length = xs.length
  | _, _, .nil => rfl
  | _, _, .cons _ t => by simp [t.length]
/-- a list against a list that is empty -/
theorem o_neNil {n m : Nat} {xs : List Vl} {Z : Vl → Sto → Prop} (h1 : S.at_ n = .lst xs) (hx : ∀ x ∈ xs, ∃ d, Dat lo S 5 x d) (h2 : S.at_ m = .lst []) : wpo (bNe (.ref n) (.ref m) S) Z = Z (.bl (!xs.isEmpty)) S := by
  obtain ⟨ds, hd⟩ := datAll_of hx
  rw [o_ned (d := .list ds) (e := .list []) (toD_list h1 hd.toDWs) (toD_list h2 rfl) (fun ⟨x, y, e, _⟩ => by cases e) (show PyData.canLayAll0 ds = true from hd.lay) rfl (Nat.le_trans (Nat.min_le_right _ _) (by decide))]
  cases hd with
  | nil => rfl
  | cons _ _ => rfl
theorem o_eqNil {n m : Nat} {xs : List Vl} {Z : Vl → Sto → Prop} (h1 : S.at_ n = .lst xs) (hx : ∀ x ∈ xs, ∃ d, Dat lo S 5 x d) (h2 : S.at_ m = .lst []) : wpo (bEq (.ref n) (.ref m) S) Z = Z (.bl xs.isEmpty) S := by
  obtain ⟨ds, hd⟩ := datAll_of hx
  rw [o_eqd (d := .list ds) (e := .list []) (toD_list h1 hd.toDWs) (toD_list h2 rfl) (fun ⟨x, y, e, _⟩ => by cases e) (show PyData.canLayAll0 ds = true from hd.lay) rfl (Nat.le_trans (Nat.min_le_right _ _) (by decide))]
  cases hd with
  | nil => rfl
  | cons _ _ => rfl
end
end Q

set_option linter.all false
set_option maxRecDepth 100000
set_option maxHeartbeats 400000
namespace Q
open PySem PySem.Spec PyProof.Rows L2

/-! ### what is wanted of a comprehension, of the functions on lists -/
theorem lcN_mono {nx : Nxt} {t : Tg} {c : En → M Bool} {f : En → M Vl} {D : Nat} {ρ : En} : ∀ {n i : Nat} {S : Sto} {r : Sto}, lcN nx t c f D ρ n i S = some r → ∀ m, n ≤ m → lcN nx t c f D ρ m i S = some r
  | 0, _, _, _, h, _, _ => by cases h
  | n + 1, i, S, r, h, 0, hm => by omega
  | n + 1, i, S, r, h, m + 1, hm => by
    unfold lcN at h ⊢
    cases e : nx i S with
    | none => rw [e] at h; cases h
    | some o =>
      rw [e] at h
      cases o with
      | none => exact h
      | some v =>
        simp only at h ⊢
        cases e1 : t.run v ρ with
        | none => rw [e1] at h; cases h
        | some ρ1 =>
          rw [e1] at h
          simp only at h ⊢
          cases e2 : c ρ1 S with
          | none => rw [e2] at h; cases h
          | some p =>
            obtain ⟨q, S1⟩ := p
            rw [e2] at h
            cases q with
            | exc _ _ _ => cases h
            | ok b =>
              cases b with
              | false => exact lcN_mono (n := n) h m (by omega)
              | true =>
                simp only at h ⊢
                cases e3 : f ρ1 S1 with
                | none => rw [e3] at h; cases h
                | some p3 =>
                  obtain ⟨q3, S2⟩ := p3
                  rw [e3] at h
                  cases q3 with
                  | exc _ _ _ => cases h
                  | ok y =>
                    simp only at h ⊢
                    cases e4 : S2.at_ D with
                    | lst acc =>
                      rw [e4] at h
                      simp only at h ⊢
                      by_cases hz : acc.length < sizeLine
                      · rw [if_pos hz] at h ⊢; exact lcN_mono (n := n) h m (by omega)
                      · rw [if_neg hz] at h; cases h
                    | _ => rw [e4] at h; cases h
theorem w_lcN {nx : Nxt} {t : Tg} {c : En → M Bool} {f : En → M Vl} {D : Nat} {ρ : En} {Z : Sto → Prop} (xs : List Vl) (J : Nat → List Vl → Sto → Prop) (hn : ∀ i acc S, i ≤ xs.length → J i acc S → nx i S = some xs[i]?)
    (step : ∀ i x acc S, xs[i]? = some x → J i acc S → ∃ ρ1, t.run x ρ = some ρ1 ∧ wpe (c ρ1 S) noE fun b S2 => if b = true then wpe (f ρ1 S2) noE fun y S3 => S3.at_ D = .lst acc ∧ acc.length < sizeLine ∧ J (i + 1) (acc ++ [y]) (S3.set D (.lst (acc ++ [y]))) else J (i + 1) acc S2)
    (done : ∀ acc S, J xs.length acc S → Z S) : ∀ (k i : Nat) {acc : List Vl} {S : Sto}, i + k = xs.length → J i acc S → ∃ S', lcN nx t c f D ρ (k + 1) i S = some S' ∧ Z S'
  | 0, i, acc, S, hi, h => by
    unfold lcN
    rw [hn i acc S (by omega) h, List.getElem?_eq_none (by omega)]
    have e : i = xs.length := by omega
    rw [e] at h
    exact ⟨S, rfl, done acc S h⟩
  | k + 1, i, acc, S, hi, h => by
    unfold lcN
    have hx : xs[i]? = some xs[i] := List.getElem?_eq_getElem (by omega)
    obtain ⟨ρ1, h1, q⟩ := step i _ acc S hx h
    rw [hn i acc S (by omega) h, hx]
    simp only
    rw [h1]
    simp only
    cases e2 : c ρ1 S with
    | none => rw [e2] at q; exact q.elim
    | some p =>
      obtain ⟨r, S1⟩ := p
      rw [e2] at q
      cases r with
      | exc _ _ _ => exact q.elim
      | ok b =>
        cases b with
        | false => exact w_lcN xs J hn step done k (i + 1) (by omega) (show J (i + 1) acc S1 from q)
        | true =>
          have q : wpe (f ρ1 S1) _ _ := q
          simp only
          cases e3 : f ρ1 S1 with
          | none => rw [e3] at q; exact q.elim
          | some p3 =>
            obtain ⟨r3, S2⟩ := p3
            rw [e3] at q
            cases r3 with
            | exc _ _ _ => exact q.elim
            | ok y =>
              obtain ⟨q1, q2, q3⟩ := (show S2.at_ D = .lst acc ∧ acc.length < sizeLine ∧ J (i + 1) (acc ++ [y]) (S2.set D (.lst (acc ++ [y]))) from q)
              simp only
              rw [q1]
              simp only
              rw [if_pos q2]
              exact w_lcN xs J hn step done k (i + 1) (by omega) q3
theorem w_lc {fi : En → M Nxt} {t : Tg} {c : En → M Bool} {f : En → M Vl} {vs : List Nat} {ρ : En} {S : Sto} {E : XP} {Z : Vl → Sto → Prop}
    (h : wpe (fi ρ S) E fun nx S1 => ∃ (xs : List Vl) (J : Nat → List Vl → Sto → Prop), J 0 [] (S1.push (.lst [])) ∧ (∀ i acc S, i ≤ xs.length → J i acc S → nx i S = some xs[i]?) ∧
      (∀ i x acc S, xs[i]? = some x → J i acc S → ∃ ρ1, t.run x (wipeE ρ vs) = some ρ1 ∧ wpe (c ρ1 S) noE fun b S2 => if b = true then wpe (f ρ1 S2) noE fun y S3 => S3.at_ S1.n = .lst acc ∧ acc.length < sizeLine ∧ J (i + 1) (acc ++ [y]) (S3.set S1.n (.lst (acc ++ [y]))) else J (i + 1) acc S2) ∧
      ∀ acc S, J xs.length acc S → Z (.ref S1.n) S) : wpe (mLc fi t c f vs ρ S) E Z := by
  unfold mLc
  cases e : fi ρ S with
  | none => rw [e] at h; exact h.elim
  | some p =>
    obtain ⟨r, S1⟩ := p
    rw [e] at h
    cases r with
    | exc c g v => exact h
    | ok nx =>
      obtain ⟨xs, J, h0, hn, step, done⟩ := h
      obtain ⟨S', e1, hz⟩ := w_lcN (Z := fun S' => Z (.ref S1.n) S') xs J hn step (fun acc S q => done acc S q) xs.length 0 (by omega) h0
      have e2 : lim (fun n => lcN nx t c f S1.n (wipeE ρ vs) n 0 (S1.push (.lst []))) = some S' := lim_is e1 (det_of_mono fun n r e m hm => lcN_mono e m hm)
      simp only
      rw [e2]
      exact hz
section
variable {S : Sto} {n : Nat} {xs : List Vl} {ns : List Int} {bs : List Bool} {Z : Vl → Sto → Prop}
theorem getR_l (h : S.at_ n = .lst xs) : getR S n = some xs := by unfold getR; rw [h]
theorem getR_r (h : S.at_ n = .ro xs) : getR S n = some xs := by unfold getR; rw [h]
theorem asInts_map : ∀ ns : List Int, asInts (ns.map Vl.int) = some ns
  | [] => rfl
  | n :: ns => by show (asInts (ns.map Vl.int)).map (n :: ·) = _; rw [asInts_map ns]; rfl
theorem asBls_map : ∀ ns : List Bool, asBls (ns.map Vl.bl) = some ns
  | [] => rfl
  | n :: ns => by show (asBls (ns.map Vl.bl)).map (n :: ·) = _; rw [asBls_map ns]; rfl
theorem o_tuple (h : getR S n = some xs) : wpo (bTuple [.ref n] S) Z = Z (.tup xs) S := by
  show wpo (match getR S n with | some xs => some (.tup xs, S) | none => none) Z = _
  rw [h]; rfl
theorem o_listt : wpo (bList [.tup xs] S) Z = Z (.ref S.n) (S.push (.lst xs)) := rfl
theorem o_all (h : getR S n = some (bs.map Vl.bl)) : wpo (bAll [.ref n] S) Z = Z (.bl (bs.all id)) S := by
  show wpo (match (getR S n).bind asBls with | some bs => some (.bl (bs.all id), S) | none => none) Z = _
  rw [h, Option.bind_some, asBls_map]; rfl
/-- iteration -/
theorem w_it {f : En → M Vl} {ρ : En} {E : XP} {Z : Nxt → Sto → Prop} : wpe (mIt f ρ S) E Z = wpe (f ρ S) E fun v S1 => (∃ xs, v = .tup xs ∧ Z (nxT xs) S1) ∨ (∃ n xs, v = .ref n ∧ getR S1 n = some xs ∧ Z (nxL n) S1) ∨ ∃ z, v = .str z ∧ Z (nxS z) S1 := by
  unfold mIt
  rw [w_bnd]
  congr 1; funext v S1; apply propext
  cases v with
  | tup xs => exact ⟨fun q => .inl ⟨xs, rfl, q⟩, fun q => by
      rcases q with ⟨_, e, q⟩ | ⟨_, _, e, _⟩ | ⟨_, e, _⟩
      · cases e; exact q
      · cases e
      · cases e⟩
  | str z => exact ⟨fun q => .inr (.inr ⟨z, rfl, q⟩), fun q => by
      rcases q with ⟨_, e, q⟩ | ⟨_, _, e, _⟩ | ⟨_, e, q⟩
      · cases e
      · cases e
      · cases e; exact q⟩
  | ref n =>
    show wpe (match getR S1 n with | some _ => some (.ok (nxL n), S1) | none => none) E Z ↔ _
    cases e : getR S1 n with
    | none => exact ⟨fun q => q.elim, fun q => by
        rcases q with ⟨_, e, q⟩ | ⟨_, _, e1, e2, _⟩ | ⟨_, e, _⟩
        · cases e
        · cases e1; rw [e] at e2; cases e2
        · cases e⟩
    | some xs => exact ⟨fun q => .inr (.inl ⟨n, xs, rfl, e, q⟩), fun q => by
        rcases q with ⟨_, e, q⟩ | ⟨_, _, e1, e2, q⟩ | ⟨_, e, _⟩
        · cases e
        · cases e1; exact q
        · cases e⟩
  | _ => exact ⟨fun q => q.elim, fun q => by
      rcases q with ⟨_, e, q⟩ | ⟨_, _, e, _⟩ | ⟨_, e, _⟩ <;> cases e⟩
theorem nxL_at {i : Nat} (h : getR S n = some xs) : nxL n i S = some xs[i]? := by
  unfold nxL; rw [h]; simp only
  cases xs[i]? <;> rfl
end

theorem w_true {ρ : En} {S : Sto} {E : XP} {Z : Bool → Sto → Prop} : wpe (mTrue ρ S) E Z = Z true S := rfl
theorem take_snoc {α : Type} {l : List α} {i : Nat} {x : α} (h : l[i]? = some x) : l.take (i + 1) = l.take i ++ [x] := by
  rw [List.take_add_one, h]; rfl
/-- [f(x) for x in xs], nothing that stands is changed -/
theorem w_lcmap {fi : En → M Nxt} {t : Tg} {c : En → M Bool} {f : En → M Vl} {vs : List Nat} {ρ : En} {S : Sto} {E : XP} {Z : Vl → Sto → Prop}
    (h : wpe (fi ρ S) E fun nx S1 => ∃ xs ys : List Vl, ys.length = xs.length ∧ xs.length ≤ 1000000 ∧ (∀ (i : Nat) (S2 : Sto), i ≤ xs.length → Gr 0 S1 S2 → nx i S2 = some xs[i]?) ∧
      (∀ (i : Nat) (x y : Vl) (S2 : Sto), xs[i]? = some x → ys[i]? = some y → Gr 0 S1 S2 → ∃ ρ1, t.run x (wipeE ρ vs) = some ρ1 ∧ wpe (c ρ1 S2) noE fun b S3 => b = true ∧ Gr 0 S2 S3 ∧ wpe (f ρ1 S3) noE fun y' S4 => y' = y ∧ Gr 0 S3 S4) ∧
      ∀ S2, Gr 0 S1 S2 → S1.n < S2.n → S2.at_ S1.n = .lst ys → Z (.ref S1.n) S2) : wpe (mLc fi t c f vs ρ S) E Z := by
  refine w_lc (wpe_mono h (fun nx S1 q => ?_) fun _ _ _ _ z => z)
  obtain ⟨xs, ys, hl, hb, hn, step, done⟩ := q
  refine ⟨xs, fun i acc S2 => acc = ys.take i ∧ S2.at_ S1.n = .lst acc ∧ S1.n < S2.n ∧ Gr 0 S1 S2, ⟨rfl, push_same, Nat.lt_succ_self _, Gr.push⟩, fun i acc S2 hi q => hn i S2 hi q.2.2.2, fun i x acc S2 hx q => ?_, fun acc S2 q => ?_⟩
  · obtain ⟨rfl, q1, q2, q3⟩ := q
    have hlt : i < xs.length := by
      rw [List.getElem?_eq_some_iff] at hx; exact hx.1
    have hy : ys[i]? = some ys[i] := List.getElem?_eq_getElem (by omega)
    obtain ⟨ρ1, h1, h2⟩ := step i x _ S2 hx hy q3
    refine ⟨ρ1, h1, wpe_mono h2 (fun b S3 z => ?_) fun _ _ _ _ z => z⟩
    obtain ⟨rfl, g3, h3⟩ := z
    simp only [if_true]
    refine wpe_mono h3 (fun y' S4 z => ?_) fun _ _ _ _ z => z
    obtain ⟨rfl, g4⟩ := z
    have at4 : S4.at_ S1.n = .lst (ys.take i) := by
      rw [g4.at_ _ (Nat.zero_le _) (Nat.lt_of_lt_of_le q2 g3.n), g3.at_ _ (Nat.zero_le _) q2]; exact q1
    refine ⟨at4, ?_, by rw [take_snoc hy], set_same, Nat.lt_of_lt_of_le q2 (Nat.le_trans g3.n g4.n), ((q3.trans g3).trans g4).set_new (Nat.le_refl _)⟩
    rw [List.length_take, show sizeLine = 16777216 from rfl]; omega
  · obtain ⟨rfl, q1, q2, q3⟩ := q
    rw [← hl, List.take_length] at q1
    exact done S2 q3 q2 q1
section
variable {S : Sto} {n : Nat} {xs : List Vl} {Z : Vl → Sto → Prop} {E : XP} {ρ : En}
theorem w_rev {f : En → M Vl} : wpe (mRev f ρ S) E Z = wpe (f ρ S) E fun v S1 => wpo (bRev v S1) Z := by
  unfold mRev; simp only [w_bnd, w_lift]
theorem w_sl {f : En → M Vl} {fl fh : En → M (Option Int)} : wpe (mSl f fl fh ρ S) E Z = wpe (f ρ S) E fun v S1 => wpe (fl ρ S1) E fun lo S2 => wpe (fh ρ S2) E fun hi S3 => wpo (bSl v lo hi S3) Z := by
  unfold mSl; simp only [w_bnd, w_lift]
theorem w_none' {Z : Option Int → Sto → Prop} : wpe (oNone ρ S) E Z = Z none S := rfl
theorem w_some' {f : En → M Vl} {Z : Option Int → Sto → Prop} : wpe (oSome f ρ S) E Z = wpe (f ρ S) E fun v S1 => ∃ i, v = .int i ∧ Z (some i) S1 := by
  unfold oSome; simp only [w_bnd]
  congr 1; funext v S1; apply propext
  cases v with
  | int i => exact ⟨fun q => ⟨i, rfl, q⟩, fun ⟨j, e, q⟩ => by cases e; exact q⟩
  | _ => exact ⟨fun q => q.elim, fun ⟨j, e, _⟩ => by cases e⟩
theorem w_neg {f : En → M Vl} : wpe (mNeg f ρ S) E Z = wpe (f ρ S) E fun v S1 => ∃ i, v = .int i ∧ Z (.int (-i)) S1 := by
  unfold mNeg; simp only [w_bnd]
  congr 1; funext v S1; apply propext
  cases v with
  | int i => exact ⟨fun q => ⟨i, rfl, q⟩, fun ⟨j, e, q⟩ => by cases e; exact q⟩
  | _ => exact ⟨fun q => q.elim, fun ⟨j, e, _⟩ => by cases e⟩
theorem o_revt : wpo (bRev (.tup xs) S) Z = Z (.tup xs.reverse) S := rfl
theorem o_slt {lo hi : Option Int} : wpo (bSl (.tup xs) lo hi S) Z = Z (.tup (cutL xs lo hi)) S := rfl
theorem o_sll {lo hi : Option Int} (h : getR S n = some xs) : wpo (bSl (.ref n) lo hi S) Z = Z (.ref S.n) (S.push (.lst (cutL xs lo hi))) := by
  show wpo (match getR S n with | some xs => some (.ref S.n, S.push (.lst (cutL xs lo hi))) | none => none) Z = _
  rw [h]; rfl
theorem o_eqUnit {lo : Nat} {d : PyData} (h : Dat lo S 6 (.tup xs) d) : wpo (bEq (.tup xs) (.tup []) S) Z = Z (.bl xs.isEmpty) S := by
  rw [o_eqd (d := d) (e := .tuple []) h.toDW rfl (fun ⟨x, y, e, _⟩ => by cases e) h.lay rfl (Nat.le_trans (Nat.min_le_right _ _) (by decide))]
  cases h with
  | tup h => cases h <;> rfl
theorem o_neUnit {lo : Nat} {d : PyData} (h : Dat lo S 6 (.tup xs) d) : wpo (bNe (.tup xs) (.tup []) S) Z = Z (.bl (!xs.isEmpty)) S := by
  rw [o_ned (d := d) (e := .tuple []) h.toDW rfl (fun ⟨x, y, e, _⟩ => by cases e) h.lay rfl (Nat.le_trans (Nat.min_le_right _ _) (by decide))]
  cases h with
  | tup h => cases h <;> rfl
theorem o_isbl {b c : Bool} : wpo (bIs false (.bl b) (.bl c) S) Z = Z (.bl (decide (b = c))) S := rfl
theorem o_ge {i j : Int} : wpo (bGe (.int i) (.int j) S) Z = Z (.bl (decide (j ≤ i))) S := rfl
end
end Q

set_option linter.all false
set_option maxRecDepth 100000
set_option maxHeartbeats 400000
namespace Q
open PySem PySem.Spec PyProof.Rows L2

/-! ### the draws' state -/
def stD (g c : Nat) (r t : Int) : List (Vl × Vl) := [(.str "great", .ref g), (.str "cells", .ref c), (.str "rest", .int r), (.str "turn", .int t)]
theorem get_great {g c : Nat} {r t : Int} : dGet (stD g c r t) (.str "great") = some (.ref g) := by kernel_rfl
theorem get_cells {g c : Nat} {r t : Int} : dGet (stD g c r t) (.str "cells") = some (.ref c) := by kernel_rfl
theorem get_rest {g c : Nat} {r t : Int} : dGet (stD g c r t) (.str "rest") = some (.int r) := by kernel_rfl
theorem get_turn {g c : Nat} {r t : Int} : dGet (stD g c r t) (.str "turn") = some (.int t) := by kernel_rfl
theorem put_rest {g c : Nat} {r t x : Int} : dPut (stD g c r t) (.str "rest") (.int x) = stD g c x t := by kernel_rfl
theorem put_turn {g c : Nat} {r t x : Int} : dPut (stD g c r t) (.str "turn") (.int x) = stD g c r x := by kernel_rfl
/-- the state at d; its lists at g, c; all below lo; at most T drawn anew -/
structure St (lo d g c T : Nat) (S : Sto) : Prop where
  d_ : ∃ r t : Int, S.at_ d = .dic false (stD g c r t) ∧ 0 ≤ t ∧ t ≤ T
  g_ : ∃ gs : List Int, S.at_ g = .lst (gs.map Vl.int)
  c_ : ∃ cs : List Int, S.at_ c = .lst (cs.map Vl.int)
  dg : d ≠ g
  dc : d ≠ c
  gc : g ≠ c
  dl : d < lo
  gl : g < lo
  cl : c < lo
  ln : lo ≤ S.n
section
variable {lo d g c T T' : Nat} {S S' : Sto}
theorem St.mono (s : St lo d g c T S) (h : T ≤ T') : St lo d g c T' S := by
  obtain ⟨⟨r, t, h1, h2, h3⟩, a, b, e1, e2, e3, e4, e5, e6, e7⟩ := s
  exact ⟨⟨r, t, h1, h2, by omega⟩, a, b, e1, e2, e3, e4, e5, e6, e7⟩
theorem St.gr (s : St lo d g c T S) (h : Gr 0 S S') : St lo d g c T S' := by
  obtain ⟨⟨r, t, h1, h2, h3⟩, ⟨gs, a⟩, ⟨cs, b⟩, e1, e2, e3, e4, e5, e6, e7⟩ := s
  exact ⟨⟨r, t, (h.at_ _ (Nat.zero_le _) (by omega)).trans h1, h2, h3⟩, ⟨gs, (h.at_ _ (Nat.zero_le _) (by omega)).trans a⟩, ⟨cs, (h.at_ _ (Nat.zero_le _) (by omega)).trans b⟩, e1, e2, e3, e4, e5, e6, Nat.le_trans e7 h.n⟩
theorem St.setD (s : St lo d g c T S) {r t : Int} (h1 : 0 ≤ t) (h2 : t ≤ T') : St lo d g c T' (S.set d (.dic false (stD g c r t))) := by
  obtain ⟨_, ⟨gs, a⟩, ⟨cs, b⟩, e1, e2, e3, e4, e5, e6, e7⟩ := s
  exact ⟨⟨r, t, set_same, h1, h2⟩, ⟨gs, (set_ne (Ne.symm e1)).trans a⟩, ⟨cs, (set_ne (Ne.symm e2)).trans b⟩, e1, e2, e3, e4, e5, e6, e7⟩
theorem St.setG (s : St lo d g c T S) {gs : List Int} : St lo d g c T (S.set g (.lst (gs.map Vl.int))) := by
  obtain ⟨⟨r, t, h1, h2, h3⟩, ⟨_, a⟩, ⟨cs, b⟩, e1, e2, e3, e4, e5, e6, e7⟩ := s
  exact ⟨⟨r, t, (set_ne e1).trans h1, h2, h3⟩, ⟨gs, set_same⟩, ⟨cs, (set_ne (Ne.symm e3)).trans b⟩, e1, e2, e3, e4, e5, e6, e7⟩
theorem o_get {k : Str} {r t : Int} {v : Vl} {Z : Vl → Sto → Prop} (h : S.at_ d = .dic false (stD g c r t)) (hv : dGet (stD g c r t) (.str k) = some v) : wpo (bSub' (.ref d) (.str k) S) Z = Z v S := o_key h rfl hv
theorem s_key {f : En → M Vl} {i : Nat} {k : Vl} {ρ : En} {D : End_} : wps (sAsg f (gSb (mSlot i) (mC k)) ρ S) D = wpe (f ρ S) D.ex fun v S1 => ∃ o, ρ[i]? = some (some o) ∧ match bSet o k v S1 with | some S2 => D.nx ρ S2 | none => False := by
  rw [s_asg]
  congr 1; funext v S1; apply propext
  unfold gSb
  cases e : ρ[i]? with
  | none =>
    have e1 : mSlot i ρ S1 = none := by unfold mSlot; rw [e]; rfl
    rw [e1]
    exact ⟨fun q => q.elim, fun ⟨o, e2, _⟩ => by cases e2⟩
  | some x =>
    cases x with
    | none =>
      have e1 : mSlot i ρ S1 = none := by unfold mSlot; rw [e]; rfl
      rw [e1]
      exact ⟨fun q => q.elim, fun ⟨o, e2, _⟩ => by cases e2⟩
    | some o =>
      have e1 : mSlot i ρ S1 = some (.ok o, S1) := by unfold mSlot; rw [e]; rfl
      rw [e1]
      show wpo (match bSet o k v S1 with | some S3 => some (ρ, S3) | none => none) D.nx ↔ _
      cases e2 : bSet o k v S1 with
      | none => exact ⟨fun q => q.elim, fun ⟨o', e3, q⟩ => by cases e3; rw [e2] at q; exact q⟩
      | some S2 => exact ⟨fun q => ⟨o, rfl, by rw [e2]; exact q⟩, fun ⟨o', e3, q⟩ => by cases e3; rw [e2] at q; exact q⟩
theorem set_key {k : Str} {v : Vl} {r t : Int} (h : S.at_ d = .dic false (stD g c r t)) : bSet (.ref d) (.str k) v S = some (S.set d (.dic false (dPut (stD g c r t) (.str k) v))) := by
  show (match S.at_ d with
    | .lst xs => _
    | .dic false kvs => (match keyOf (.str k) with
      | some _ => if kvs.length < sizeLine then some (S.set d (.dic false (dPut kvs (.str k) v))) else none
      | none => none)
    | _ => none) = _
  rw [h]
  rfl
theorem o_pop0 {n : Nat} {x : Vl} {xs : List Vl} {Z : Vl → Sto → Prop} (h : S.at_ n = .lst (x :: xs)) : wpo (mtPopAt (.ref n) [.int 0] S) Z = Z x (S.set n (.lst xs)) := by
  show wpo (match S.at_ n with
    | .lst xs => if -(2 ^ 63) ≤ (0 : Int) ∧ (0 : Int) < 2 ^ 63 then (match seqIndex? 0 xs.length with
      | some k => (match xs[k]? with | some v => some (v, S.set n (.lst (xs.eraseIdx k))) | none => none)
      | none => none) else none
    | _ => none) Z = _
  rw [h]
  have e : seqIndex? 0 (x :: xs).length = some 0 := by
    unfold seqIndex?
    simp
  simp only [e]
  rw [if_pos (by decide)]
  rfl
theorem dat_ints {k lo : Nat} {ns : List Int} : ∀ x ∈ ns.map Vl.int, ∃ d, Dat lo S k x d := fun x hx => by
  obtain ⟨i, _, rfl⟩ := List.mem_map.mp hx
  exact ⟨_, .int i⟩
end

theorem atI_at {α : Type} {xs : List α} {k : Nat} {v : α} (h : xs[k]? = some v) (hk : k < 2 ^ 62) : atI xs (k : Int) = some v := by
  have hl : k < xs.length := by rw [List.getElem?_eq_some_iff] at h; exact h.1
  unfold atI
  have e2 : seqIndex? (k : Int) xs.length = some k := by
    unfold seqIndex?
    have h1 : ¬ ((k : Int) < 0) := by omega
    simp only [h1, if_false]
    have h2 : (decide ((0 : Int) ≤ k) && decide ((k : Int) < xs.length)) = true := by simp; omega
    rw [if_pos h2]; simp
  have hb : -(2 ^ 63) ≤ (k : Int) ∧ (k : Int) < 2 ^ 63 := by constructor <;> omega
  have h9 : xs[k] = v := by rw [List.getElem?_eq_getElem hl] at h; exact Option.some.inj h
  simp [ixN, hb, e2, hl, h9]
theorem o_atl {S : Sto} {n k : Nat} {xs : List Vl} {v : Vl} {Z : Vl → Sto → Prop} (hr : getR S n = some xs) (h : xs[k]? = some v) (hk : k < 2 ^ 62) (hd : getD S n = none) : wpo (bSub' (.ref n) (.int k) S) Z = Z v S := by
  show wpo (match getD S n with
    | some kvs => (match keyOf (.int k) with
      | some _ => (match dGet kvs (.int k) with | some v => some (v, S) | none => none)
      | none => none)
    | none => bIdx (.ref n) (.int k) S) Z = _
  rw [hd]
  show wpo (match getR S n with
      | some xs => match atI xs (k : Int) with
        | some v => some (v, S)
        | none => none
      | none => none) Z = _
  rw [hr]; simp only; rw [atI_at h hk]; rfl
theorem w_itR1 {g : En → M (List Vl)} {ρ : En} {S : Sto} {E : XP} {Z : Nxt → Sto → Prop} : wpe (mItR1 g ρ S) E Z = wpe (g ρ S) E fun vs S1 => ∃ j, vs = [.int j] ∧ -(2 ^ 62) ≤ j ∧ j < 2 ^ 62 ∧ Z (nxR 0 j.toNat) S1 := by
  unfold mItR1
  rw [w_bnd]
  congr 1; funext vs S1; apply propext
  cases e : asI1 vs with
  | none =>
    refine ⟨fun q => q.elim, fun ⟨j, e2, _⟩ => ?_⟩
    rw [e2] at e; cases e
  | some j =>
    have ev := asI1_eq e
    subst ev
    by_cases h : -(2 ^ 62) ≤ j ∧ j < 2 ^ 62
    · simp only [if_pos h]; exact ⟨fun q => ⟨j, rfl, h.1, h.2, q⟩, fun ⟨k, e3, _, _, q⟩ => by cases e3; exact q⟩
    · simp only [if_neg h]; exact ⟨fun q => q.elim, fun ⟨k, e3, h1, h2, q⟩ => by cases e3; exact (h ⟨h1, h2⟩).elim⟩
def rng (n : Nat) : List Vl := (List.range n).map fun i : Nat => Vl.int (i : Int)
theorem rng_len {n : Nat} : (rng n).length = n := by unfold rng; rw [List.length_map, List.length_range]
theorem rng_at {n i : Nat} {S : Sto} : nxR 0 n i S = some (rng n)[i]? := by
  unfold nxR rng
  by_cases h : i < n
  · rw [if_pos h, List.getElem?_map, List.getElem?_range h]; simp
  · rw [if_neg h, List.getElem?_eq_none (by simpa using h)]
theorem rng_get {n i : Nat} {x : Vl} (h : (rng n)[i]? = some x) : x = .int (i : Int) ∧ i < n := by
  unfold rng at h
  rw [List.getElem?_map] at h
  by_cases hl : i < n
  · rw [List.getElem?_range hl] at h; cases h; exact ⟨rfl, hl⟩
  · rw [List.getElem?_eq_none (by simpa using hl)] at h; cases h
theorem w_pairs0 {ρ : En} {S : Sto} {E : XP} {Z : List (Vl × Vl) → Sto → Prop} : wpe (mPairs [] ρ S) E Z = Z [] S := rfl
theorem w_pairs {fk fv : En → M Vl} {r : List ((En → M Vl) × (En → M Vl))} {ρ : En} {S : Sto} {E : XP} {Z : List (Vl × Vl) → Sto → Prop} :
    wpe (mPairs ((fk, fv) :: r) ρ S) E Z = wpe (fk ρ S) E fun k S1 => wpe (fv ρ S1) E fun v S2 => wpe (mPairs r ρ S2) E fun ps S3 => Z ((k, v) :: ps) S3 := by
  show wpe (bnd (fk ρ) (fun k => bnd (fv ρ) fun v => bnd (mPairs r ρ) fun ps => ret ((k, v) :: ps)) S) E Z = _
  simp only [w_bnd, w_ret]
theorem w_disp {ms : List ((En → M Vl) × (En → M Vl))} {ρ : En} {S : Sto} {E : XP} {Z : Vl → Sto → Prop}
    (h : wpe (mPairs ms ρ (S.push (.dic false []))) E fun ps S2 => S2.at_ S.n = .dic false [] ∧ ps.length ≤ 15 ∧ (ps.all fun p => (keyOf p.1).isSome) = true ∧ Z (.ref S.n) (S2.set S.n (.dic false (mergeD [] ps)))) : wpe (mDisp ms ρ S) E Z := by
  unfold mDisp
  rw [w_bnd]
  refine wpe_mono h (fun ps S2 q => ?_) (fun _ _ _ _ z => z)
  obtain ⟨q1, q2, q3, q4⟩ := q
  rw [w_lift]
  show wpo (match S2.at_ S.n with
    | .dic false [] => if ps.length ≤ 15 ∧ (ps.all fun p => (keyOf p.1).isSome) = true then some (.ref S.n, S2.set S.n (.dic false (mergeD [] ps))) else none
    | _ => none) Z
  rw [q1]
  simp only [if_pos (And.intro q2 q3)]
  exact q4
theorem stD_merge {g c : Nat} {r t : Int} : mergeD [] [(.str "great", .ref g), (.str "cells", .ref c), (.str "rest", .int r), (.str "turn", .int t)] = stD g c r t := by kernel_rfl
theorem o_repr {S : Sto} {v : Vl} {d : PyData} {Z : Vl → Sto → Prop} (h : toD S v = some d) (c : d.showable = true ∧ d.shown.length ≤ sizeLine ∧ d.depth ≤ 190 ∧ d.hasDict = false) : wpo (bRepr [v] S) Z = Z (.str d.shown) S := by
  have e : reprOf S v = some d.shown := by unfold reprOf; rw [h]; simp only; rw [if_pos c]
  show wpo (match reprOf S v with | some z => some (.str z, S) | none => none) Z = _
  rw [e]; rfl
end Q

set_option linter.all false
set_option maxRecDepth 100000
set_option maxHeartbeats 400000
namespace Q
open PySem PySem.Spec PyProof.Rows L2

/-! ### wanted ends of the words of QX1 -/
section
variable {E : XP} {S : Sto} {ρ : En} {D : End_} {Z : Vl → Sto → Prop}
theorem w_chain {m1 m2 : Vl → Vl → MO Vl} {fa fb fc : En → M Vl} : wpe (mChain m1 m2 fa fb fc ρ S) E Z = wpe (fa ρ S) E fun x S1 => wpe (fb ρ S1) E fun y S2 => wpo (m1 x y S2) fun z S3 => ∃ b, z = .bl b ∧ if b = true then wpe (fc ρ S3) E fun w S4 => wpo (m2 y w S4) Z else Z (.bl false) S3 := by
  unfold mChain
  simp only [w_bnd, w_lift]
  congr 1; funext x S1; congr 1; funext y S2; congr 1; funext z S3; apply propext
  cases z with
  | bl b => exact ⟨fun q => ⟨b, rfl, by cases b with
                | true => rw [if_pos rfl]; simpa only [w_bnd, w_lift] using q
                | false => rw [if_neg (by decide)]; exact q⟩, fun ⟨c, e, q⟩ => by
                  cases e
                  cases b with
                  | true => rw [if_pos rfl] at q; simpa only [w_bnd, w_lift] using q
                  | false => rw [if_neg (by decide)] at q; exact q⟩
  | _ => exact ⟨fun q => q.elim, fun ⟨c, e, _⟩ => by cases e⟩
theorem w_notV {f : En → M Vl} : wpe (mNotV f ρ S) E Z = wpe (f ρ S) E fun v S1 => ∃ b, v = .bl b ∧ Z (.bl (!b)) S1 := by
  unfold mNotV; simp only [w_bnd]
  congr 1; funext v S1; apply propext
  cases v with
  | bl b => exact ⟨fun q => ⟨b, rfl, q⟩, fun ⟨c, e, q⟩ => by cases e; exact q⟩
  | _ => exact ⟨fun q => q.elim, fun ⟨c, e, _⟩ => by cases e⟩
theorem w_listR {f : En → M Vl} : (wpe (f ρ S) E fun v S1 => ∃ n : Nat, v = .int n ∧ n ≤ 1000000 ∧ Z (.ref S1.n) (S1.push (.lst (rng n)))) → wpe (mListR f ρ S) E Z := fun h => by
  unfold mListR
  rw [w_bnd]
  refine wpe_mono h (fun v S1 q => ?_) (fun _ _ _ _ z => z)
  obtain ⟨n, rfl, h1, h2⟩ := q
  simp only
  rw [if_pos (by omega)]
  have e : rngZ (n : Int) = rng n := by
    unfold rngZ rng
    simp
  rw [e]
  exact h2
theorem s_asg2 {f : En → M Vl} {i j : Nat} (h : wpe (f ρ S) D.ex fun v S1 => ∃ x y, v = .tup [x, y] ∧ D.nx ((ρ.set i (some x)).set j (some y)) S1) : wps (sAsg f (gTp ((gNm i) :: ((gNm j) :: []))) ρ S) D := by
  rw [s_asg]
  refine wpe_mono h (fun v S1 q => ?_) (fun _ _ _ _ z => z)
  obtain ⟨x, y, rfl, q⟩ := q
  exact q
end
/-- all stands but the object at f -/
structure GrX (f : Nat) (S S' : Sto) : Prop where
  n : S.n ≤ S'.n
  at_ : ∀ k, k < S.n → k ≠ f → S'.at_ k = S.at_ k
section
variable {f : Nat} {S S' S2 : Sto}
theorem GrX.refl : GrX f S S := ⟨Nat.le_refl _, fun _ _ _ => rfl⟩
theorem GrX.trans (a : GrX f S S') (b : GrX f S' S2) : GrX f S S2 := ⟨Nat.le_trans a.n b.n, fun k h1 h2 => (b.at_ k (Nat.lt_of_lt_of_le h1 a.n) h2).trans (a.at_ k h1 h2)⟩
theorem GrX.of (g : Gr 0 S S') : GrX f S S' := ⟨g.n, fun k h _ => g.at_ k (Nat.zero_le _) h⟩
theorem GrX.set {o : Ob} (g : GrX f S S') : GrX f S (S'.set f o) := ⟨g.n, fun k h1 h2 => by rw [set_ne h2]; exact g.at_ k h1 h2⟩
theorem GrX.set_new {k : Nat} {o : Ob} (g : GrX f S S') (h : S.n ≤ k) : GrX f S (S'.set k o) := ⟨g.n, fun j h1 h2 => by rw [set_ne (by omega)]; exact g.at_ j h1 h2⟩
end
end Q

set_option linter.all false
set_option maxRecDepth 100000
set_option maxHeartbeats 3200000
namespace Q
open PySem PySem.Spec PyProof.Rows L2

/-! ### set(xs) of texts, told by its length -/
/-- the texts in the order of their first standing -/
def dst (xs : List Str) : List Str := xs.foldl (fun σ k => if σ.any (· == k) then σ else σ ++ [k]) []
theorem dst_snoc (xs : List Str) (k : Str) : dst (xs ++ [k]) = if (dst xs).any (· == k) then dst xs else dst xs ++ [k] := by
  unfold dst; rw [List.foldl_append]; rfl
theorem dst_len : ∀ n : Nat, ∀ xs : List Str, xs.length = n → (dst xs).length ≤ n := by
  intro n
  induction n with
  | zero => intro xs h; rw [List.length_eq_zero_iff.mp h]; exact Nat.le_refl _
  | succ n ih =>
    intro xs h
    obtain ⟨ys, y, rfl⟩ : ∃ ys y, xs = ys ++ [y] := by
      rcases List.eq_nil_or_concat xs with e | ⟨ys, y, e⟩
      · rw [e] at h; cases h
      · exact ⟨ys, y, by rw [e]; simp⟩
    have := ih ys (by simpa using h)
    rw [dst_snoc]
    split
    · omega
    · rw [List.length_append, List.length_singleton]; omega
end Q

set_option linter.all false
set_option maxRecDepth 100000
set_option maxHeartbeats 400000
namespace Q
open PySem PySem.Spec PyProof.Rows L2

/-! ### sorted(xs) of texts -/
def geS (a b : Str) : Bool := !ltCps b.cps.toList a.cps.toList
theorem geS_iff {a b : Str} : geS a b = true ↔ a.cps.toList ≤ b.cps.toList := by
  unfold geS
  rw [ltCps_eq]
  simp
theorem geS_trans {a b c : Str} (h : geS a b = true) (k : geS b c = true) : geS a c = true := geS_iff.mpr (List.le_trans (geS_iff.mp h) (geS_iff.mp k))
theorem geS_total (a b : Str) : (geS a b || geS b a) = true := by
  rcases List.le_total a.cps.toList b.cps.toList with h | h
  · rw [geS_iff.mpr h]; rfl
  · rw [geS_iff.mpr h, Bool.or_true]
theorem geS_anti {a b : Str} (h : geS a b = true) (k : geS b a = true) : a = b := by
  have e := List.le_antisymm (geS_iff.mp h) (geS_iff.mp k)
  obtain ⟨⟨x⟩⟩ := a
  obtain ⟨⟨y⟩⟩ := b
  simp only at e
  rw [e]
theorem rising_pw : ∀ (xs : List Str) (p : Str), risingS p xs = true → (p :: xs).Pairwise fun a b => geS a b = true
  | [], p, _ => by simp
  | x :: r, p, h => by
    have h2 : geS p x = true ∧ risingS x r = true := by
      have h3 : (geS p x && risingS x r) = true := h
      simpa using h3
    have ih := rising_pw r x h2.2
    rw [List.pairwise_cons]
    refine ⟨fun y hy => ?_, ih⟩
    rcases List.mem_cons.mp hy with e | hy
    · rw [e]; exact h2.1
    · exact geS_trans h2.1 ((List.pairwise_cons.mp ih).1 y hy)
theorem sortedS_pw {xs : List Str} (h : sortedS xs = true) : xs.Pairwise fun a b => geS a b = true := by
  cases xs with
  | nil => exact .nil
  | cons x r => exact rising_pw r x h
def sortS (xs : List Str) : List Str := xs.mergeSort geS
theorem sortS_eq {xs ys : List Str} (h1 : ys.Perm xs) (h2 : sortedS ys = true) : ys = sortS xs := by
  refine List.Perm.eq_of_pairwise (le := fun a b => geS a b = true) (fun a b _ _ x y => geS_anti x y) (sortedS_pw h2) ?_ (h1.trans (List.mergeSort_perm _ _).symm)
  exact List.pairwise_mergeSort (le := geS) (fun a b c x y => geS_trans x y) geS_total xs

/-! ### a dict of the module with texts as keys, that is only read -/
def hasK (tab : List (Str × Vl)) (z : Str) : Bool := tab.any fun q => q.1 == z
structure DCst (K : PySem.W.Frag) (w : World) (mg : Str → Option Value) (x : Str) (tab : List (Str × Vl)) : Prop where
  ex : ∃ (d : Addr) (es : Array DictEntry) (n : Nat), mg x = some (.ref d) ∧ KDict K w d es n ∧ (∀ q ∈ tab, ∃ u y, PySem.W.nsIn K d q.1 = some (some u) ∧ RelV y u ∧ ∀ H μ N, Rp K mg H μ N q.2 y) ∧ ∀ z, hasK tab z = false → PySem.W.nsIn K d z = some none
section
variable {X : Cx} {T : Tb} {W : WX} {pos p : Pos} {x : Str} {tab : List (Str × Vl)}
theorem DCst.at_ {K : PySem.W.Frag} {w : World} {mg : Str → Option Value} (D : DCst K w mg x tab) : ∃ (d : Addr) (es : Array DictEntry) (n : Nat), mg x = some (.ref d) ∧ KDict K w d es n ∧ ∀ z, ∃ r, PySem.W.nsIn K d z = some r ∧ r.isSome = hasK tab z ∧ ∀ q, tab.find? (fun q => q.1 == z) = some q → ∃ u y, r = some u ∧ RelV y u ∧ ∀ H μ N, Rp K mg H μ N q.2 y := by
  obtain ⟨d, es, n, h1, h2, h3, h4⟩ := D.ex
  refine ⟨d, es, n, h1, h2, fun z => ?_⟩
  cases e : hasK tab z with
  | false =>
    refine ⟨none, h4 z e, rfl, fun q hq => ?_⟩
    have a := List.mem_of_find?_eq_some hq
    have b := List.find?_some hq
    have : hasK tab z = true := List.any_eq_true.mpr ⟨q, a, b⟩
    rw [e] at this; cases this
  | true =>
    obtain ⟨q, hq, hz⟩ := List.any_eq_true.mp e
    have hz := beq_iff_eq.mp hz
    obtain ⟨u, y, k1, _, _⟩ := h3 q hq
    rw [hz] at k1
    refine ⟨some u, k1, rfl, fun q2 hq2 => ?_⟩
    obtain ⟨u2, y2, j1, j2, j3⟩ := h3 q2 (List.mem_of_find?_eq_some hq2)
    have hz2 : q2.1 = z := by simpa using List.find?_some hq2
    rw [hz2, k1] at j1
    cases j1
    exact ⟨u, y2, rfl, j2, j3⟩
end
section
variable {X : Cx} {T : Tb} {W : WX} {pos p : Pos} {x : Str} {tab : List (Str × Vl)}
theorem tChain_of {m1 m2 : Vl → Vl → MO Vl} {fa fb fc : En → M Vl} {σ : L2.St} {H : Hp} {Q : VK} (h : tOf X.K X.mg T W (mChain m1 m2 fa fb fc) σ H Q) : tChain (rOf X.K X.mg T m1) (rOf X.K X.mg T m2) (tOf X.K X.mg T W fa) (tOf X.K X.mg T W fb) (tOf X.K X.mg T W fc) σ H Q := by
  obtain ⟨ρ, μ, S, sr, er, h⟩ := h
  refine ⟨ρ, μ, S, sr, er, Pst.bnd_ h fun x S1 H1 μ1 x' e1 sr1 rx h1 => ?_⟩
  refine ⟨ρ, μ1, S1, sr1, er.ext e1, Pst.bnd_ h1 fun y S2 H2 μ2 y' e2 sr2 ry h2 => ?_⟩
  refine ⟨μ2, S2, x, y, sr2, rx.ext e2, ry, (Pst.bnd_ (rel := rl X.K X.mg) h2 fun z S3 H3 μ3 z' e3 sr3 rz h3 => ?_).lift_⟩
  cases z with
  | bl k =>
    cases rz
    cases k with
    | true =>
      refine ⟨true, rfl, ?_⟩
      rw [if_pos rfl]
      refine ⟨ρ, μ3, S3, sr3, ((er.ext e1).ext e2).ext e3, Pst.bnd_ h3 fun w S4 H4 μ4 w' e4 sr4 rw_ h4 => ?_⟩
      exact ⟨μ4, S4, y, w, sr4, (ry.ext e3).ext e4, rw_, h4.lift_⟩
    | false =>
      refine ⟨false, rfl, ?_⟩
      rw [if_neg (by decide)]
      exact Pst.here h3 sr3 (.bl false)
  | _ => exact h3.elim
theorem st_chain {a b c : Expr} {o1 o2 : CmpOp} {m1 m2 : Vl → Vl → MO Vl} {fa fb fc : En → M Vl} (h1 : OpS X T (compareOp o1) m1) (h2 : OpS X T (compareOp o2) m2) (ha : SE X T W a fa) (hb : SE X T W b fb) (hc : SE X T W c fc)
    (hm : lastMarks [o1, o2] [b, c] = false := by with_unfolding_all rfl) : ST X T W (.Compare a [o1, o2] [b, c] pos) (mTst (mChain m1 m2 fa fb fc)) :=
  PT.imp (pt_chain h1 h2 ha hb hc hm) fun σ H Q h => tChain_of (tB_of h)
end
end Q

set_option linter.all false
set_option maxRecDepth 100000
set_option maxHeartbeats 400000
namespace Q
open PySem PySem.Spec PyProof.Rows L2

end Q

set_option linter.all false
set_option maxRecDepth 100000
set_option maxHeartbeats 400000
namespace Q
open PySem PySem.Spec PyProof.Rows L2

/-! ### keywords of a def with defaults, all told -/
structure CalKD (g : Bool) (P : Program) (w : World) (K : PySem.W.Frag) (mg : Str → Option Value) (T : Tb) (base : Heap) (k : Nat) (x : Str) (ks : List Str) (perm : List Nat) (f : List Vl → M Vl) : Prop where
  ex : ∃ (a : Addr) (fd : FuncData) (ps : List Str), mg x = some (.ref a) ∧ PySem.W.keepIn K (.ref a) = true ∧ FnQ g P w K mg base k a fd ps (spF K mg T ps.length f) ∧ (∀ as S, as.length ≠ ps.length → f as S = none) ∧
    ∀ (s : Shared) (ws : List Value), K.In s.heap → (reord perm ws).length = ps.length → BindsTo s fd ⟨[], ks.zip ws⟩ (ps.zip (reord perm ws))
section
variable {P : Program} {w : World} {K : PySem.W.Frag} {mg : Str → Option Value} {T : Tb} {base : Heap}
theorem FDd.calK {g : Bool} {x : Str} {st : Stmt} {dv : List He.Dv} {fd : FuncData} {cdv : Value} {ps ks : List Str} {perm : List Nat} {k : Nat} {h : List Vl → M Vl} (F : FDd K x st dv fd cdv) (hm : mg x = some (.ref (He.ga K x))) (hd : dv ≠ [])
    (hb : ∀ (T : Addr) (kV doc pm : Value) (an : Option Addr) (cdv ct : Value) (ws its : List Value), (reord perm ws).length = ps.length → its.length = dv.length →
      ∃ k, bindArgs (PySem.W.fnOf x x (defArgs st) (defBody st) (defScope st) (.ref T) kV doc pm an cdv ct) ⟨[], ks.zip ws⟩ = seqItems? (.ref T) >>= k ∧ k (some its.toArray) = pure (ps.zip (reord perm ws)))
    (ok : FnQ g P w K mg base k (He.ga K x) fd ps (spF K mg T ps.length h)) (hl : ∀ as S, as.length ≠ ps.length → h as S = none) : CalKD g P w K mg T base k x ks perm h := by
  obtain ⟨oc, od, dV, kV, doc, pm, an, cdv2, ct, osl, e0, lk, hcd, hD, hK⟩ := F.F.ex
  subst e0
  rcases hD with ⟨e, _⟩ | ⟨_, T2, o, its, m, rfl, lT, oT, rT⟩
  · exact absurd e (by simpa using hd)
  · have l1 : its.length = dv.length := by have := rT.length; simpa using this.symm
    refine ⟨_, _, ps, hm, F.F.kp, ok, hl, fun s ws X hlen => ?_⟩
    obtain ⟨k, e1, e2⟩ := hb T2 kV doc pm an cdv2 ct ws its hlen l1
    refine BindsTo.of_looks fun M => ?_
    rw [e1]
    exact looks_items X lT oT (.of_pure e2)
end
end Q

set_option linter.all false
set_option maxRecDepth 100000
set_option maxHeartbeats 800000
namespace Q
open PySem PySem.Spec PyProof.Rows L2

/-! ### lambdas in a list, each of them called in its turn -/
def rem (H : Hp) (f : Addr) : Hp := fun b => if b = f then none else H b
theorem rem_same {H : Hp} {f : Addr} : rem H f f = none := if_pos rfl
theorem rem_ne {H : Hp} {f b : Addr} (h : b ≠ f) : rem H f b = H b := if_neg h
theorem rem_some {H : Hp} {f b : Addr} {o : HO} (h : rem H f b = some o) : b ≠ f ∧ H b = some o := by
  by_cases z : b = f
  · rw [z, rem_same] at h; cases h
  · rw [rem_ne z] at h; exact ⟨z, h⟩
/-- a thing of the kind `ext` is no more told of -/
theorem inv_rem {X : Cx} {pins : List (Addr × Obj)} {σ : List (Option V)} {H : Hp} {s : Shared} {f : Addr} {φ : Heap → Prop} (I : Inv X pins σ H s) (h : H f = some (.ext φ)) : Inv X pins σ (rem H f) s := by
  have off : ∀ {b o}, H b = some o → (∀ ψ, o ≠ .ext ψ) → b ≠ f := fun e n z => by
    rw [z, h] at e; cases e; exact n _ rfl
  have non : ∀ b, H b = none → rem H f b = none := fun b e => by
    by_cases z : b = f
    · rw [z]; exact rem_same
    · rw [rem_ne z]; exact e
  refine ⟨I.ok, I.os, I.bare, ⟨I.base.keep, I.base.slot, fun b o e n hx => non b (I.base.free b o e n hx), I.base.there, fun b xs e => ?_, fun b o u e => ?_, fun b ps e => ?_⟩, I.loc, I.cell, non _ I.free, fun x c e => non c (I.freeC x c e), fun p hp => ?_, fun b o e => ?_, I.len⟩
  · have q := I.base.tups b xs e
    rw [rem_ne (off q (fun _ z => by cases z))]; exact q
  · have q := I.base.frzs b o u e
    rw [rem_ne (off q (fun _ z => by cases z))]; exact q
  · obtain ⟨m, q⟩ := I.base.tbls b ps e
    exact ⟨m, by rw [rem_ne (off q (fun _ z => by cases z))]; exact q⟩
  · obtain ⟨e, n, r⟩ := I.pin p hp
    exact ⟨e, non _ n, r⟩
  · obtain ⟨_, e⟩ := rem_some e
    exact (I.hok b o e).stay (fun c v _ q => q) (fun c q => by rw [rem_ne (off q (fun _ z => by cases z))]; exact q) fun c xs q => by rw [rem_ne (off q (fun _ z => by cases z))]; exact q
theorem nofr_ext {X : Cx} {pins : List (Addr × Obj)} {σ : List (Option V)} {H : Hp} {s : Shared} {f : Addr} {φ : Heap → Prop} (I : Inv X pins σ H s) (h : H f = some (.ext φ)) : f ∉ frs X.stack := fun z => by
  rcases List.mem_cons.mp (I.stkSub _ z) with e | e
  · rw [e, I.free] at h; cases h
  · obtain ⟨_, o, ho, _⟩ := I.ok.funs.mem e
    have q := I.base.free f o ho (I.ok.frf f e) fun y => I.ok.exfs f y e
    rw [h] at q; cases q
/-- the function object of a lambda at f -/
def LamO (q : Str) (params : Arguments) (body : Expr) (scope : Scope) (cl : List (Str × Addr)) (pm : Value) (c' : Addr) (ctv : Value) (f : Addr) : HO := .ext fun h => h.get? f = some (PySem.W.kla_obj "<lambda>" q params body scope cl pm c' ctv)
theorem lamO_ne {c : Addr} {q q2 : Str} {params : Arguments} {body : Expr} {scope : Scope} {cl : List (Str × Addr)} {pm : Value} {c' : Addr} {ctv : Value} {f : Addr} (h : LamO q params body scope cl pm c' ctv f = LamX.CodeO c q2) (e : c = f) : False := by
  subst e
  have h1 := HO.ext.inj h
  have h2 := congrFun h1 { objs := Array.replicate (c + 1) (PySem.W.kla_obj "<lambda>" q params body scope cl pm c' ctv) }
  have h3 : ({ objs := Array.replicate (c + 1) (PySem.W.kla_obj "<lambda>" q params body scope cl pm c' ctv) } : Heap).get? c = some (PySem.W.kla_obj "<lambda>" q params body scope cl pm c' ctv) := by
    unfold Heap.get?
    simp only [Array.getElem?_replicate, Nat.lt_succ_self, if_true]
  have h4 := cast h2 h3
  obtain ⟨oc, vs, t, e1, e2, _⟩ := h4
  rw [h3] at e1
  cases e1
  cases e2
structure Lm where
  params : Arguments
  body : Expr
  scope : Scope
  pos : Pos
abbrev Lm.e (l : Lm) : Expr := .Lambda l.params l.body l.scope l.pos
def LamAt (X : Cx) (H : Hp) (f : Addr) (l : Lm) : Prop := ∃ (c' : Addr) (pm ctv : Value), H f = some (LamO (X.env.qual ++ "<lambda>") l.params l.body l.scope (cloFrom X.env.cells l.scope.names []) pm c' ctv f) ∧ H c' = some (LamX.CodeO c' (X.env.qual ++ "<lambda>"))
theorem LamAt.ext {X : Cx} {H H' : Hp} {f : Addr} {l : Lm} (h : LamAt X H f l) (k : ∀ b φ, H b = some (.ext φ) → H' b = some (.ext φ)) : LamAt X H' f l := by
  obtain ⟨c', pm, ctv, h1, h2⟩ := h
  exact ⟨c', pm, ctv, k _ _ h1, k _ _ h2⟩
theorem extN_ext {H H' : Hp} (e : LamX.ExtN H H') : ∀ b φ, H b = some (.ext φ) → H' b = some (.ext φ) := fun b _ h => e b _ h fun _ z => by cases z
/-- nothing but a table stood there -/
def Fr (H : Hp) (f : Addr) : Prop := ∀ o, H f = some o → ∃ ps, o = .tbl ps
theorem Fr.back {H H1 : Hp} {f : Addr} (h : Fr H1 f) (e : LamX.ExtN H H1) : Fr H f := fun o q => by
  by_cases z : ∃ ps, o = .tbl ps
  · exact z
  · exact absurd (h o (e f o q fun ps w => z ⟨ps, w⟩)) z
theorem pe_lam {X : Cx} {T : Tb} {l : Lm} (m : Maker X T) (L : LamX.LamS X.env.scope l.scope) (hdef : defaultsOf l.params X.env = ([], []) := by rfl) :
    PE X l.e (fun σ H Q => LamX.Tabs T H ∧ ∀ f H1, LamX.ExtN H H1 → LamX.Tabs T H1 → Fr H f → LamAt X H1 f l → Q (.ref f) H1) := by
  obtain ⟨c, P, TB, hcode, hmT, hu⟩ := m.ex
  refine ⟨fun pins s σ H Q I h => ?_⟩
  obtain ⟨hT, h⟩ := h
  obtain ⟨ps, hP, ht, ha⟩ := hT _ hmT
  refine PySem.W.kla_eval hdef ?_
  have bP : s.heap.BuiltinsAt X.mg P := TB.bm.keeps I.bk
  have hP' : s.heap.get? P = some { cls := .none, data := .fields ps } := I.hok P _ hP
  have lay : ∀ {H1 : Hp} {s1 : Shared} {c' : Addr} {pm ctv : Value}, Inv X pins σ H1 s1 → LamX.ExtN H H1 → LamX.Tabs T H1 → s.heap.objs.size ≤ s1.heap.objs.size → H1 c' = some (LamX.CodeO c' (X.env.qual ++ "<lambda>")) →
      EP X pins σ Q (.ref s1.heap.objs.size) { s1 with heap := s1.heap.push (PySem.W.kla_obj "<lambda>" (X.env.qual ++ "<lambda>") l.params l.body l.scope (cloFrom X.env.cells l.scope.names []) pm c' ctv), toks := s1.toks } := by
    intro H1 s1 c' pm ctv I1 eN T1 hs hc
    have hn : H1 s1.heap.objs.size = none := I1.hok.fresh (Nat.le_refl _)
    have e2 : ∀ b o, H1 b = some o → upd H1 s1.heap.objs.size (LamO (X.env.qual ++ "<lambda>") l.params l.body l.scope (cloFrom X.env.cells l.scope.names []) pm c' ctv s1.heap.objs.size) b = some o := fun b o e => by
      rw [upd_ne (ne_of_none e hn)]; exact e
    refine ⟨.ref s1.heap.objs.size, _, I1.laid (a := s1.heap.objs.size) (o := LamO (X.env.qual ++ "<lambda>") l.params l.body l.scope (cloFrom X.env.cells l.scope.names []) pm c' ctv s1.heap.objs.size) (t' := s1.toks) (fun b o e => Heap.get?_push_of_some _ e) (Nat.le_refl _) ⟨Heap.get?_push_size _ rfl, ⟨_, Heap.get?_push_size _ rfl⟩, fun h1 h2 p st => st _ p⟩, rfl, h _ _ (eN.trans (LamX.ExtN.of e2)) (LamX.Tabs.ext T1 e2) (fun o q => ?_) ⟨c', pm, ctv, upd_same, e2 _ _ hc⟩⟩
    have := I.hok.fresh hs
    rw [this] at q; cases q
  cases hc : codeAmong l.pos ps.toList with
  | none =>
    refine PySem.W.kla_makeFunction (mg := X.mg) (c := c) (P := P) (ps := ps) (closure_ok (L.has I.ok)) I.ok.glob (I.mod.glob.keeps I.bk) hcode (TB.code.keeps I.bk) hP' ht hc TB.gP bP fun c' ctv h' tk hx hge hlt hrec htb => ?_
    obtain ⟨c2, oc, vs, t, e2, hoc, hd, hv⟩ := hrec
    cases e2
    have nC : H c' = none := I.hok.fresh hge
    have I1 := LamX.inv_table (q := X.env.qual ++ "<lambda>") (t' := tk) (more := #[rawInt l.pos.line, rawInt l.pos.col, .ref c']) (h' := h') I hP hx htb hge ⟨oc, vs, t, hoc, hd, hv⟩
    have hE : LamX.ExtN H (upd (upd H P (.tbl (ps ++ #[rawInt l.pos.line, rawInt l.pos.col, .ref c']))) c' (LamX.CodeO c' (X.env.qual ++ "<lambda>"))) := fun b o e n => by
      rw [upd_ne (ne_of_none e nC), upd_ne (fun z => n ps (Option.some.inj (e.symm.trans (by rw [z]; exact hP))))]
      exact e
    have eL : (ps ++ #[rawInt l.pos.line, rawInt l.pos.col, .ref c']).toList = ps.toList ++ [rawInt l.pos.line, rawInt l.pos.col, .ref c'] := by simp
    refine lay (s1 := { s with heap := h', toks := tk }) I1 hE (fun p hp => ?_) (Nat.le_trans hge (Nat.le_of_lt hlt)) upd_same
    by_cases hb : p.1 = P
    · rw [hu p hp hb, hb]
      refine ⟨_, by rw [upd_ne (ne_of_none hP nC), upd_same], by rw [eL]; exact PySem.TriplesOk_snoc _ _ _ _ ht, fun p' cv hcv => ?_⟩
      rw [eL] at hcv
      rcases LamX.among_app _ ht hcv with z | z
      · obtain ⟨c0, e1, e2⟩ := ha p' cv z
        exact ⟨c0, e1, hE _ _ e2 LamX.codeO_ne⟩
      · exact ⟨c', z, upd_same⟩
    · obtain ⟨ps', a1, a2, a3⟩ := hT p hp
      refine ⟨ps', by rw [upd_ne (ne_of_none a1 nC), upd_ne hb]; exact a1, a2, fun p' cv hcv => ?_⟩
      obtain ⟨c0, e1, e2⟩ := a3 p' cv hcv
      exact ⟨c0, e1, hE _ _ e2 LamX.codeO_ne⟩
  | some cv =>
    obtain ⟨c', e, hco⟩ := ha l.pos cv hc
    subst e
    refine PySem.W.kla_makeFunctionHit (mg := X.mg) (c := c) (P := P) (ps := ps) (closure_ok (L.has I.ok)) I.ok.glob (I.mod.glob.keeps I.bk) hcode (TB.code.keeps I.bk) hP' ht hc bP fun ctv h' tk hx hsz => ?_
    exact lay (s1 := { s with heap := h', toks := tk }) (I.kept hx) (LamX.ExtN.refl H) hT hsz hco
/-- the lambdas of a list -/
def LamsAt (X : Cx) (H : Hp) : List Lm → List Addr → Prop
  | [], [] => True
  | l :: ls, f :: fs => LamAt X H f l ∧ LamsAt X H ls fs
  | _, _ => False
theorem LamsAt.ext {X : Cx} {H H' : Hp} (k : ∀ b φ, H b = some (.ext φ) → H' b = some (.ext φ)) : ∀ {ls : List Lm} {fs : List Addr}, LamsAt X H ls fs → LamsAt X H' ls fs
  | [], [], _ => trivial
  | _ :: _, _ :: _, h => ⟨h.1.ext k, LamsAt.ext k h.2⟩
theorem LamsAt.len {X : Cx} {H : Hp} : ∀ {ls : List Lm} {fs : List Addr}, LamsAt X H ls fs → fs.length = ls.length
  | [], [], _ => rfl
  | _ :: _, _ :: _, h => by rw [List.length_cons, List.length_cons, LamsAt.len h.2]
theorem pa_lams {X : Cx} {T : Tb} (m : Maker X T) : ∀ ls : List Lm, (∀ l ∈ ls, LamX.LamS X.env.scope l.scope ∧ defaultsOf l.params X.env = ([], [])) →
    PA X (ls.map Lm.e) (fun σ H Q => LamX.Tabs T H ∧ ∀ fs H1, LamX.ExtN H H1 → LamX.Tabs T H1 → (∀ f ∈ fs, Fr H f) → fs.Nodup → LamsAt X H1 ls fs → Q (fs.map V.ref) H1)
  | [], _ => PA.imp pa_nil fun σ H Q h => h.2 [] H (LamX.ExtN.refl H) h.1 (fun _ z => nomatch z) List.nodup_nil trivial
  | l :: ls, hl => by
    refine PA.imp (pa_cons (pe_lam m (hl l List.mem_cons_self).1 (hl l List.mem_cons_self).2) (pa_lams m ls fun k hk => hl k (List.mem_cons_of_mem _ hk)) rfl) fun σ H Q h => ?_
    refine ⟨h.1, fun f H1 eN T1 hf la => ⟨T1, fun fs H2 eN2 T2 hfs nd las => h.2 (f :: fs) H2 (eN.trans eN2) T2 (fun g hg => ?_) ?_ ⟨la.ext (extN_ext eN2), las⟩⟩⟩
    · rcases List.mem_cons.mp hg with rfl | hg
      · exact hf
      · exact (hfs g hg).back eN
    · refine List.nodup_cons.mpr ⟨fun z => ?_, nd⟩
      obtain ⟨c', pm, ctv, e1, _⟩ := la
      obtain ⟨ps, e⟩ := hfs f z _ e1
      cases e
/-- what is made is a list, known from now on as it stands -/
theorem pe_fixed {X : Cx} {e : Expr} {t : TE} (h : PE X e t) : PE X e (fun σ H Q => t σ H fun v H1 => ∃ d u, v = .ref d ∧ H1 d = some u ∧ Mut (some u) ∧ ∀ od, Q v (upd H1 d (.frz od u))) := by
  refine ⟨fun pins s σ H Q I hw => ?_⟩
  refine thn (h.run pins s σ H _ I hw) fun v s1 ⟨x, H1, I1, r, d, u, e, hd, mu, q⟩ => ?_
  obtain ⟨od, I2⟩ := I1.lock hd mu
  exact ⟨x, _, I2, r, q od⟩
/-! the call of the one that the slot i holds -/
section
variable {X : Cx} {T : Tb} {W : WX} {k i : Nat} {x xt : Str} {p px pos : Pos} {l : Lm} {f : En → M Vl} {cs : List Str}
def shE (X : Cx) (i : Nat) (l : Lm) (t : TE) : TE := fun σ H Q => ∃ f0, σ[i]? = some (some (.ref f0)) ∧ LamAt X H f0 l ∧ t σ (rem H f0) Q
def shS (X : Cx) (i : Nat) (l : Lm) (t : TS) : TS := fun D σ H => ∃ f0, σ[i]? = some (some (.ref f0)) ∧ LamAt X H f0 l ∧ t D σ (rem H f0)
theorem pe_caughtN (C : CaughtS X.K X.mg x cs) (hr : Room (k + 2) X.A) (nd : X.N.Nodup)
    (hb : ∀ (A : Around) (outer : List Env) (s : Shared) (H : Hp) (E : XK) (fa c' : Addr), FCx false (LamX.lamCx X A outer s H E l.scope fa c') (fun cls d _ H' => E cls d H') k → SE (LamX.lamCx X A outer s H E l.scope fa c') T (fun cls d _ H' => E cls d H') l.body f)
    (L : LamX.LamS X.env.scope l.scope) (hi : X.N[i]? = some xt) (hv : Vis X.env.scope xt) (hg : Gl X x := by rfl)
    (hd : (xt == ("__debug__" : Str)) = false := by decide) (hcd : (xt == ("__classdict__" : Str)) = false := by decide)
    (hbind : ∀ (q : Str) (cl : List (Str × Addr)) (pm cv ctv : Value), bindArgs (PySem.W.kla_fn "<lambda>" q l.params l.body l.scope cl pm cv ctv) ⟨[], []⟩ = pure [] := by intros; rfl) :
    PE X (.Call (.Name x p) [.Name xt px] [] pos) (shE X i l (tOf X.K X.mg T W (mCaught cs f))) := by
  obtain ⟨g, CS, a, r, e, y, pg, sg, dV, kV, doc, pm, cdv, ct, oc, an, od, osl, j, p0, p1, p2, p3, p4, p5, p6, p7, p8, p9, p10, p11, p12, p13, bg, rfl, hm, hk, lk, hcg, hbi, Sg, hva, hN, hge, hme, hde, hr1, he1, hrd, hrc, hed, hec, had, hac, hxd, hcs⟩ := C.ex
  refine ⟨fun pins s σ H Q I h => ?_⟩
  obtain ⟨f0, hs, ⟨c', pm', ctv, hf0, hco⟩, ρ, μ, S, sr, er, h⟩ := h
  refine wpAny_Call_Name_kw (ld_glob I hg hm ?_ hxd)
  refine PySem.W.callWith_K (h₀ := X.base) I.ok.mod.kin hk ?_ (by rfl) (by rfl)
  show wpAny _ _ (spliced ((false, eval (.Name xt px) X.env) :: backTo pos (starEach [] X.env))) _ _ s
  refine Calls.spliced_cons (thn ((pe_var (pos := px) (i := i) hi hv hd hcd).run pins s σ H (fun v H1 => v = .ref f0 ∧ H1 = H) I ⟨.ref f0, hs, rfl, rfl⟩) fun u s1 ⟨v, H1, I1, r1, q1⟩ => ?_)
  obtain ⟨ev, eH⟩ := q1
  subst ev
  rw [eH] at I1
  obtain rfl : u = Value.ref f0 := r1
  refine Calls.spliced_nil ⟨I1.kIn, ?_⟩
  have I2 := inv_rem I1 hf0
  have hobj : s1.heap.get? f0 = some (PySem.W.kla_obj "<lambda>" (X.env.qual ++ "<lambda>") l.params l.body l.scope (cloFrom X.env.cells l.scope.names []) pm' c' ctv) := (I1.hok f0 _ hf0).1
  have hcn : c' ≠ f0 := fun z => by
    rw [z, hf0] at hco
    exact lamO_ne (Option.some.inj hco) rfl
  have hco2 : rem H f0 c' = some (LamX.CodeO c' (X.env.qual ++ "<lambda>")) := by rw [rem_ne hcn]; exact hco
  have tt : TTc X.K CS (fun E H' Q' => tOf X.K X.mg T (fun cls d _ H' => E cls d H') f σ H' Q') (rem H f0) Q := by
    refine ⟨ρ, μ, S, sr, er, ?_⟩
    unfold mCaught at h
    cases e1 : f ρ S with
    | none => rw [e1] at h; exact h
    | some q =>
      obtain ⟨o, S'⟩ := q
      rw [e1] at h
      cases o with
      | ok v => exact fun H' μ' x' e' sr' _ => h H' μ' .non e' sr' .non
      | exc c gg v =>
        simp only at h
        by_cases hc : c ∈ cs
        · rw [if_pos hc] at h
          cases v with
          | non =>
            simp only at h
            by_cases hgg : gg = ""
            · rw [if_pos hgg] at h
              intro H' μ' cls d e' sr' xr
              obtain ⟨C0, hC, rfl, hd⟩ := xr
              refine ⟨hcs c hc C0 hC, fun b hb => ?_⟩
              have e2 : Ext H' μ' S'.n (upd H' b (excO b (.ref C0) d)) μ' S'.n := ext_upd hb _
              refine h _ μ' _ (e'.trans e2) (sr'.laid hb) ?_
              rcases hd with ⟨_, rfl⟩ | z
              · exact .exc c hC upd_same
              · exact absurd hgg z.1
            · rw [if_neg hgg] at h; exact h.elim
          | _ => exact h.elim
        · rw [if_neg hc] at h; exact h.elim
  have rc : codeAny (model X.prog X.w) X.A (.call (.ref g) ⟨[.ref f0], []⟩) (CR C8.CX0 X.stack X.prog X.w (rem H f0) s1 Q C8.E0) s1 := by
    refine LamX.run_ofS (N := [a, r, e]) (ps := [a]) (us := [.ref f0]) (vs := [.ref f0]) lk hcg Sg hr I2.env0 (hbi s1 [.ref f0] I2.kIn rfl) (.cons rfl .nil) rfl fun hr' => ?_
    obtain ⟨t', ht', hq'⟩ := caught_gives (X := X) (x := x) (a := a) (p0 := p0) (p1 := p1) (p2 := p2) (p3 := p3) (p4 := p4) (p5 := p5) (p6 := p6) (p7 := p7) (p8 := p8) (p9 := p9) (p10 := p10) (p11 := p11) (p12 := p12) (p13 := p13) (j := j) (g := g) (cdg := cdv) (q := X.env.qual ++ "<lambda>") hN hge hme hde hr1 he1 hrd hrc hed hec f0 c' s1 (rem H f0) Q (fun E H' Q' => tOf X.K X.mg T (fun cls d _ H' => E cls d H') f σ H' Q')
      (fun W pn xe E p1 p2 tk hW => LamX.pe_act (i := 0) I2 L hobj rem_same (nofr_ext I1 hf0) (hbind _ _ _ _ _) tk hW hr' (fun A outer s H hr2 => hb A outer s H E f0 c' (fcx_lam hr2 nd)) rfl hva had hac) hco2 tt
    exact ⟨t', ht'.nox, hq'⟩
  refine wpAny_call (codeAny_mono rc fun r s2 hq => ?_)
  cases r with
  | error e => exact (show False from hq).elim
  | ok fl =>
    cases fl with
    | ret u => exact I2.after hq
    | next => exact False.elim hq
    | brk => exact False.elim hq
    | cont => exact False.elim hq
end
/-! its outcome, judged -/
section
variable {X : Cx} {T : Tb} {W : WX}
theorem if_of {fc : En → M Bool} {f g : MS} {D : Ends} {σ : L2.St} {H : Hp} (q : tOfS X.K X.mg T W (sIf fc f g) D σ H) : tIfS (tOfT X.K X.mg T W fc) (tOfS X.K X.mg T W f) (tOfS X.K X.mg T W g) D σ H := by
  obtain ⟨ρ, μ, S, sr, er, q⟩ := q
  refine ⟨ρ, μ, S, sr, er, ?_⟩
  unfold sIf at q
  cases e : fc ρ S with
  | none => rw [e] at q; exact q
  | some p =>
    obtain ⟨r, S'⟩ := p
    rw [e] at q
    cases r with
    | ok v =>
      cases v with
      | true => exact fun H' μ' x e' sr' rx => by cases (show true = x from rx); exact ⟨ρ, μ', S', sr', er.ext e', q.step e'⟩
      | false => exact fun H' μ' x e' sr' rx => by cases (show false = x from rx); exact ⟨ρ, μ', S', sr', er.ext e', q.step e'⟩
    | exc c g v => exact exc_of er q
theorem not_of {f : En → M Bool} {σ : L2.St} {H : Hp} {Q : Bool → Hp → Prop} (h : tOfT X.K X.mg T W (mNot f) σ H Q) : tNot (tOfT X.K X.mg T W f) σ H Q := by
  obtain ⟨ρ, μ, S, sr, er, h⟩ := h
  refine ⟨ρ, μ, S, sr, er, Pst.bnd_ h fun v S1 H1 μ1 x e1 sr1 rx h1 => ?_⟩
  have rx : v = x := rx
  subst rx
  exact Pst.here h1 sr1 rfl
theorem cons_of {f : En → M Vl} {g : En → M (List Vl)} {σ : L2.St} {H : Hp} {Q : List V → Hp → Prop} (h : tOfA X.K X.mg T W (mCons f g) σ H Q) : tCons (tOf X.K X.mg T W f) (tOfA X.K X.mg T W g) σ H Q := by
  obtain ⟨ρ, μ, S, sr, er, h⟩ := h
  refine ⟨ρ, μ, S, sr, er, Pst.bnd_ h fun v S1 H1 μ1 x e1 sr1 rx h1 => ?_⟩
  refine ⟨ρ, μ1, S1, sr1, er.ext e1, Pst.bnd_ h1 fun w S2 H2 μ2 y e2 sr2 ry h2 => ?_⟩
  exact Pst.here h2 sr2 (.cons (rx.ext e2) ry)
/-- if not isinstance(caught(x), C): return False, x the lambda l -/
def sJudge (sub : List (Str × Str)) (ok : List Str) (cs : List Str) (f : En → M Vl) (c : Str) : MS :=
  sIf (mNot (mTst (mBi (bIsE sub ok) (mCons (mCaught cs f) (mCons (mC (.gl c)) mNil))))) (sRet (mC (.bl false))) sSkip
variable {k i : Nat} {x xt ci c : Str} {p px p1 p2 p3 p4 p5 p6 p7 : Pos} {l : Lm} {f : En → M Vl} {cs : List Str} {sub : List (Str × Str)} {ok : List Str}
theorem ss_judge {e : Expr} {b : List Stmt} {pi : Pos} (hE : ExcCs X.K X.mg sub ok) (hm : X.mg ci = none) (hbi : bootBuiltins ci = some (.builtin "isinstance")) (hgi : Gl X ci) (hn : ci ≠ "__name__") (hdb : (ci == ("__debug__" : Str)) = false)
    (h : PE X e (shE X i l (tOf X.K X.mg T W (mCaught cs f)))) (hc : SE X T W (.Name c p2) (mC (.gl c))) (hb : SSs X T W b (sRet (mC (.bl false))))
    (hst : starEach [e, .Name c p2] X.env = (false, eval e X.env) :: starEach [.Name c p2] X.env) :
    PS X (.If (.UnaryOp .Not (.Call (.Name ci p3) [e, .Name c p2] [] p4) p5) b [] pi) (shS X i l (tOfS X.K X.mg T W (sJudge sub ok cs f c))) := by
  have h1 := pa_cons h (sa_cons hc sa_nil) hst
  have h2 := pe_callB (p := p3) (pos := p4) (cs_isE (T := T) hE) hgi hm hbi h1 hn hdb hst rfl
  refine PS.imp (ps_if (pos := pi) (pt_not (pos := p5) (pt_val h2)) hb (sss_nil (T := T) (W := W))) fun D σ H q => ?_
  obtain ⟨f0, h3, h4, q⟩ := q
  exact ⟨f0, h3, h4, cons_of (tCB_of (tB_of (not_of (if_of q))))⟩
end
/-! ### the loop over the list -/
theorem lamO_exc {q : Str} {params : Arguments} {body : Expr} {scope : Scope} {cl : List (Str × Addr)} {pm : Value} {c' : Addr} {ctv : Value} {f a : Addr} {cls : Value} {d : Option Addr} (h : LamO q params body scope cl pm c' ctv f = excO a cls d) (e : a = f) : False := by
  subst e
  have h1 := HO.ext.inj h
  have h2 := congrFun h1 { objs := Array.replicate (a + 1) (PySem.W.kla_obj "<lambda>" q params body scope cl pm c' ctv) }
  have h3 : ({ objs := Array.replicate (a + 1) (PySem.W.kla_obj "<lambda>" q params body scope cl pm c' ctv) } : Heap).get? a = some (PySem.W.kla_obj "<lambda>" q params body scope cl pm c' ctv) := by
    unfold Heap.get?
    simp only [Array.getElem?_replicate, Nat.lt_succ_self, if_true]
  have h4 := cast h2 h3
  obtain ⟨oc, vs, e1, _, e2⟩ := h4
  rw [h3] at e1
  cases e1
  cases e2
theorem lamO_exd {q : Str} {params : Arguments} {body : Expr} {scope : Scope} {cl : List (Str × Addr)} {pm : Value} {c' : Addr} {ctv : Value} {f a : Addr} {fs : List (Str × V)} (h : LamO q params body scope cl pm c' ctv f = exd a fs) (e : a = f) : False := by
  subst e
  have h1 := HO.ext.inj h
  have h2 := congrFun h1 { objs := Array.replicate (a + 1) (PySem.W.kla_obj "<lambda>" q params body scope cl pm c' ctv) }
  have h3 : ({ objs := Array.replicate (a + 1) (PySem.W.kla_obj "<lambda>" q params body scope cl pm c' ctv) } : Heap).get? a = some (PySem.W.kla_obj "<lambda>" q params body scope cl pm c' ctv) := by
    unfold Heap.get?
    simp only [Array.getElem?_replicate, Nat.lt_succ_self, if_true]
  have h4 := cast h2 h3
  obtain ⟨mA, ⟨o, es, ep, e1, e2, _⟩, _⟩ := h4
  rw [h3] at e1
  cases e1
  cases e2
section
variable {K : PySem.W.Frag} {mg : Str → Option Value} {T : Tb} {H H' : Hp} {μ : Nat → Addr} {N : Nat}
theorem ext_sup (k : ∀ b o, H b = some o → H' b = some o) : Ext H μ N H' μ N := ⟨fun b _ h => k b _ h, fun b _ _ h => k b _ h, fun b _ h => k b _ h, Nat.le_refl _, fun _ _ => rfl⟩
section
variable {X : Cx} {f : Addr} {l : Lm} (la : LamAt X H f l)
include la
theorem off_lam {b : Addr} {o : HO} (h : H b = some o) (n : ∀ φ, o ≠ .ext φ) : rem H f b = some o := by
  obtain ⟨c', pm, ctv, h1, _⟩ := la
  rw [rem_ne (fun z => by rw [z, h1] at h; cases h; exact n _ rfl)]; exact h
theorem off_exc {a : Addr} {cls : Value} {d : Option Addr} (h : H a = some (excO a cls d)) : rem H f a = some (excO a cls d) := by
  obtain ⟨c', pm, ctv, h1, _⟩ := la
  rw [rem_ne (fun z => by rw [z, h1] at h; exact lamO_exc (Option.some.inj h) rfl)]; exact h
theorem off_exd {a : Addr} {fs : List (Str × V)} (h : H a = some (exd a fs)) : rem H f a = some (exd a fs) := by
  obtain ⟨c', pm, ctv, h1, _⟩ := la
  rw [rem_ne (fun z => by rw [z, h1] at h; exact lamO_exd (Option.some.inj h) rfl)]; exact h
theorem sqT_rem {a : Addr} {vs : List V} (h : SqT K H a vs) : SqT K (rem H f) a vs := by
  rcases h with (h | ⟨o, h⟩) | h
  · exact .inl (.inl (off_lam la h (fun _ z => by cases z)))
  · exact .inl (.inr ⟨o, off_lam la h (fun _ z => by cases z)⟩)
  · exact .inr h
mutual
theorem rp_rem : ∀ {x : Vl} {v : V}, Rp K mg H μ N x v → Rp K mg (rem H f) μ N x v
  | _, _, .non => .non
  | _, _, .bl b => .bl b
  | _, _, .int b => .int b
  | _, _, .str b => .str b
  | _, _, .tup h a => .tup (sqT_rem la h) (rpAll_rem a)
  | _, _, .ref n h => .ref n h
  | _, _, .gl x a h => .gl x a h
  | _, _, .ty t => .ty t
  | _, _, .exc c h1 h2 => .exc c h1 (off_exc la h2)
  | _, _, .excF c f h0 h1 h2 h3 r => .excF c f h0 h1 (off_exc la h2) (off_exd la h3) (rp_rem r)
theorem rpAll_rem : ∀ {x : List Vl} {v : List V}, RpAll K mg H μ N x v → RpAll K mg (rem H f) μ N x v
  | _, _, .nil => .nil
  | _, _, .cons h a => .cons (rp_rem h) (rpAll_rem a)
end
theorem rpK_rem {x : List (Vl × Vl)} {v : List (Key × V)} (h : RpK K mg H μ N x v) : RpK K mg (rem H f) μ N x v := by
  induction h with
  | nil => exact .nil
  | cons k r _ ih => exact .cons k (rp_rem la r) ih
theorem rpF_rem {x : List (Str × Vl)} {v : List (Str × V)} (h : RpF K mg H μ N x v) : RpF K mg (rem H f) μ N x v := by
  induction h with
  | nil => exact .nil
  | cons r _ ih => exact .cons (rp_rem la r) ih
theorem ob_rem {a : Addr} {ob : Ob} (h : ObR K mg H μ N a ob) : ObR K mg (rem H f) μ N a ob := by
  match ob, h with
  | .non, _ => trivial
  | .lst xs, ⟨vs, h1, h2⟩ => exact ⟨vs, off_lam la h1 (fun _ z => by cases z), rpAll_rem la h2⟩
  | .ro xs, ⟨vs, h1, h2⟩ => exact ⟨vs, h1.imp (fun ⟨o, q⟩ => ⟨o, off_lam la q (fun _ z => by cases z)⟩) id, rpAll_rem la h2⟩
  | .dic false kvs, ⟨vs, h1, h2⟩ => exact ⟨vs, off_lam la h1 (fun _ z => by cases z), rpK_rem la h2⟩
  | .dic true kvs, ⟨o, vs, h1, h2⟩ => exact ⟨o, vs, off_lam la h1 (fun _ z => by cases z), rpK_rem la h2⟩
  | .ins c fs, ⟨C, dx, vs, h0, h1, h2⟩ => exact ⟨C, dx, vs, h0, off_lam la h1 (fun _ z => by cases z), rpF_rem la h2⟩
theorem tabs_rem (t : LamX.Tabs T H) : LamX.Tabs T (rem H f) := fun p hp => by
  obtain ⟨ps, h1, h2, h3⟩ := t p hp
  refine ⟨ps, off_lam la h1 (fun _ z => by cases z), h2, fun pos cv hc => ?_⟩
  obtain ⟨c, e1, e2⟩ := h3 pos cv hc
  obtain ⟨c', pm, ctv, k1, _⟩ := la
  exact ⟨c, e1, by rw [rem_ne (fun z => by rw [z, k1] at e2; exact lamO_ne (Option.some.inj e2) rfl)]; exact e2⟩
theorem srel_rem {S : Sto} (r : SRel K mg T H μ S) : SRel K mg T (rem H f) μ S := ⟨fun n hn => ob_rem la (r.at_ n hn), r.inj, tabs_rem la r.tab⟩
theorem erel_rem {ρ : En} {σ : L2.St} (r : ERel K mg H μ N ρ σ) : ERel K mg (rem H f) μ N ρ σ := ⟨r.len, fun i v q => let ⟨x, h1, h2⟩ := r.at_ i v q; ⟨x, h1, rp_rem la h2⟩⟩
end
theorem erel_forget {ρ : En} {σ : L2.St} {i : Nat} {y : Option V} (r : ERel K mg H μ N ρ σ) : ERel K mg H μ N (ρ.set i none) (σ.set i y) := by
  refine ⟨by rw [List.length_set, List.length_set]; exact r.len, fun j v q => ?_⟩
  by_cases e : i = j
  · subst e
    by_cases hl : i < ρ.length
    · rw [List.getElem?_set_self hl] at q; cases q
    · rw [List.getElem?_eq_none (by simpa using hl)] at q; cases q
  · rw [List.getElem?_set_ne e] at q
    obtain ⟨x, h1, h2⟩ := r.at_ j v q
    exact ⟨x, by rw [List.getElem?_set_ne e]; exact h1, h2⟩
end
/-- without the things at fs -/
def remL (H : Hp) (fs : List Addr) : Hp := fun b => if b ∈ fs then none else H b
theorem remL_some {H : Hp} {fs : List Addr} {b : Addr} {o : HO} (h : remL H fs b = some o) : b ∉ fs ∧ H b = some o := by
  unfold remL at h
  by_cases z : b ∈ fs
  · rw [if_pos z] at h; cases h
  · rw [if_neg z] at h; exact ⟨z, h⟩
theorem remL_of {H : Hp} {fs : List Addr} {b : Addr} {o : HO} (h : H b = some o) (n : b ∉ fs) : remL H fs b = some o := by
  unfold remL
  rw [if_neg n]; exact h
def sLams (i : Nat) : List MS → MS
  | [] => fun ρ S => some (.nx, ρ, S)
  | b :: r => fun ρ S => if i < ρ.length then (match b (ρ.set i none) S with
      | some (.nx, ρ', S') => sLams i r ρ' S'
      | some (.rt v, ρ', S') => some (.rt v, ρ', S')
      | some (.ex c f v, ρ', S') => some (.ex c f v, ρ', S')
      | _ => none) else none
section
variable {X : Cx} {T : Tb} {W : WX} {i : Nat} {x : Str} {px lp pos : Pos}
theorem ss_lams {ls : List Lm} {bs : List MS} {body : List Stmt} (hp : PassesOwn (model X.prog X.w) X.A X.env X.xe) (hc : X.calm = true) (m : Maker X T) (hls : ∀ l ∈ ls, LamX.LamS X.env.scope l.scope ∧ defaultsOf l.params X.env = ([], []))
    (hN : X.N.Nodup) (hi : X.N[i]? = some x) (hx : Loc X.env.scope x) (hf : X.fn x = true ∨ X.env.scope.names.lookup x = some .local)
    (hb : ∀ (j : Nat) (l : Lm) (b : MS), ls[j]? = some l → bs[j]? = some b → PSs X body (shS X i l (tOfS X.K X.mg T W b))) (hlen : bs.length = ls.length) (hsz : ls.length ≤ 1000)
    (hs : ∀ y, foldedSetIterable (.List (ls.map Lm.e) lp) X.env y = pure y) : SS X T W (.For (.Name x px) (.List (ls.map Lm.e) lp) body [] pos) (sLams i bs) := by
  have h1 := pe_fixed (pe_lst (pos := lp) (pa_lams m ls hls))
  have hbd : PSs X body (fun D σ H => ∃ (j : Nat) (l : Lm) (b : MS), ls[j]? = some l ∧ bs[j]? = some b ∧ shS X i l (tOfS X.K X.mg T W b) D σ H) := ⟨fun pins s σ H D I ⟨j, l, b, e1, e2, h⟩ => (hb j l b e1 e2).run pins s σ H D I h⟩
  refine PS.imp (ps_for hp hc (pi_list h1) (pg_name (pos := px) hN hi hx hf) hbd hs) fun D σ H q => ?_
  obtain ⟨ρ, μ, S, sr, er, q⟩ := q
  refine ⟨sr.tab, fun fs H1 eN T1 hfr nd las => ⟨?_, fun d hd => ⟨d, .lst (fs.map V.ref), rfl, upd_same, trivial, fun od => ⟨d, rfl, ⟨fs.map V.ref, .inl (.inr ⟨od, upd_same⟩)⟩, ?_⟩⟩⟩⟩
  · rw [List.length_map, las.len, show sizeLine = 16777216 from rfl]; omega
  rw [upd_upd]
  have hlf := las.len
  refine (show _ from for_list (K := X.K) (a := d) (xs := fs.map V.ref) (g := gName i) (D := D) (tb := fun D σ H => ∃ (j : Nat) (l : Lm) (b : MS), ls[j]? = some l ∧ bs[j]? = some b ∧ shS X i l (tOfS X.K X.mg T W b) D σ H) (fun n σ' H' => ∃ (ρ : En) (μ : Nat → Addr) (S : Sto), SRel X.K X.mg T H' μ S ∧ ERel X.K X.mg H' μ S.n ρ σ' ∧ PstS X.K X.mg T W (remL H' (fs.drop n)) μ S.n D (sLams i (bs.drop n) ρ S) ∧ H' d = some (.frz od (.lst (fs.map V.ref))) ∧ LamsAt X H' (ls.drop n) (fs.drop n)) ?_ ?_ ?_ ?_)
  · have k1 : ∀ b o, H1 b = some o → upd H1 d (.frz od (.lst (fs.map V.ref))) b = some o := fun b o e => by rw [upd_ne (ne_of_none e hd)]; exact e
    have ex1 := ext_extN (μ := μ) eN S.n
    have ex2 : Ext H1 μ S.n (upd H1 d (.frz od (.lst (fs.map V.ref)))) μ S.n := ext_sup k1
    refine ⟨ρ, μ, S, (sr.extN eN T1).laid hd, (er.ext ex1).ext ex2, q.step ⟨fun b u e => ?_, fun b o u e => ?_, fun b u e => ?_, Nat.le_refl _, fun _ _ => rfl⟩, upd_same, las.ext fun b φ e => k1 _ _ e⟩
    · refine remL_of (k1 _ _ (eN b _ e fun _ z => by cases z)) fun z => ?_
      obtain ⟨ps, w⟩ := hfr b z _ e
      cases w
    · refine remL_of (k1 _ _ (eN b _ e fun _ z => by cases z)) fun z => ?_
      obtain ⟨ps, w⟩ := hfr b z _ e
      cases w
    · refine remL_of (k1 _ _ (eN b _ e fun _ z => by cases z)) fun z => ?_
      obtain ⟨ps, w⟩ := hfr b z _ e
      cases w
  · rintro n σ' H' _ ⟨_, _, _, _, _, _, h, _⟩
    exact .inl (.inr ⟨od, h⟩)
  · rintro n y σ' H' hy ⟨ρ, μ, S, sr, er, q, hfz, las⟩
    rw [List.getElem?_map] at hy
    obtain ⟨f, hfn, rfl⟩ := Option.map_eq_some_iff.mp hy
    obtain ⟨hn, hfe⟩ := List.getElem?_eq_some_iff.mp hfn
    have hnl : n < ls.length := by omega
    have hnb : n < bs.length := by omega
    have ef : fs.drop n = f :: fs.drop (n + 1) := by rw [List.drop_eq_getElem_cons hn, hfe]
    have el : ls.drop n = ls[n] :: ls.drop (n + 1) := List.drop_eq_getElem_cons hnl
    have eb : bs.drop n = bs[n] :: bs.drop (n + 1) := List.drop_eq_getElem_cons hnb
    have ndn : (f :: fs.drop (n + 1)).Nodup := by rw [← ef]; exact List.Nodup.sublist (List.drop_sublist n fs) nd
    rw [el, ef] at las
    obtain ⟨la, las⟩ := las
    rw [ef] at q
    rw [eb] at q
    unfold sLams at q
    by_cases hil : i < ρ.length
    case neg => rw [if_neg hil] at q; exact q.elim
    rw [if_pos hil] at q
    show ∃ (j : Nat) (l : Lm) (b : MS), ls[j]? = some l ∧ bs[j]? = some b ∧ shS X i l (tOfS X.K X.mg T W b) _ (σ'.set i (some (.ref f))) H'
    refine ⟨n, _, _, List.getElem?_eq_getElem hnl, List.getElem?_eq_getElem hnb, f, List.getElem?_set_self (by rw [← er.len]; exact hil), la, ρ.set i none, μ, S, srel_rem la sr, erel_forget (erel_rem la er), ?_⟩
    have up : ∀ {H'' : Hp} {μ'' : Nat → Addr} {N : Nat}, Ext (rem H' f) μ S.n H'' μ'' N → Ext (remL H' (f :: fs.drop (n + 1))) μ S.n (remL H'' (fs.drop (n + 1))) μ'' N := fun {H'' μ'' N} e => by
      refine ⟨fun b u h => ?_, fun b o u h => ?_, fun b u h => ?_, e.le, e.mu⟩
      · obtain ⟨h1, h2⟩ := remL_some h
        exact remL_of (e.tup _ _ (by rw [rem_ne (fun z => h1 (by rw [z]; exact List.mem_cons_self))]; exact h2)) fun z => h1 (List.mem_cons_of_mem _ z)
      · obtain ⟨h1, h2⟩ := remL_some h
        exact remL_of (e.frz _ _ _ (by rw [rem_ne (fun z => h1 (by rw [z]; exact List.mem_cons_self))]; exact h2)) fun z => h1 (List.mem_cons_of_mem _ z)
      · obtain ⟨h1, h2⟩ := remL_some h
        exact remL_of (e.ext _ _ (by rw [rem_ne (fun z => h1 (by rw [z]; exact List.mem_cons_self))]; exact h2)) fun z => h1 (List.mem_cons_of_mem _ z)
    have base : Ext (remL H' (f :: fs.drop (n + 1))) μ S.n (rem H' f) μ S.n := ext_sup fun b o h => by
      obtain ⟨h1, h2⟩ := remL_some h
      rw [rem_ne (fun z => h1 (by rw [z]; exact List.mem_cons_self))]; exact h2
    cases e1 : bs[n] (ρ.set i none) S with
    | none => rw [e1] at q; exact q.elim
    | some p =>
      obtain ⟨r, ρ', S'⟩ := p
      rw [e1] at q
      cases r with
      | nx =>
        intro H'' μ'' σ'' e sr' er'
        have lam' : LamsAt X H'' (ls.drop (n + 1)) (fs.drop (n + 1)) := by
          have hrem : ∀ {ls : List Lm} {fs : List Addr}, LamsAt X H' ls fs → f ∉ fs → LamsAt X H'' ls fs := by
            intro ls
            induction ls with
            | nil => intro fs h _; cases fs with
              | nil => trivial
              | cons _ _ => exact h.elim
            | cons l ls ih =>
              intro fs h hnf
              cases fs with
              | nil => exact h.elim
              | cons g fs =>
                refine ⟨?_, ih h.2 fun z => hnf (List.mem_cons_of_mem _ z)⟩
                obtain ⟨c', pm, ctv, k1, k2⟩ := h.1
                refine ⟨c', pm, ctv, e.ext _ _ (by rw [rem_ne (fun z => hnf (by rw [← z]; exact List.mem_cons_self))]; exact k1), e.ext _ _ ?_⟩
                obtain ⟨c2, pm2, ctv2, k3, _⟩ := la
                rw [rem_ne (fun z => by rw [z, k3] at k2; exact lamO_ne (Option.some.inj k2) rfl)]; exact k2
          exact hrem las (List.nodup_cons.mp ndn).1
        refine ⟨ρ', μ'', S', sr', er', q.step (up e), e.frz _ _ _ ?_, lam'⟩
        exact off_lam la hfz (fun _ z => by cases z)
      | bk => exact q.elim
      | ct => exact q.elim
      | rt v => exact q.step base
      | ex c g v => exact q.step base
  · rintro σ' H' ⟨ρ, μ, S, sr, er, q, _, _⟩
    have e0 : bs.drop (fs.map V.ref).length = [] := List.drop_eq_nil_of_le (by rw [List.length_map]; omega)
    rw [e0] at q
    exact q H' μ σ' ⟨fun b u h => (remL_some h).2, fun b o u h => (remL_some h).2, fun b u h => (remL_some h).2, Nat.le_refl _, fun _ _ => rfl⟩ sr er
end
end Q

set_option linter.all false
set_option maxRecDepth 100000
set_option maxHeartbeats 800000
namespace Q
open PySem PySem.Spec PySem.Calls PyProof.Rows L2

/-! ### sorted of tuples of whole numbers, the first of them empty -/
theorem depth_tupI (ns : List Int) : (PyData.tuple (ns.map .int)).depth = 1 := by
  simp only [PyData.depth, PySem.W.depth_ints]
/-! the loop over lambdas, rule by rule -/
def LamsOk (X : Cx) (T : Tb) (W : WX) (i : Nat) (body : List Stmt) : List Expr → List MS → Prop
  | [], [] => True
  | e :: es, b :: bs => (∃ l : Lm, e = l.e ∧ LamX.LamS X.env.scope l.scope ∧ defaultsOf l.params X.env = ([], []) ∧ PSs X body (shS X i l (tOfS X.K X.mg T W b))) ∧ LamsOk X T W i body es bs
  | _, _ => False
section
variable {X : Cx} {T : Tb} {W : WX} {i : Nat} {body : List Stmt}
theorem lams_nil : LamsOk X T W i body [] [] := trivial
theorem lams_cons {params : Arguments} {lb : Expr} {scope : Scope} {lpos : Pos} {es : List Expr} {b : MS} {bs : List MS} (L : LamX.LamS X.env.scope scope) (hj : PSs X body (shS X i ⟨params, lb, scope, lpos⟩ (tOfS X.K X.mg T W b))) (r : LamsOk X T W i body es bs)
    (hdef : defaultsOf params X.env = ([], []) := by rfl) : LamsOk X T W i body (.Lambda params lb scope lpos :: es) (b :: bs) := ⟨⟨⟨params, lb, scope, lpos⟩, rfl, L, hdef, hj⟩, r⟩
theorem lamsOk_ls : ∀ {es : List Expr} {bs : List MS}, LamsOk X T W i body es bs → ∃ ls : List Lm, es = ls.map Lm.e ∧ bs.length = ls.length ∧ (∀ l ∈ ls, LamX.LamS X.env.scope l.scope ∧ defaultsOf l.params X.env = ([], [])) ∧ ∀ (j : Nat) (l : Lm) (b : MS), ls[j]? = some l → bs[j]? = some b → PSs X body (shS X i l (tOfS X.K X.mg T W b))
  | [], [], _ => ⟨[], rfl, rfl, fun _ z => (nomatch z), fun j _ _ h => by simp at h⟩
  | _ :: _, _ :: _, ⟨⟨l, rfl, h1, h2, h3⟩, r⟩ => by
    obtain ⟨ls, rfl, k1, k2, k3⟩ := lamsOk_ls r
    refine ⟨l :: ls, rfl, by simp [k1], fun m hm => ?_, fun j m b hl hb => ?_⟩
    · rcases List.mem_cons.mp hm with rfl | hm
      · exact ⟨h1, h2⟩
      · exact k2 m hm
    · cases j with
      | zero => simp at hl hb; subst hl; subst hb; exact h3
      | succ j => exact k3 j m b (by simpa using hl) (by simpa using hb)
theorem ss_lamsL {x : Str} {px lp pos : Pos} {es : List Expr} {bs : List MS} (hp : PassesOwn (model X.prog X.w) X.A X.env X.xe) (hc : X.calm = true) (m : Maker X T) (hN : X.N.Nodup) (h : LamsOk X T W i body es bs) (hsz : es.length ≤ 1000)
    (hi : X.N[i]? = some x := by rfl) (hx : Loc X.env.scope x := by first | exact Or.inl rfl | exact Or.inr rfl) (hf : X.fn x = true ∨ X.env.scope.names.lookup x = some .local := by first | exact .inl rfl | exact .inr rfl | assumption)
    (hs : ∀ y, foldedSetIterable (.List es lp) X.env y = pure y := by intro _; rfl) : SS X T W (.For (.Name x px) (.List es lp) body [] pos) (sLams i bs) := by
  obtain ⟨ls, rfl, k1, k2, k3⟩ := lamsOk_ls h
  exact ss_lams hp hc m k2 hN hi hx hf k3 k1 (by rw [List.length_map] at hsz; exact hsz) hs
end
theorem s_lams {i : Nat} {b : MS} {r : List MS} {ρ : En} {S : Sto} {D : End_} (hi : i < ρ.length) (h : wps (b (ρ.set i none) S) ⟨fun ρ1 S1 => wps (sLams i r ρ1 S1) D, fun _ _ => False, fun _ _ => False, D.rt, D.ex⟩) : wps (sLams i (b :: r) ρ S) D := by
  unfold sLams
  rw [if_pos hi]
  match e : b (ρ.set i none) S, h with
  | some (.nx, ρ1, S1), h => exact h
  | some (.rt v, ρ1, S1), h => exact h
  | some (.ex c f v, ρ1, S1), h => exact h
  | some (.bk, ρ1, S1), h => exact h.elim
  | some (.ct, ρ1, S1), h => exact h.elim
  | none, h => exact h.elim
end Q

set_option linter.all false
set_option maxRecDepth 100000
set_option maxHeartbeats 800000
namespace Q
open PySem PySem.Spec PyProof.Rows L2

end Q

set_option linter.all false
set_option maxRecDepth 100000
set_option maxHeartbeats 1000000
namespace Q
open PySem PySem.Spec PyProof.Rows L2

/-! ### an own exception whose __init__ keeps what it is handed -/
/-! ### it is made, and raised -/
end Q

set_option linter.all false
set_option maxRecDepth 100000
set_option maxHeartbeats 1000000
namespace Q
open PySem PySem.Spec PyProof.Rows L2

end Q

set_option linter.all false
set_option maxRecDepth 100000
set_option maxHeartbeats 1000000
namespace Q
open PySem PySem.Spec PyProof.Rows L2

section
variable {K : PySem.W.Frag} {mg : Str → Option Value} {T : Tb} {H : Hp} {μ : Nat → Addr} {N : Nat}
theorem RpF.lookup {f : Str} {fs : List (Str × Vl)} {vs : List (Str × V)} (r : RpF K mg H μ N fs vs) : (∀ w, fs.lookup f = some w → ∃ x, vs.lookup f = some x ∧ Rp K mg H μ N w x) ∧ (fs.lookup f = none → vs.lookup f = none) := by
  induction r with
  | nil => exact ⟨fun w h => (by cases h), fun _ => rfl⟩
  | @cons g x v xs vs r rs ih =>
    rw [lookup_put]
    have e0 : List.lookup f ((g, x) :: xs) = if f = g then some x else xs.lookup f := by
      by_cases h : f = g
      · subst h
        simp [List.lookup]
      · have e : (f == g) = false := by simpa using h
        rw [if_neg h]
        simp [List.lookup, e]
    rw [e0]
    by_cases e : f = g
    · rw [if_pos e, if_pos e]
      refine ⟨fun w h => ?_, fun h => by cases h⟩
      cases h
      exact ⟨v, rfl, r⟩
    · rw [if_neg e, if_neg e]
      exact ih
end
end Q

set_option linter.all false
set_option maxRecDepth 100000
set_option maxHeartbeats 1000000
namespace Q
open PySem PySem.Spec PyProof.Rows L2

/-! ### own classes: a field set -/
def putV (f : Str) (v : Vl) : List (Str × Vl) → List (Str × Vl)
  | [] => [(f, v)]
  | (g, x) :: r => if g = f then (g, v) :: r else (g, x) :: putV f v r
section
variable {K : PySem.W.Frag} {mg : Str → Option Value} {T : Tb} {H : Hp} {μ : Nat → Addr} {N : Nat}
theorem RpF.put {f : Str} {v : Vl} {x : V} (rv : Rp K mg H μ N v x) {fs : List (Str × Vl)} {vs : List (Str × V)} (r : RpF K mg H μ N fs vs) : RpF K mg H μ N (putV f v fs) (putF f x vs) := by
  induction r with
  | nil => exact .cons rv .nil
  | @cons g y z fs vs r rs ih =>
    unfold putV putF
    by_cases e : g = f
    · rw [if_pos e, if_pos e]; exact .cons rv rs
    · rw [if_neg e, if_neg e]; exact .cons r ih
theorem RpF.length {fs : List (Str × Vl)} {vs : List (Str × V)} (r : RpF K mg H μ N fs vs) : fs.length = vs.length := by
  induction r with
  | nil => rfl
  | cons _ _ ih => simp [ih]
end
theorem FnQ.ok {P : Program} {w : World} {K : PySem.W.Frag} {mg : Str → Option Value} {base : Heap} {k : Nat} {f : Addr} {fd : FuncData} {ps : List Str} {sp : Sp} (F : FnQ false P w K mg base k f fd ps sp) : FnOk P w K mg base (L2.CX P w) k f fd ps sp :=
  ⟨F.len, fun A outer s H args us vs Q E hr e0 hb r h => F.run A outer s H args us vs Q E hr (fun z => by cases z) e0 hb r h⟩
end Q

set_option linter.all false
set_option maxRecDepth 100000
set_option maxHeartbeats 1000000
namespace Q
open PySem PySem.Spec PySem.Calls PyProof.Rows L2

/-! ### a method, as the head tells it -/
end Q

set_option linter.all false
set_option maxRecDepth 100000
set_option maxHeartbeats 1000000
namespace Q
open PySem PySem.Spec PyProof.Rows L2

end Q

set_option linter.all false
set_option maxRecDepth 100000
set_option maxHeartbeats 400000
namespace Q
open PySem PySem.Spec PyProof.Rows L2

end Q

set_option linter.all false
set_option maxRecDepth 100000
set_option maxHeartbeats 1000000
namespace Q
open PySem PySem.Spec PyProof.Rows L2

end Q

set_option linter.all false
set_option maxRecDepth 100000
set_option maxHeartbeats 1000000
namespace Q
open PySem PySem.Spec PyProof.Rows

/-! ### an own exception made with one keyword -/
end Q
namespace Q
open PySem PySem.Spec PyProof.Rows L2
end Q

set_option linter.all false
set_option maxRecDepth 100000
set_option maxHeartbeats 1000000
namespace Q
open PySem PySem.Spec PyProof.Rows L2

end Q

set_option linter.all false
set_option maxRecDepth 100000
set_option maxHeartbeats 400000
namespace Q
open PySem PySem.Spec PyProof.Rows L2

/-! ### the wanted ends, applied one by one -/
section
variable {E : XP} {S : Sto} {ρ : En} {D : End_} {Z : Vl → Sto → Prop} {Zl : List Vl → Sto → Prop} {Zb : Bool → Sto → Prop}
theorem a_slot {i : Nat} (q : ∃ v, ρ[i]? = some (some v) ∧ Z v S) : wpe (mSlot i ρ S) E Z := by rw [w_slot]; exact q
theorem a_c {v : Vl} (q : Z v S) : wpe (mC v ρ S) E Z := q
theorem a_nil (q : Zl [] S) : wpe (mNil ρ S) E Zl := q
theorem a_cons {f : En → M Vl} {g : En → M (List Vl)} (q : wpe (f ρ S) E fun x S1 => wpe (g ρ S1) E fun xs S2 => Zl (x :: xs) S2) : wpe (mCons f g ρ S) E Zl := by rw [w_cons]; exact q
theorem a_bin {m : Vl → Vl → MO Vl} {fa fb : En → M Vl} (q : wpe (fa ρ S) E fun x S1 => wpe (fb ρ S1) E fun y S2 => wpo (m x y S2) Z) : wpe (mBin m fa fb ρ S) E Z := by rw [w_bin]; exact q
theorem a_bi {m : List Vl → MO Vl} {g : En → M (List Vl)} (q : wpe (g ρ S) E fun vs S1 => wpo (m vs S1) Z) : wpe (mBi m g ρ S) E Z := by rw [w_bi]; exact q
theorem a_tup {g : En → M (List Vl)} (q : wpe (g ρ S) E fun xs S1 => xs.length ≤ sizeLine ∧ Z (.tup xs) S1) : wpe (mTup g ρ S) E Z := by rw [w_tup]; exact q
theorem a_lst {g : En → M (List Vl)} (q : wpe (g ρ S) E fun xs S1 => xs.length ≤ sizeLine ∧ Z (.ref S1.n) (S1.push (.lst xs))) : wpe (mLst g ρ S) E Z := by rw [w_lst]; exact q
theorem a_tst {f : En → M Vl} (q : wpe (f ρ S) E fun v S1 => ∃ b, v = .bl b ∧ Zb b S1) : wpe (mTst f ρ S) E Zb := by rw [w_tst]; exact q
theorem a_not {f : En → M Bool} (q : wpe (f ρ S) E fun b S1 => Zb (!b) S1) : wpe (mNot f ρ S) E Zb := by rw [w_not]; exact q
theorem a_and {f g : En → M Bool} (q : wpe (f ρ S) E fun b S1 => if b = true then wpe (g ρ S1) E Zb else Zb false S1) : wpe (mAnd f g ρ S) E Zb := by rw [w_and]; exact q
theorem a_or {f g : En → M Bool} (q : wpe (f ρ S) E fun b S1 => if b = true then Zb true S1 else wpe (g ρ S1) E Zb) : wpe (mOr f g ρ S) E Zb := by rw [w_or]; exact q
theorem a_ite {c : En → M Bool} {f g : En → M Vl} (q : wpe (c ρ S) E fun b S1 => if b = true then wpe (f ρ S1) E Z else wpe (g ρ S1) E Z) : wpe (mIte c f g ρ S) E Z := by rw [w_ite]; exact q
theorem a_andV {f g : En → M Vl} (q : wpe (f ρ S) E fun v S1 => ∃ b, v = .bl b ∧ if b = true then wpe (g ρ S1) E Z else Z (.bl false) S1) : wpe (mAndV f g ρ S) E Z := by rw [w_andV]; exact q
theorem a_orV {f g : En → M Vl} (q : wpe (f ρ S) E fun v S1 => ∃ b, v = .bl b ∧ if b = true then Z (.bl true) S1 else wpe (g ρ S1) E Z) : wpe (mOrV f g ρ S) E Z := by rw [w_orV]; exact q
theorem a_call {f : List Vl → M Vl} {g : En → M (List Vl)} (q : wpe (g ρ S) E fun vs S1 => wpe (f vs S1) E Z) : wpe (mCall f [] g ρ S) E Z := by rw [w_call]; exact q
theorem a_callK {f : List Vl → M Vl} {p : List Nat} {g : En → M (List Vl)} (q : wpe (g ρ S) E fun vs S1 => wpe (f (reord p vs) S1) E Z) : wpe (mCallK f p g ρ S) E Z := by rw [w_callK]; exact q
theorem a_met {Ty : String} {m : Vl → List Vl → MO Vl} {f : En → M Vl} {g : En → M (List Vl)} (q : wpe (f ρ S) E fun o S1 => tyB Ty S1 o = true ∧ wpe (g ρ S1) E fun as S2 => wpo (m o as S2) Z) : wpe (mMet Ty m f g ρ S) E Z := by rw [w_met]; exact q
theorem a_bl {b : Bool} {P : Bool → Prop} (q : P b) : ∃ c, Vl.bl b = Vl.bl c ∧ P c := ⟨b, rfl, q⟩
theorem a_sl {f : En → M Vl} {fl fh : En → M (Option Int)} (q : wpe (f ρ S) E fun v S1 => wpe (fl ρ S1) E fun lo S2 => wpe (fh ρ S2) E fun hi S3 => wpo (bSl v lo hi S3) Z) : wpe (mSl f fl fh ρ S) E Z := by rw [w_sl]; exact q
theorem a_no {Zo : Option Int → Sto → Prop} (q : Zo none S) : wpe (oNone ρ S) E Zo := q
theorem a_so {f : En → M Vl} {Zo : Option Int → Sto → Prop} (q : wpe (f ρ S) E fun v S1 => ∃ i, v = .int i ∧ Zo (some i) S1) : wpe (oSome f ρ S) E Zo := by rw [w_some']; exact q
theorem a_exi {i : Int} {P : Int → Prop} (q : P i) : ∃ j, Vl.int i = Vl.int j ∧ P j := ⟨i, rfl, q⟩
theorem a_neg {f : En → M Vl} (q : wpe (f ρ S) E fun v S1 => ∃ i, v = .int i ∧ Z (.int (-i)) S1) : wpe (mNeg f ρ S) E Z := by rw [w_neg]; exact q
theorem a_rev {f : En → M Vl} (q : wpe (f ρ S) E fun v S1 => wpo (bRev v S1) Z) : wpe (mRev f ρ S) E Z := by rw [w_rev]; exact q
theorem a_gnm {i : Nat} {v : Vl} {Ze : En → Sto → Prop} (q : Ze (ρ.set i (some v)) S) : wpo (gNm i v ρ S) Ze := q
/-! statements -/
theorem a_as {a b c : MS} (q : wps (sSeq a (sSeq b c) ρ S) D) : wps (sSeq (sSeq a b) c ρ S) D := by simp only [s_seq] at q ⊢; exact q
theorem a_let {f : En → M Vl} {i : Nat} {b : MS} (q : wpe (f ρ S) D.ex fun v S1 => wps (b (ρ.set i (some v)) S1) D) : wps (sSeq (sAsg f (gNm i)) b ρ S) D := by rw [s_seq, s_set]; exact q
theorem a_do {f : En → M Vl} {b : MS} (q : wpe (f ρ S) D.ex fun _ S1 => wps (b ρ S1) D) : wps (sSeq (sExp f) b ρ S) D := by rw [s_seq, s_exp]; exact q
theorem a_pars {is : List Nat} {g : En → M (List Vl)} {b : MS} (q : wpe (g ρ S) D.ex fun vs S1 => vs.length = is.length ∧ wps (b ((is.zip vs).foldl (fun ρ p => ρ.set p.1 (some p.2)) ρ) S1) D) : wps (sSeq (sPar is g) b ρ S) D := by rw [s_seq, s_par]; exact q
theorem a_rets {f : En → M Vl} {b : MS} (q : wpe (f ρ S) D.ex D.rt) : wps (sSeq (sRet f) b ρ S) D := by rw [s_seq, s_ret]; exact q
theorem a_ifs {c : En → M Bool} {a b : MS} (q : wpe (c ρ S) D.ex fun t S1 => if t = true then wps (sSeq a b ρ S1) D else wps (b ρ S1) D) : wps (sSeq (sIf c a sSkip) b ρ S) D := by
  rw [s_seq, s_if]
  refine wpe_mono q (fun t S1 h => ?_) (fun _ _ _ _ z => z)
  cases t
  · rw [if_neg (by decide)] at h ⊢
    rw [s_skip]; exact h
  · rw [if_pos rfl] at h ⊢
    rw [s_seq] at h; exact h
theorem a_skips {b : MS} (q : wps (b ρ S) D) : wps (sSeq sSkip b ρ S) D := by rw [s_seq, s_skip]; exact q
theorem a_set {f : En → M Vl} {i : Nat} (q : wpe (f ρ S) D.ex fun v S1 => D.nx (ρ.set i (some v)) S1) : wps (sAsg f (gNm i) ρ S) D := by rw [s_set]; exact q
theorem a_exp {f : En → M Vl} (q : wpe (f ρ S) D.ex fun _ S1 => D.nx ρ S1) : wps (sExp f ρ S) D := by rw [s_exp]; exact q
theorem a_ret {f : En → M Vl} (q : wpe (f ρ S) D.ex D.rt) : wps (sRet f ρ S) D := by rw [s_ret]; exact q
theorem a_if {c : En → M Bool} {a b : MS} (q : wpe (c ρ S) D.ex fun t S1 => if t = true then wps (a ρ S1) D else wps (b ρ S1) D) : wps (sIf c a b ρ S) D := by rw [s_if]; exact q
theorem a_skip (q : D.nx ρ S) : wps (sSkip ρ S) D := q
theorem a_par {is : List Nat} {g : En → M (List Vl)} (q : wpe (g ρ S) D.ex fun vs S1 => vs.length = is.length ∧ D.nx ((is.zip vs).foldl (fun ρ p => ρ.set p.1 (some p.2)) ρ) S1) : wps (sPar is g ρ S) D := by rw [s_par]; exact q
end
/-! a loop over a list that is known -/
def unr (n : Nat) (all : List Vl) (g : Vl → En → MO En) (b : MS) (D : End_) : List Vl → En → Sto → Prop
  | [], ρ, S => D.nx ρ S
  | x :: r, ρ, S => wpo (g x ρ S) fun ρ1 S1 => wps (b ρ1 S1) ⟨fun ρ2 S2 => S2.at_ n = .lst all ∧ unr n all g b D r ρ2 S2, D.nx, fun ρ2 S2 => S2.at_ n = .lst all ∧ unr n all g b D r ρ2 S2, D.rt, D.ex⟩
theorem a_u0 {n : Nat} {all : List Vl} {g : Vl → En → MO En} {b : MS} {D : End_} {ρ : En} {S : Sto} (q : D.nx ρ S) : unr n all g b D [] ρ S := q
theorem a_u1 {n : Nat} {all : List Vl} {g : Vl → En → MO En} {b : MS} {D : End_} {x : Vl} {r : List Vl} {ρ : En} {S : Sto} (q : wpo (g x ρ S) fun ρ1 S1 => wps (b ρ1 S1) ⟨fun ρ2 S2 => S2.at_ n = .lst all ∧ unr n all g b D r ρ2 S2, D.nx, fun ρ2 S2 => S2.at_ n = .lst all ∧ unr n all g b D r ρ2 S2, D.rt, D.ex⟩) : unr n all g b D (x :: r) ρ S := q
theorem a_gt2 {i j : Nat} {x y : Vl} {ρ : En} {S : Sto} {Ze : En → Sto → Prop} (q : Ze ((ρ.set i (some x)).set j (some y)) S) : wpo (gTp ((gNm i) :: ((gNm j) :: [])) (.tup [x, y]) ρ S) Ze := q
/-! operators -/
section
variable {S : Sto} {Z : Vl → Sto → Prop} {v a b c : Vl} {xs : List Vl} {i j : Int} {x y : Str}
theorem g_at0 (q : Z v S) : wpo (bSub' (.tup (v :: xs)) (.int 0) S) Z := by rw [o_at0]; exact q
theorem g_at1 (q : Z v S) : wpo (bSub' (.tup (a :: v :: xs)) (.int 1) S) Z := by rw [o_at1]; exact q
theorem g_at2 (q : Z v S) : wpo (bSub' (.tup (a :: b :: v :: xs)) (.int 2) S) Z := by rw [o_at2]; exact q
theorem g_at3 (q : Z v S) : wpo (bSub' (.tup (a :: b :: c :: v :: xs)) (.int 3) S) Z := (o_at (k := 3) (S := S) (Z := Z) (xs := a :: b :: c :: v :: xs) (v := v) rfl (by decide)).mpr q
theorem g_strs (q : Z (.bl (decide (x = y))) S) : wpo (bEq (.str x) (.str y) S) Z := q
theorem g_nstr (q : Z (.bl (!decide (x = y))) S) : wpo (bNe (.str x) (.str y) S) Z := q
theorem g_eqi (q : Z (.bl (i == j)) S) : wpo (bEq (.int i) (.int j) S) Z := q
theorem g_nei (q : Z (.bl (!(i == j))) S) : wpo (bNe (.int i) (.int j) S) Z := q
theorem g_add (q : Z (.int (i + j)) S) : wpo (bAdd (.int i) (.int j) S) Z := q
theorem g_sub (q : Z (.int (i - j)) S) : wpo (bSub (.int i) (.int j) S) Z := q
theorem g_gt (q : Z (.bl (decide (j < i))) S) : wpo (bGt (.int i) (.int j) S) Z := q
theorem g_ge (q : Z (.bl (decide (j ≤ i))) S) : wpo (bGe (.int i) (.int j) S) Z := q
theorem g_lt (q : Z (.bl (decide (i < j))) S) : wpo (bLt (.int i) (.int j) S) Z := q
theorem g_le (q : Z (.bl (decide (i ≤ j))) S) : wpo (bLe (.int i) (.int j) S) Z := q
theorem g_isn (q : Z (.bl (isNon v)) S) : wpo (bIs false v .non S) Z := q
theorem g_isb {b c : Bool} (q : Z (.bl (decide (b = c))) S) : wpo (bIs false (.bl b) (.bl c) S) Z := q
theorem g_isnb {b c : Bool} (q : Z (.bl (!decide (b = c))) S) : wpo (bIs true (.bl b) (.bl c) S) Z := q
theorem g_lent (q : Z (.int xs.length) S) : wpo (bLen [.tup xs] S) Z := q
theorem g_int (q : Z (.int i) S) : wpo (bInt [.int i] S) Z := q
end
end Q

set_option linter.all false
set_option maxRecDepth 100000
set_option maxHeartbeats 4000000
namespace Q
open PySem PySem.Spec PyProof.Rows L2

/-! ### sets over any kind of keys, with a table that can be walked -/
section
variable {P : Program} {w : World} {κ : Type} [DecidableEq κ]
inductive EsAre (knd : PySem.KeyKind P w κ) : List (Int × Value) → List κ → Prop
  | nil : EsAre knd [] []
  | cons {e : Int × Value} {k : κ} {es : List (Int × Value)} {ks : List κ} : knd.is k e.2 = true → e.1 = knd.hash k → e.2.scannable = true → EsAre knd es ks → EsAre knd (e :: es) (k :: ks)
variable {knd : PySem.KeyKind P w κ}
theorem EsAre.mem {es : List (Int × Value)} {ks : List κ} (h : EsAre knd es ks) : ∀ e ∈ es, ∃ k ∈ ks, knd.is k e.2 = true ∧ e.1 = knd.hash k ∧ e.2.scannable = true := by
  induction h with
  | nil => intro e he; cases he
  | cons h1 h2 h3 _ ih =>
    intro e he
    rcases List.mem_cons.mp he with z | z
    · subst z; exact ⟨_, List.mem_cons_self, h1, h2, h3⟩
    · obtain ⟨k, q1, q2⟩ := ih e z; exact ⟨k, List.mem_cons_of_mem _ q1, q2⟩
theorem EsAre.mem2 {es : List (Int × Value)} {ks : List κ} (h : EsAre knd es ks) : ∀ k ∈ ks, ∃ e ∈ es, knd.is k e.2 = true := by
  induction h with
  | nil => intro e he; cases he
  | cons h1 h2 h3 _ ih =>
    intro e he
    rcases List.mem_cons.mp he with z | z
    · subst z; exact ⟨_, List.mem_cons_self, h1⟩
    · obtain ⟨k, q1, q2⟩ := ih e z; exact ⟨k, List.mem_cons_of_mem _ q1, q2⟩
theorem EsAre.perm {es es2 : List (Int × Value)} (p : es2.Perm es) : ∀ {ks : List κ}, EsAre knd es ks → ∃ ks2, EsAre knd es2 ks2 ∧ ks2.Perm ks := by
  have p1 := p.symm
  clear p
  induction p1 with
  | nil => intro ks h; exact ⟨ks, h, .refl _⟩
  | cons x _ ih =>
    intro ks h
    cases h with
    | cons h1 h2 h3 h4 =>
      obtain ⟨k2, q1, q2⟩ := ih h4
      exact ⟨_, .cons h1 h2 h3 q1, q2.cons _⟩
  | swap x y l =>
    intro ks h
    cases h with
    | cons h1 h2 h3 h4 =>
      cases h4 with
      | cons g1 g2 g3 g4 => exact ⟨_, .cons g1 g2 g3 (.cons h1 h2 h3 g4), .swap _ _ _⟩
  | trans _ _ ih1 ih2 =>
    intro ks h
    obtain ⟨k1, q1, q2⟩ := ih1 h
    obtain ⟨k2, q3, q4⟩ := ih2 q1
    exact ⟨k2, q3, q4.trans q2⟩
theorem EsAre.len {es : List (Int × Value)} {ks : List κ} (h : EsAre knd es ks) : ks.length = es.length := by
  induction h with
  | nil => rfl
  | cons _ _ _ _ ih => simp [ih]
theorem EsAre.elems {es : List (Int × Value)} {ks : List κ} (h : EsAre knd es ks) : ElemsOf knd es := fun e he => by
  obtain ⟨k, _, q1, q2, q3⟩ := h.mem e he
  exact ⟨⟨k, q1, q2⟩, q3⟩
/-- the set at a: ks its members, each once, in some order -/
def SetG (knd : PySem.KeyKind P w κ) (h : Heap) (a : Addr) (ks : List κ) : Prop :=
  ∃ o es ep t, h.get? a = some o ∧ o.ExactSet ∧ o.data = .set es ep t ∧ (∃ ks2, EsAre knd es.toList ks2 ∧ ks2.Perm ks) ∧ ks.Nodup ∧
    es.size < scanBound ∧ t.fits es.size = true ∧ Ris t.place.toList ∧ (w.params.followText "set-order" = true ∨ t.led = true)
theorem SetG.at {h h' : Heap} {a : Addr} {ks : List κ} (R : SetG knd h a ks) (k : ∀ o, h.get? a = some o → h'.get? a = some o) : SetG knd h' a ks := by
  obtain ⟨o, es, ep, t, ho, r⟩ := R
  exact ⟨o, es, ep, t, k o ho, r⟩
theorem SetG.size {h : Heap} {a : Addr} {ks : List κ} (R : SetG knd h a ks) : ∃ o es ep t, h.get? a = some o ∧ o.ExactSet ∧ o.data = .set es ep t ∧ t.fits es.size = true ∧ es.size < scanBound ∧ es.size = ks.length := by
  obtain ⟨o, es, ep, t, ho, hx, hd, ⟨k2, h1, h2⟩, nd, hb, hf, _⟩ := R
  refine ⟨o, es, ep, t, ho, hx, hd, hf, hb, ?_⟩
  have e1 : k2.length = es.size := h1.len.trans Array.length_toList
  rw [← e1, h2.length_eq]
variable {A : Around} {E : Value → Shared → Prop} {s : Shared} {a : Addr} {ks : List κ}
theorem setG_add_tail {g : Bool → Sem Unit} (hg : ∀ (b : Bool) (s₁ : Shared) (Q' : Unit → Shared → Prop), Q' () s₁ → wpAny (model P w) A (g b) Q' E s₁)
    {o : Obj} {es : Array (Int × Value)} {ep : Nat} {t : SetTable} (ho : s.heap.get? a = some o) (hex : o.ExactSet) (hd : o.data = .set es ep t)
    {es1 : Array (Int × Value)} {t2 : SetTable} {ks1 : List κ} (g1 : ∃ ks2, EsAre knd es1.toList ks2 ∧ ks2.Perm ks1) (nd1 : ks1.Nodup)
    (hb1 : es1.size < scanBound) (hf2 : t2.fits es1.size = true) (hr : Ris t2.place.toList) (hl : w.params.followText "set-order" = true ∨ t2.led = true) {wasDummy : Bool} {R : Option Bool → Shared → Prop}
    (hR : ∀ h', Heap.SameBut a s.heap h' → SetG knd h' a ks1 → R (some true) { s with heap := h' }) :
    wpAny (model P w) A (do
        storeSet a es1 t2
        if (!wasDummy && t2.tooFull) = true then do
            g (relayAll t2 es1 (SetTable.grown es1.size)).2.2
            storeSet a (relayAll t2 es1 (SetTable.grown es1.size)).1 (relayAll t2 es1 (SetTable.grown es1.size)).2.1
            pure (some true)
          else pure (some true)) R E s := by
  refine wpAny_bind (wpAny_storeSet_of ho hd ?_ (fits_of_scanBound hb1))
  have ho1 := store_at (es' := es1) (t' := t2) ho hd
  have sb1 := Heap.SameBut.update s.heap a (Obj.putSet es1 t2)
  split
  · have pm := relayAll_perm t2 es1 (SetTable.grown es1.size)
    have hf3 := relayAll_fits t2 es1 (SetTable.grown es1.size)
    have hr3 := relayAll_ris t2 es1 (SetTable.grown es1.size)
    have hl3 := relayAll_led t2 es1 (SetTable.grown es1.size)
    generalize relayAll t2 es1 (SetTable.grown es1.size) = Z at pm hf3 hr3 hl3 ⊢
    obtain ⟨es2, t3, gave⟩ := Z
    dsimp only at pm hf3 hr3 hl3 ⊢
    have hsz : es2.size = es1.size := by rw [← Array.length_toList, pm.length_eq, Array.length_toList]
    have hb2 : es2.size < scanBound := by rw [hsz]; exact hb1
    refine wpAny_bind (hg _ _ _ ?_)
    refine wpAny_bind (wpAny_storeSet_of ho1 rfl ?_ (fits_of_scanBound hb2))
    have ho2 := store_at (es' := es2) (t' := t3) ho1 rfl
    refine wpAny_pure (hR _ (sb1.trans (Heap.SameBut.update _ a _)) ?_)
    obtain ⟨ks2, h1, h2⟩ := g1
    obtain ⟨ks3, h3, h4⟩ := h1.perm pm
    exact ⟨_, es2, _, t3, ho2, hex, rfl, ⟨ks3, h3, h4.trans h2⟩, nd1, hb2, hf3, hr3, hl.imp id fun z => by rw [hl3]; exact z⟩
  · exact wpAny_pure (hR _ sb1 ⟨_, es1, _, t2, ho1, hex, rfl, g1, nd1, hb1, hf2, hr, hl⟩)
theorem setG_add_hashed {k : κ} {x : Value} {Q : Bool → Shared → Prop} (hkey : knd.is k x = true) (hsc : x.scannable = true) (R : SetG knd s.heap a ks) (room : ks.length + 1 < scanBound)
    (hQ : ∀ h' b, Heap.SameBut a s.heap h' → SetG knd h' a (if k ∈ ks then ks else ks ++ [k]) → Q b { s with heap := h' }) :
    wpAny (model P w) A (setAddHashed a x (knd.hash k)) Q E s := by
  obtain ⟨o, es, ep, t, ho, hex, hd, ⟨ks2, g, gp⟩, nd, hb, hf, hr, hl⟩ := R
  have hel : ElemsOf knd es.toList := g.elems
  have hn : es.size = ks.length := by
    have e1 : ks2.length = es.size := g.len.trans Array.length_toList
    rw [← e1, gp.length_eq]
  unfold setAddHashed setAddHashedIn
  refine wpAny_holding (wpAny_bind (wpAny_setState_of ho hd hf ?_))
  dsimp only
  rw [byScan_of hsc hb hel]
  simp only [↓reduceIte]
  unfold setAddByScan
  refine wpAny_bind ?_
  refine wpAny_bind (wpAny_rule ?_)
  refine wpAny_bind (wpAny_setScan_of hkey ho hd hf hel ?_)
  cases hfi : List.findIdx? (fun e => knd.is k e.2) es.toList with
  | some j =>
    dsimp only
    obtain ⟨hj, pj, _⟩ := List.findIdx?_eq_some_iff_getElem.mp hfi
    have hSk : k ∈ ks := by
      obtain ⟨k', hk', q1, _⟩ := g.mem _ (List.getElem_mem hj)
      rw [knd.inj _ _ _ pj q1]
      exact gp.mem_iff.mp hk'
    refine wpAny_pure (wpAny_pure ?_)
    exact hQ s.heap _ (Heap.SameBut.refl a s.heap) (by rw [if_pos hSk]; exact ⟨o, es, ep, t, ho, hex, hd, ⟨ks2, g, gp⟩, nd, hb, hf, hr, hl⟩)
  | none =>
    dsimp only
    have hnk : k ∉ ks := fun z => by
      obtain ⟨e, he, q⟩ := g.mem2 k (gp.mem_iff.mpr z)
      have c := List.findIdx?_eq_none_iff.mp hfi e he
      rw [q] at c
      cases c
    have hgw : ∀ (b : Bool) {s₁ : Shared} {Q' : Unit → Shared → Prop}, Q' () s₁ → wpAny (model P w) A (match b with | true => rule "set.scan.the-table-gave-way" | false => pure ()) Q' E s₁ :=
      fun b s₁ Q' q => by cases b <;> first | exact wpAny_pure q | exact wpAny_rule q
    have pm := layNew_perm t es (knd.hash k) x
    have hf1 := layNew_fits t es (knd.hash k) x
    have hr1 := layNew_ris t es (knd.hash k) x hr
    have hl1 := layNew_led t es (knd.hash k) x
    generalize layNew t es (knd.hash k) x = Z at pm hf1 hr1 hl1 ⊢
    obtain ⟨es1, t1, wasDummy, gave⟩ := Z
    dsimp only at pm hf1 hr1 hl1 ⊢
    rw [Array.toList_push] at pm
    have pc : es1.toList.Perm ((knd.hash k, x) :: es.toList) := pm.trans (List.perm_append_singleton _ _)
    obtain ⟨ks3, g3, p3⟩ := (EsAre.cons (knd := knd) (e := (knd.hash k, x)) hkey rfl hsc g).perm pc
    have g1 : ∃ ks2, EsAre knd es1.toList ks2 ∧ ks2.Perm (ks ++ [k]) := ⟨ks3, g3, p3.trans ((gp.cons k).trans (List.perm_append_singleton _ _).symm)⟩
    have nd1 : (ks ++ [k]).Nodup := (List.perm_append_singleton k ks).nodup_iff.mpr (List.nodup_cons.mpr ⟨hnk, nd⟩)
    have hsz : es1.size = ks.length + 1 := by rw [← Array.length_toList, pc.length_eq, List.length_cons, Array.length_toList, hn]
    have hb1 : es1.size < scanBound := by rw [hsz]; exact room
    have hled : w.params.followText "set-order" = true ∨ t1.led = true := hl.imp id fun z => by rw [hl1]; exact z
    have fin : ∀ h', Heap.SameBut a s.heap h' → SetG knd h' a (ks ++ [k]) → Q true { s with heap := h' } := fun h' sb r => hQ h' _ sb (by rw [if_neg hnk]; exact r)
    refine wpAny_bind (hgw _ ?_)
    split
    · refine wpAny_bind ?_
      rw [hashByValue_scannable 8 hsc]
      refine wpAny_pure ?_
      refine setG_add_tail ?_ ho hex hd g1 nd1 hb1 ?_ ?_ ?_ ?_
      · intro b s₁ Q' q; cases b <;> first | exact wpAny_pure q | exact wpAny_rule q
      · first | (split <;> first | exact hf1 | exact SetTable.fits_plain_off hf1) | exact hf1
      · first | (split <;> exact hr1) | exact hr1
      · first | (split <;> exact hled) | exact hled
      · intro h' sb r; dsimp only; exact wpAny_pure (fin h' sb r)
    · refine wpAny_bind (wpAny_pure ?_)
      simp only [↓reduceIte]
      refine setG_add_tail ?_ ho hex hd g1 nd1 hb1 hf1 hr1 hled ?_
      · intro b s₁ Q' q; cases b <;> first | exact wpAny_pure q | exact wpAny_rule q
      · intro h' sb r; dsimp only; exact wpAny_pure (fin h' sb r)
/-- each once, in the order of their first standing -/
def dstG (xs : List κ) : List κ := xs.foldl (fun σ k => if k ∈ σ then σ else σ ++ [k]) []
theorem dstG_snoc (xs : List κ) (k : κ) : dstG (xs ++ [k]) = if k ∈ dstG xs then dstG xs else dstG xs ++ [k] := by
  unfold dstG
  rw [List.foldl_append]
  rfl
theorem dstG_len : ∀ (n : Nat) (xs : List κ), xs.length = n → (dstG xs).length ≤ n
  | 0, xs, h => by rw [List.length_eq_zero_iff.mp h]; exact Nat.le_refl _
  | n + 1, xs, h => by
    obtain ⟨ys, y, rfl⟩ : ∃ ys y, xs = ys ++ [y] := ⟨xs.dropLast, xs.getLast (by intro z; subst z; cases h), (List.dropLast_concat_getLast _).symm⟩
    have h2 : ys.length = n := by simpa using h
    have ih := dstG_len n ys h2
    rw [dstG_snoc]
    split
    · omega
    · rw [List.length_append]; simp; omega
theorem mem_dstG {k : κ} : ∀ (n : Nat) (xs : List κ), xs.length = n → (k ∈ dstG xs ↔ k ∈ xs)
  | 0, xs, h => by rw [List.length_eq_zero_iff.mp h]; rfl
  | n + 1, xs, h => by
    obtain ⟨ys, y, rfl⟩ : ∃ ys y, xs = ys ++ [y] := ⟨xs.dropLast, xs.getLast (by intro z; subst z; cases h), (List.dropLast_concat_getLast _).symm⟩
    have h2 : ys.length = n := by simpa using h
    have ih := mem_dstG (k := k) n ys h2
    have ihy := mem_dstG (k := y) n ys h2
    rw [dstG_snoc, List.mem_append, List.mem_singleton]
    split
    · rename_i z
      rw [ih]
      refine ⟨.inl, fun q => q.elim id fun e => by subst e; exact ihy.mp z⟩
    · rw [List.mem_append, List.mem_singleton, ih]
theorem nodup_dstG : ∀ (n : Nat) (xs : List κ), xs.length = n → (dstG xs).Nodup
  | 0, xs, h => by rw [List.length_eq_zero_iff.mp h]; exact List.nodup_nil
  | n + 1, xs, h => by
    obtain ⟨ys, y, rfl⟩ : ∃ ys y, xs = ys ++ [y] := ⟨xs.dropLast, xs.getLast (by intro z; subst z; cases h), (List.dropLast_concat_getLast _).symm⟩
    have h2 : ys.length = n := by simpa using h
    have ih := nodup_dstG n ys h2
    rw [dstG_snoc]
    split
    · exact ih
    · rename_i z
      exact (List.perm_append_singleton y (dstG ys)).nodup_iff.mpr (List.nodup_cons.mpr ⟨z, ih⟩)
theorem setG_fill {A : Around} {R : Result → Shared → Prop} {J : Addr} {fp wr : List Addr} {G : Array GenState → Array GenState → Prop} {n : Nat} {V0 : Nat → Value → Prop} {St : Nat → Shared → Prop} (wk : WalksS P w A.in1 J fp wr G n V0 St) (a : Addr) (na : a ∉ fp) (xs : List κ)
    (ev : ∀ i v, V0 i v → ∃ x, xs[i]? = some x ∧ knd.is x v = true ∧ v.scannable = true) (few : n + 1 < scanBound) : ∀ (r i : Nat) (s : Shared), i + r = n → St i s →
      SetG knd s.heap a (dstG (xs.take i)) →
      (∀ s', Moved (a :: wr) G s s' → SetG knd s'.heap a (dstG (xs.take n)) → R (.ok (.ret .none)) s') →
      codeAny (model P w) A (.builtin "set.update.loop" ⟨[.ref a, .ref J], []⟩) R s := by
  have aw : a ∉ wr := fun z => na (wk.sub _ z)
  intro r
  induction r with
  | zero =>
    intro i s hi st x fin
    obtain rfl : i = n := by omega
    refine codeAny_builtin F.entry_set_update_loop ?_
    rw [F.plain_set_update_loop |> Around.under_plainId <| _]
    show wpAny _ A.in1 (pyNext (.ref J) >>= _) _ _ s
    refine wpAny_bind (wk.done s _ _ st fun s1 mv => ?_)
    show wpAny _ A.in1 (PySem.ret Value.none) _ _ s1
    exact wpAny_pure (fin s1 (mv.mono fun b hb => List.mem_cons_of_mem _ hb) (x.at fun o ho => mv.heap a _ aw ho))
  | succ r ih =>
    intro i s hi st x fin
    refine codeAny_builtin F.entry_set_update_loop ?_
    rw [F.plain_set_update_loop |> Around.under_plainId <| _]
    show wpAny _ A.in1 (pyNext (.ref J) >>= _) _ _ s
    refine wpAny_bind (wk.item i s _ _ (by omega) st fun v s1 pv st1 mv => ?_)
    obtain ⟨y, ey, hkey, hsc⟩ := ev i v pv
    have x1 := x.at fun o ho => mv.heap a _ aw ho
    show wpAny _ A.in1 (holding [v] (setAdd a v) >>= _) _ _ s1
    refine wpAny_bind (wpAny_holding ?_)
    unfold setAdd
    refine wpAny_holding (wpAny_bind (knd.pyHash (k := y) hkey ?_))
    have hil : i ≤ n := by omega
    have bd := dstG_len (xs.take i).length (xs.take i) rfl
    have bd2 : (xs.take i).length ≤ i := by rw [List.length_take]; omega
    refine setG_add_hashed (s := { s1 with toks := s1.toks + 1 }) hkey hsc x1 (by omega) fun h' b2 sb x2 => ?_
    have et : xs.take (i + 1) = xs.take i ++ [y] := by rw [List.take_add_one, ey]; rfl
    have x3 : SetG knd h' a (dstG (xs.take (i + 1))) := by rw [et, dstG_snoc]; exact x2
    refine wpAny_pure ⟨plainId_quiet F.plain_set_update_loop _, ih (i + 1) _ (by omega) (wk.frame _ s1 _ _ st1 (Nat.le_succ _) fun b hb o e => ?_) x3 fun s2 mv2 x4 => ?_⟩
    · exact (sb.2 b fun z => na (by rw [← z]; exact hb)).symm ▸ e
    · refine fin s2 (Moved.trans wk.gtrans ((mv.mono fun b hb => List.mem_cons_of_mem _ hb).then_heap (Nat.le_succ _) fun b o hb e => ?_) mv2) x4
      exact (sb.2 b fun z => hb (by rw [z]; exact List.mem_cons_self)).symm ▸ e
theorem setG_fresh {h : Heap} {a : Addr} {led : Bool} (e : h.get? a = some (⟨.type "set", none, .set #[] 0 (.fresh 0 0 led), #[]⟩ : Obj)) (hl : w.params.followText "set-order" = true ∨ led = true) : SetG knd h a [] :=
  ⟨_, #[], 0, _, e, ⟨rfl, rfl, rfl⟩, rfl, ⟨[], .nil, .refl _⟩, List.nodup_nil, by decide, by rfl, List.Pairwise.nil, hl⟩
end
end Q

set_option linter.all false
set_option maxRecDepth 100000
set_option maxHeartbeats 4000000
namespace Q
open PySem PySem.Spec PyProof.Rows L2
section
variable {P : Program} {w : World} {κ : Type} [DecidableEq κ] {knd : PySem.KeyKind P w κ} {A : Around} {E : Value → Shared → Prop} {s : Shared}
abbrev frS (w : World) : Obj := ⟨.type "set", none, .set #[] 0 (.fresh 0 0 (!w.params.followText "set-order")), #[]⟩
theorem led_or (w : World) : w.params.followText "set-order" = true ∨ (!w.params.followText "set-order") = true := by
  cases w.params.followText "set-order"
  · exact .inr rfl
  · exact .inl rfl
theorem set_makeL {l : Addr} {its : Array Value} (xs : List κ) {Z : Value → Shared → Prop} (h0 : A.handled = none) (il : s.heap.IsList l its) (hx : xs.length = its.size) (ix : ∀ (i : Nat) (v : Value), its[i]? = some v → ∃ k, xs[i]? = some k ∧ knd.is k v = true ∧ v.scannable = true) (few : xs.length + 1 < scanBound)
    (k : ∀ (h' : Heap) (tk : Nat), SetG knd h' s.heap.objs.size (dstG xs) → (∀ b o, s.heap.get? b = some o → h'.get? b = some o) → Z (.ref s.heap.objs.size) { s with heap := h', toks := tk }) :
    wpAny (model P w) A (call (.type "set") [.ref l]) Z E s := by
  generalize ea : s.heap.objs.size = a at k
  obtain ⟨q0, q1, q2⟩ := F.called_set.mro
  have w1 := F.called_set.made
  have w2 := F.called_set.sub
  refine wpAny_call (codeAny_of_tree ?_)
  show wpAny _ _ (callAny (.type "set") _) _ _ _
  refine wpAny_pure ⟨Code.quiet_builtin _ (by decide +kernel), codeAny_builtin F.entry_type_call ?_⟩
  rw [Around.under_plain (weight_type_call_type "set" [.ref l] []) rfl]
  have w3 := F.called_set.notType
  have w4 := F.called_set.canCreate
  have w5 := F.typeCall_set_1 (.ref l)
  repeat any_goals first | assumption | wp_step
  refine codeAny_mono (code_set_led1 (.ref l) (E := E) (Q₁ := fun ob s1 => ob = .ref a ∧ s1 = { s with heap := s.heap.push (frS w) }) ⟨by rw [← ea], rfl⟩) fun r s1 hr => ?_
  cases r with
  | error e => exact hr
  | ok fl =>
    cases fl with
    | ret ob =>
      obtain ⟨rfl, rfl⟩ := hr
      have there : (s.heap.push (frS w)).get? a = some (frS w) := by rw [← ea]; exact Heap.get?_push_size _ rfl
      have ty : Shared.TypeIs { s with heap := s.heap.push (frS w) } (.ref a) "set" := ⟨_, there, rfl⟩
      have w6 := F.called_set.init.lookup
      have w7 := F.called_set.init.bind (.ref a)
      repeat any_goals first | assumption | wp_step
      refine codeAny_mono (codeAny_call_builtin (R := wants (fun r s2 => r = .none ∧ ∃ h' tk, s2 = { s with heap := h', toks := tk } ∧ SetG knd h' a (dstG xs) ∧ ∀ b o, s.heap.get? b = some o → h'.get? b = some o) E) F.called_set.init.plain F.entry_set_init (check_set_init_1 ty ?_)) fun r2 s2 hr2 => ?_
      · obtain ⟨⟨lc, ld, lt, ls⟩, hol, hc, nl, hd⟩ := il
        cases hc
        cases hd
        have hol2 := Heap.get?_push_of_some (frS w) hol
        have w8 := F.sub_list_set
        have w9 := F.sub_list_frozenset
        have w10 : (Value.type "list" == Value.type "dict") = false := by decide
        have il2 : (s.heap.push (frS w)).IsList l its := ⟨_, hol2, rfl, nl, rfl⟩
        unfold Builtin.«set.__init__» noKeywords Builtin.Frozenset.updateFrom
        generalize eI : pyIter = goI
        wp_walk
        subst eI
        refine wpAny_pyIter_list il2 (wpAny_bind (wpAny_runValue ?_))
        have la : l < a := by rw [← ea]; exact Heap.lt_size hol
        have sz : (s.heap.push (frS w)).objs.size = a + 1 := by rw [Heap.size_push, ea]
        have h3 : A.in1.in1.in1.handled = none := by simp [h0]
        have ne : l ≠ (s.heap.push (frS w)).objs.size := by rw [sz]; exact Nat.ne_of_lt (Nat.lt_succ_of_lt la)
        have nf : a ∉ [(s.heap.push (frS w)).objs.size, l] := by
          rw [sz]
          intro z
          rcases List.mem_cons.mp z with z | z
          · exact Nat.ne_of_lt (Nat.lt_succ_self a) z
          · rw [List.mem_singleton.mp z] at la; exact Nat.lt_irrefl _ la
        have et : xs.take its.size = xs := List.take_of_length_le (by omega)
        refine setG_fill ((Walks.list h3 _ l ne its).toS) a nf xs (fun i v hv => ix i v hv) (by omega) (its.size - 0) 0 _ (by omega) ⟨⟨_, Heap.get?_push_size _ rfl, rfl, rfl⟩, il2.push _⟩ ?_ ?_
        · exact setG_fresh (Heap.get?_push_of_some (⟨.type "list_iterator", none, .fields #[.ref l, .int 0 0], #[]⟩ : Obj) there) (led_or w)
        · intro s3 mv x3
          rw [et] at x3
          have e1 := mv.gens
          have e2 := mv.drawn
          have e3 := mv.os
          obtain ⟨h', g', d', tk', os'⟩ := s3
          cases e1
          cases e2
          cases e3
          refine wpAny_pure ?_
          refine wpAny_pure ⟨rfl, h', tk', rfl, x3, fun b o e => ?_⟩
          have hl : b < a := by rw [← ea]; exact Heap.lt_size e
          refine mv.heap b o (fun z => ?_) (Heap.get?_push_of_some _ (Heap.get?_push_of_some _ e))
          rcases List.mem_cons.mp z with z | z
          · exact Nat.ne_of_lt hl z
          · rw [List.mem_singleton.mp z, sz] at hl; exact Nat.lt_irrefl _ (Nat.lt_of_succ_lt hl)
      · cases r2 with
        | error e => exact hr2
        | ok fl2 =>
          cases fl2 with
          | ret r =>
            obtain ⟨rfl, h', tk, rfl, x3, kp⟩ := hr2
            repeat any_goals first | assumption | wp_step
            exact k _ _ x3 kp
          | _ => exact hr2.elim
    | _ => exact hr.elim
theorem set_makeT {l : Addr} {its : Array Value} (xs : List κ) {Z : Value → Shared → Prop} (h0 : A.handled = none) (il : s.heap.IsTuple l its) (hx : xs.length = its.size) (ix : ∀ (i : Nat) (v : Value), its[i]? = some v → ∃ k, xs[i]? = some k ∧ knd.is k v = true ∧ v.scannable = true) (few : xs.length + 1 < scanBound)
    (k : ∀ (h' : Heap) (tk : Nat), SetG knd h' s.heap.objs.size (dstG xs) → (∀ b o, s.heap.get? b = some o → h'.get? b = some o) → Z (.ref s.heap.objs.size) { s with heap := h', toks := tk }) :
    wpAny (model P w) A (call (.type "set") [.ref l]) Z E s := by
  generalize ea : s.heap.objs.size = a at k
  obtain ⟨q0, q1, q2⟩ := F.called_set.mro
  have w1 := F.called_set.made
  have w2 := F.called_set.sub
  refine wpAny_call (codeAny_of_tree ?_)
  show wpAny _ _ (callAny (.type "set") _) _ _ _
  refine wpAny_pure ⟨Code.quiet_builtin _ (by decide +kernel), codeAny_builtin F.entry_type_call ?_⟩
  rw [Around.under_plain (weight_type_call_type "set" [.ref l] []) rfl]
  have w3 := F.called_set.notType
  have w4 := F.called_set.canCreate
  have w5 := F.typeCall_set_1 (.ref l)
  repeat any_goals first | assumption | wp_step
  refine codeAny_mono (code_set_led1 (.ref l) (E := E) (Q₁ := fun ob s1 => ob = .ref a ∧ s1 = { s with heap := s.heap.push (frS w) }) ⟨by rw [← ea], rfl⟩) fun r s1 hr => ?_
  cases r with
  | error e => exact hr
  | ok fl =>
    cases fl with
    | ret ob =>
      obtain ⟨rfl, rfl⟩ := hr
      have there : (s.heap.push (frS w)).get? a = some (frS w) := by rw [← ea]; exact Heap.get?_push_size _ rfl
      have ty : Shared.TypeIs { s with heap := s.heap.push (frS w) } (.ref a) "set" := ⟨_, there, rfl⟩
      have w6 := F.called_set.init.lookup
      have w7 := F.called_set.init.bind (.ref a)
      repeat any_goals first | assumption | wp_step
      refine codeAny_mono (codeAny_call_builtin (R := wants (fun r s2 => r = .none ∧ ∃ h' tk, s2 = { s with heap := h', toks := tk } ∧ SetG knd h' a (dstG xs) ∧ ∀ b o, s.heap.get? b = some o → h'.get? b = some o) E) F.called_set.init.plain F.entry_set_init (check_set_init_1 ty ?_)) fun r2 s2 hr2 => ?_
      · obtain ⟨⟨lc, ld, lt, ls⟩, hol, hc, nl, hd⟩ := il
        cases hc
        cases hd
        have hol2 := Heap.get?_push_of_some (frS w) hol
        have w8 := F.sub_tuple_set
        have w9 := F.sub_tuple_frozenset
        have w10 : (Value.type "tuple" == Value.type "dict") = false := by decide
        have il2 : (s.heap.push (frS w)).IsTuple l its := ⟨_, hol2, rfl, nl, rfl⟩
        unfold Builtin.«set.__init__» noKeywords Builtin.Frozenset.updateFrom
        generalize eI : pyIter = goI
        wp_walk
        subst eI
        refine wpAny_pyIter_tuple il2 (wpAny_bind (wpAny_runValue ?_))
        have la : l < a := by rw [← ea]; exact Heap.lt_size hol
        have sz : (s.heap.push (frS w)).objs.size = a + 1 := by rw [Heap.size_push, ea]
        have h3 : A.in1.in1.in1.handled = none := by simp [h0]
        have ne : l ≠ (s.heap.push (frS w)).objs.size := by rw [sz]; exact Nat.ne_of_lt (Nat.lt_succ_of_lt la)
        have nf : a ∉ [(s.heap.push (frS w)).objs.size, l] := by
          rw [sz]
          intro z
          rcases List.mem_cons.mp z with z | z
          · exact Nat.ne_of_lt (Nat.lt_succ_self a) z
          · rw [List.mem_singleton.mp z] at la; exact Nat.lt_irrefl _ la
        have et : xs.take its.size = xs := List.take_of_length_le (by omega)
        refine setG_fill ((Walks.tuple h3 _ l ne its).toS) a nf xs (fun i v hv => ix i v hv) (by omega) (its.size - 0) 0 _ (by omega) ⟨⟨_, Heap.get?_push_size _ rfl, rfl, rfl⟩, il2.push _⟩ ?_ ?_
        · exact setG_fresh (Heap.get?_push_of_some (⟨.type "tuple_iterator", none, .fields #[.ref l, .int 0 0], #[]⟩ : Obj) there) (led_or w)
        · intro s3 mv x3
          rw [et] at x3
          have e1 := mv.gens
          have e2 := mv.drawn
          have e3 := mv.os
          obtain ⟨h', g', d', tk', os'⟩ := s3
          cases e1
          cases e2
          cases e3
          refine wpAny_pure ?_
          refine wpAny_pure ⟨rfl, h', tk', rfl, x3, fun b o e => ?_⟩
          have hl : b < a := by rw [← ea]; exact Heap.lt_size e
          refine mv.heap b o (fun z => ?_) (Heap.get?_push_of_some _ (Heap.get?_push_of_some _ e))
          rcases List.mem_cons.mp z with z | z
          · exact Nat.ne_of_lt hl z
          · rw [List.mem_singleton.mp z, sz] at hl; exact Nat.lt_irrefl _ (Nat.lt_of_succ_lt hl)
      · cases r2 with
        | error e => exact hr2
        | ok fl2 =>
          cases fl2 with
          | ret r =>
            obtain ⟨rfl, h', tk, rfl, x3, kp⟩ := hr2
            repeat any_goals first | assumption | wp_step
            exact k _ _ x3 kp
          | _ => exact hr2.elim
    | _ => exact hr.elim
theorem set_makeS {x : Str} {t : Tok} (xs : List κ) {Z : Value → Shared → Prop} (h0 : A.handled = none) (hx : xs.length = x.cps.size) (ix : ∀ (i : Nat) (v : Value), SignAt x i v → ∃ k, xs[i]? = some k ∧ knd.is k v = true ∧ v.scannable = true) (few : xs.length + 1 < scanBound)
    (k : ∀ (h' : Heap) (tk : Nat), SetG knd h' s.heap.objs.size (dstG xs) → (∀ b o, s.heap.get? b = some o → h'.get? b = some o) → Z (.ref s.heap.objs.size) { s with heap := h', toks := tk }) :
    wpAny (model P w) A (call (.type "set") [.str x t]) Z E s := by
  generalize ea : s.heap.objs.size = a at k
  obtain ⟨q0, q1, q2⟩ := F.called_set.mro
  have w1 := F.called_set.made
  have w2 := F.called_set.sub
  refine wpAny_call (codeAny_of_tree ?_)
  show wpAny _ _ (callAny (.type "set") _) _ _ _
  refine wpAny_pure ⟨Code.quiet_builtin _ (by decide +kernel), codeAny_builtin F.entry_type_call ?_⟩
  rw [Around.under_plain (weight_type_call_type "set" [.str x t] []) rfl]
  have w3 := F.called_set.notType
  have w4 := F.called_set.canCreate
  have w5 := F.typeCall_set_1 (.str x t)
  repeat any_goals first | assumption | wp_step
  refine codeAny_mono (code_set_led1 (.str x t) (E := E) (Q₁ := fun ob s1 => ob = .ref a ∧ s1 = { s with heap := s.heap.push (frS w) }) ⟨by rw [← ea], rfl⟩) fun r s1 hr => ?_
  cases r with
  | error e => exact hr
  | ok fl =>
    cases fl with
    | ret ob =>
      obtain ⟨rfl, rfl⟩ := hr
      have there : (s.heap.push (frS w)).get? a = some (frS w) := by rw [← ea]; exact Heap.get?_push_size _ rfl
      have ty : Shared.TypeIs { s with heap := s.heap.push (frS w) } (.ref a) "set" := ⟨_, there, rfl⟩
      have w6 := F.called_set.init.lookup
      have w7 := F.called_set.init.bind (.ref a)
      repeat any_goals first | assumption | wp_step
      refine codeAny_mono (codeAny_call_builtin (R := wants (fun r s2 => r = .none ∧ ∃ h' tk, s2 = { s with heap := h', toks := tk } ∧ SetG knd h' a (dstG xs) ∧ ∀ b o, s.heap.get? b = some o → h'.get? b = some o) E) F.called_set.init.plain F.entry_set_init (check_set_init_1 ty ?_)) fun r2 s2 hr2 => ?_
      · have w8 := F.sub_str_set
        have w9 := F.sub_str_frozenset
        have w10 : (Value.type "str" == Value.type "dict") = false := by decide
        unfold Builtin.«set.__init__» noKeywords Builtin.Frozenset.updateFrom
        generalize eI : pyIter = goI
        wp_walk
        subst eI
        have sz : (s.heap.push (frS w)).objs.size = a + 1 := by rw [Heap.size_push, ea]
        have h3 : A.in1.in1.in1.handled = none := by simp [h0]
        refine wpAny_pyIter_str fun io St wk st0 => wpAny_bind (wpAny_runValue ?_)
        have nf : a ∉ [(s.heap.push (frS w)).objs.size] := by
          rw [sz]
          intro z
          exact Nat.ne_of_lt (Nat.lt_succ_self a) (List.mem_singleton.mp z)
        have et : xs.take x.cps.size = xs := List.take_of_length_le (by omega)
        refine setG_fill ((wk A.in1.in1.in1 h3).toS) a nf xs (fun i v hv => ix i v hv) (by omega) (x.cps.size - 0) 0 _ (by omega) st0 ?_ ?_
        · exact setG_fresh (Heap.get?_push_of_some io there) (led_or w)
        · intro s3 mv x3
          rw [et] at x3
          have e1 := mv.gens
          have e2 := mv.drawn
          have e3 := mv.os
          obtain ⟨h', g', d', tk', os'⟩ := s3
          cases e1
          cases e2
          cases e3
          refine wpAny_pure ?_
          refine wpAny_pure ⟨rfl, h', tk', rfl, x3, fun b o e => ?_⟩
          have hl : b < a := by rw [← ea]; exact Heap.lt_size e
          refine mv.heap b o (fun z => ?_) (Heap.get?_push_of_some _ (Heap.get?_push_of_some _ e))
          rcases List.mem_cons.mp z with z | z
          · exact Nat.ne_of_lt hl z
          · rw [List.mem_singleton.mp z, sz] at hl; exact Nat.lt_irrefl _ (Nat.lt_of_succ_lt hl)
      · cases r2 with
        | error e => exact hr2
        | ok fl2 =>
          cases fl2 with
          | ret r =>
            obtain ⟨rfl, h', tk, rfl, x3, kp⟩ := hr2
            repeat any_goals first | assumption | wp_step
            exact k _ _ x3 kp
          | _ => exact hr2.elim
    | _ => exact hr.elim
theorem strsAre_perm {vs us : List Value} {ks : List Str} (h : StrsAre us ks) (p : vs.Perm us) : ∃ ss, StrsAre vs ss ∧ ss.Perm ks := by
  have p1 := p.symm
  clear p
  induction p1 generalizing ks with
  | nil => exact ⟨ks, h, .refl _⟩
  | cons x _ ih =>
    cases h with
    | cons n t h4 =>
      obtain ⟨k2, q1, q2⟩ := ih h4
      exact ⟨_, .cons n t q1, q2.cons _⟩
  | swap x y l =>
    cases h with
    | cons n t h4 =>
      cases h4 with
      | cons n2 t2 g4 => exact ⟨_, .cons n2 t2 (.cons n t g4), .swap _ _ _⟩
  | trans _ _ ih1 ih2 =>
    obtain ⟨k1, q1, q2⟩ := ih1 h
    obtain ⟨k2, q3, q4⟩ := ih2 q1
    exact ⟨k2, q3, q4.trans q2⟩
/-! ### sorted over such a set -/
theorem esAre_ints {es : List (Int × Value)} {ks : List Int} (h : EsAre (intKind P w) es ks) : IntsAre (es.map (·.2)) ks := by
  induction h with
  | nil => exact .nil
  | @cons e k _ _ h1 h2 h3 _ ih =>
    obtain ⟨eh, ev⟩ := e
    cases ev with
    | int n t =>
      have : n = k := beq_iff_eq.mp h1
      subst this
      exact .cons _ t ih
    | _ => cases h1
theorem esAre_strs {es : List (Int × Value)} {ks : List Str} (h : EsAre (strKind P w) es ks) : StrsAre (es.map (·.2)) ks := by
  induction h with
  | nil => exact .nil
  | @cons e k _ _ h1 h2 h3 _ ih =>
    obtain ⟨eh, ev⟩ := e
    cases ev with
    | str n t =>
      have : n = k := beq_iff_eq.mp h1
      subst this
      exact .cons _ t ih
    | _ => cases h1
theorem reRaw_ints {vs : List Value} {ns : List Int} (h : IntsAre vs ns) : vs.map Builtin.Re.reRawOf = ns := by
  induction h with
  | nil => rfl
  | cons n t _ ih => rw [List.map_cons, ih]; rfl
theorem sorted_setI {a : Addr} {ks : List Int} {Q : Value → Shared → Prop} (R : SetG (intKind P w) s.heap a ks) (hh : A.handled = none)
    (hQ : ∀ s' p (out : Array Value) (c : Nat) (ns : List Int), (∀ b o, s.heap.get? b = some o → s'.heap.get? b = some o) → s'.gens = s.gens → s'.os = s.os → s.heap.objs.size ≤ p →
      s'.heap.get? p = some (seqObj "list" out c) → IntsAre out.toList ns → ns.Pairwise (· ≤ ·) → ns.Perm ks → Q (.ref p) s') :
    wpAny (model P w) A (call (.builtin "sorted") [.ref a]) Q E s := by
  obtain ⟨o, es, ep, t, ho, hex, hd, ⟨ks2, g, gp⟩, nd, hb, hf, hr, hl⟩ := R
  refine Calls.call_function_entry kind_sorted plain_sorted entry_sorted (args_sorted1 _) ?_
  unfold Builtin.«sorted»
  refine wpAny_bind (m := checkCount "sorted" 1 1 _) (wpAny_pure ?_)
  refine wpAny_bind (collect_set (A := A.in1) hh ⟨o, ho, hex.1, hd⟩ hf hb hr hl fun s1 vs k1 hz g1 o1 pm => ?_)
  have hvl : vs.length = es.size := by rw [pm.length_eq, List.length_map, Array.length_toList]
  have hI : IntsAre vs (vs.map Builtin.Re.reRawOf) := ints_of vs fun v hv => by
    obtain ⟨e, he, q⟩ := List.mem_map.mp (pm.mem_iff.mp hv)
    obtain ⟨k, _, h1, _⟩ := g.mem e he
    obtain ⟨eh, ev⟩ := e
    cases q
    cases ev with
    | int n t => exact ⟨n, t, rfl⟩
    | _ => cases h1
  have pk : (vs.map Builtin.Re.reRawOf).Perm ks := by
    have q := pm.map Builtin.Re.reRawOf
    rw [reRaw_ints (esAre_ints g)] at q
    exact q.trans gp
  have hb2 : es.size ≤ sizeLine := fits_of_scanBound hb
  refine wpAny_bind (wpAny_newList ?_ (by rw [hvl]; exact hb2))
  have hoL : (s1.heap.push (seqObj "list" vs.toArray 0)).get? s1.heap.objs.size = some (seqObj "list" vs.toArray 0) := Heap.get?_push_size _ rfl
  refine wpAny_bind (wpAny_holding (wpAny_call_entry slot_list_sort ⟨_, hoL, rfl⟩ entry_list_sort (list_sort_treeAny hoL hI (by rw [hvl]; exact hb2) fun out ns' a1 a2 a3 => ⟨_, rfl, ?_⟩) (args_list_sort _)))
  obtain ⟨c, hc⟩ := sortedHeap_at (vs := vs) (out := out) hoL
  refine wpAny_pure ⟨_, rfl, hQ _ s1.heap.objs.size out c ns' (fun b u e => ?_) g1 o1 hz hc a1 a3 (a2.trans pk)⟩
  have q := k1 b u e
  have hlt := Heap.lt_size q
  show (sortedHeap (s1.heap.push (seqObj "list" vs.toArray 0)) s1.heap.objs.size vs out).get? b = some u
  rw [sortedHeap_old (Nat.ne_of_lt hlt) (by rw [size_push']; exact Nat.lt_succ_of_lt hlt)]
  exact Heap.get?_push_of_some _ q
theorem sorted_setS {a : Addr} {ks : List Str} {Q : Value → Shared → Prop} (R : SetG (strKind P w) s.heap a ks) (hh : A.handled = none)
    (hQ : ∀ s' p (out : Array Value) (c : Nat) (ns : List Str), (∀ b o, s.heap.get? b = some o → s'.heap.get? b = some o) → s'.gens = s.gens → s'.os = s.os → s.heap.objs.size ≤ p →
      s'.heap.get? p = some (seqObj "list" out c) → StrsAre out.toList ns → sortedS ns = true → ns.Perm ks → Q (.ref p) s') :
    wpAny (model P w) A (call (.builtin "sorted") [.ref a]) Q E s := by
  obtain ⟨o, es, ep, t, ho, hex, hd, ⟨ks2, g, gp⟩, nd, hb, hf, hr, hl⟩ := R
  refine Calls.call_function_entry kind_sorted plain_sorted entry_sorted (args_sorted1 _) ?_
  unfold Builtin.«sorted»
  refine wpAny_bind (m := checkCount "sorted" 1 1 _) (wpAny_pure ?_)
  refine wpAny_bind (collect_set (A := A.in1) hh ⟨o, ho, hex.1, hd⟩ hf hb hr hl fun s1 vs k1 hz g1 o1 pm => ?_)
  have hvl : vs.length = es.size := by rw [pm.length_eq, List.length_map, Array.length_toList]
  obtain ⟨ss, hS, hp⟩ : ∃ ss, StrsAre vs ss ∧ ss.Perm ks2 := strsAre_perm (esAre_strs g) pm
  have pk := hp.trans gp
  have hb2 : es.size ≤ sizeLine := fits_of_scanBound hb
  refine wpAny_bind (wpAny_newList ?_ (by rw [hvl]; exact hb2))
  have hoL : (s1.heap.push (seqObj "list" vs.toArray 0)).get? s1.heap.objs.size = some (seqObj "list" vs.toArray 0) := Heap.get?_push_size _ rfl
  refine wpAny_bind (wpAny_holding (wpAny_call_entry slot_list_sort ⟨_, hoL, rfl⟩ entry_list_sort (list_sort_treeKAny strKind_oneLt hoL hS.keysOf (fun v₁ v₂ rest e => keyKind_strs (by rw [← e]; exact hS)) (by rw [hvl]; exact hb2) fun st' hp2 hs2 => ⟨_, rfl, ?_⟩) (args_list_sort _)))
  obtain ⟨ns', a1, a2, a3⟩ := sorted_out_str hS hp2 hs2
  obtain ⟨c, hc⟩ := sortedHeap_at (vs := vs) (out := (arrOf st').map (·.2)) hoL
  refine wpAny_pure ⟨_, rfl, hQ _ s1.heap.objs.size _ c ns' (fun b u e => ?_) g1 o1 hz hc a1 a3 (a2.trans pk)⟩
  have q := k1 b u e
  have hlt := Heap.lt_size q
  show (sortedHeap (s1.heap.push (seqObj "list" vs.toArray 0)) s1.heap.objs.size vs _).get? b = some u
  rw [sortedHeap_old (Nat.ne_of_lt hlt) (by rw [size_push']; exact Nat.lt_succ_of_lt hlt)]
  exact Heap.get?_push_of_some _ q
end
end Q

set_option linter.all false
set_option maxRecDepth 100000
set_option maxHeartbeats 1000000
namespace Q
open PySem PySem.Spec PyProof.Rows L2

/-! ### where a sign first stands -/
section
open PySem.StrLaws PySem.Builtin PySem.Builtin.Str
theorem occ_stays (s sub : Str) (hi : Nat) : ∀ (l : List Nat) (st : Array Nat × Nat), 1 ≤ st.fst.size → (forIn l st (occBody s sub hi 1)).run.fst = st.fst
  | [], st, h => rfl
  | a :: l, st, h => by
    rw [List.forIn_cons]
    unfold occBody
    rw [if_neg (fun z => by have := z.1.1.1; omega)]
    exact occ_stays s sub hi l _ h
theorem occ_first (s sub : Str) (hi : Nat) : ∀ (l : List Nat) (free k : Nat) (l1 l2 : List Nat), (∀ i ∈ l, free ≤ i) → l = l1 ++ k :: l2 → (∀ i ∈ l1, ¬ (i + sub.length ≤ hi ∧ subAt s sub i = true)) → (k + sub.length ≤ hi ∧ subAt s sub k = true) →
    (forIn l ((#[] : Array Nat), free) (occBody s sub hi 1)).run.fst = #[k]
  | _, free, k, [], l2, hf, rfl, hno, hk => by
    rw [List.nil_append, List.forIn_cons]
    unfold occBody
    rw [if_pos ⟨⟨⟨by simp, hf k (by simp)⟩, hk.1⟩, hk.2⟩]
    exact occ_stays s sub hi l2 _ (by simp)
  | _, free, k, a :: l1, l2, hf, rfl, hno, hk => by
    rw [List.cons_append, List.forIn_cons]
    unfold occBody
    have ha := hno a List.mem_cons_self
    rw [if_neg (fun z => ha ⟨z.1.2, z.2⟩)]
    exact occ_first s sub hi _ free k l1 l2 (fun i q => hf i (List.mem_cons_of_mem _ q)) rfl (fun i q => hno i (List.mem_cons_of_mem _ q)) hk
theorem occ_sign {x : Str} {c k : Nat} (h : x.cps.toList[k]? = some c) (hno : ∀ i, i < k → x.cps.toList[i]? ≠ some c) : occurrences x ⟨#[c]⟩ 0 x.length 1 = [k] := by
  have hl : k < x.length := by
    have := (List.getElem?_eq_some_iff.mp h).1
    rw [Array.length_toList] at this
    exact this
  rw [occ_eq]
  have e : List.range' 0 (x.length + 1 - 0) = List.range' 0 k ++ k :: List.range' (k + 1) (x.length - k) := by
    have e1 : x.length + 1 - 0 = k + (x.length - k + 1) := by omega
    rw [e1, ← List.range'_append_1, List.range'_succ, Nat.zero_add]
  rw [occ_first x ⟨#[c]⟩ x.length _ 0 k (List.range' 0 k) (List.range' (k + 1) (x.length - k)) (fun _ _ => Nat.zero_le _) e (fun i hi z => hno i (by simp [List.mem_range'] at hi; omega) ((subAt_one x c i).mp z)) ((subAt_one x c k).mpr h)]
end
/-- the signs of a text -/
def sgs (x : Str) : List Str := x.cps.toList.map fun c => ⟨#[c]⟩
theorem sgs_len (x : Str) : (sgs x).length = x.cps.size := by unfold sgs; rw [List.length_map, Array.length_toList]
/-- where a text first stands in another one -/
def idxS (a b : Str) : Option Nat := (Builtin.Str.occurrences a b 0 a.length 1).head?
theorem idxS_at {x : Str} {c k : Nat} (h : x.cps.toList[k]? = some c) (hno : ∀ i, i < k → x.cps.toList[i]? ≠ some c) : idxS x ⟨#[c]⟩ = some k := by
  unfold idxS
  rw [occ_sign h hno]
  rfl
def mtIndexS : Vl → List Vl → MO Vl := fun o as S => match o, as with
  | .str a, [.str b] => (match idxS a b with | some k => some (.int (k : Nat), S) | none => none)
  | _, _ => none
def glueV : Vl → Vl → Sto → Option Str := fun o v S => match o, v with
  | .str a, .ref n => (match (getR S n).bind asStrs with | some ys => if (ys.map (·.length)).sum + ys.length * a.length ≤ 16777216 then some (Txt.join a ys) else none | none => none)
  | .str a, .tup xs => (match asStrs xs with | some ys => if (ys.map (·.length)).sum + ys.length * a.length ≤ 16777216 then some (Txt.join a ys) else none | none => none)
  | _, _ => none
def mtJoin : Vl → List Vl → MO Vl := fun o as S => match as with
  | [v] => (match glueV o v S with | some z => some (.str z, S) | none => none)
  | _ => none
section
variable {X : Cx} {T : Tb}
theorem ms_indexS : MtS X T "str.index" mtIndexS := by
  intro pins s σ H x xs v us Q I rx rs h
  obtain ⟨μ, S, o, as, sr, ro, ra, h⟩ := h
  obtain ⟨p, e⟩ := h.some_
  unfold mtIndexS at e h
  split at e
  · rename_i a b
    obtain ⟨x2, rfl, r2⟩ := ra.one
    cases ro
    cases r2
    cases q : idxS a b with
    | none => rw [q] at e; cases e
    | some k =>
      simp only [q] at h
      obtain ⟨rest, er⟩ : ∃ rest, Builtin.Str.occurrences a b 0 a.length 1 = k :: rest := by
        unfold idxS at q
        cases z : Builtin.Str.occurrences a b 0 a.length 1 with
        | nil => rw [z] at q; cases q
        | cons i r => rw [z] at q; cases q; exact ⟨r, rfl⟩
      exact mt_sindex pins s σ H _ _ v us Q I rx rs ⟨a, b, k, rest, rfl, rfl, er, PstO.here h sr (.int _)⟩
  · cases e
theorem ms_join : MtS X T "str.join" mtJoin := by
  intro pins s σ H x xs v us Q I rx rs h
  obtain ⟨μ, S, o, as, sr, ro, ra, h⟩ := h
  obtain ⟨p, e⟩ := h.some_
  unfold mtJoin at e h
  split at e
  · rename_i u
    obtain ⟨x2, rfl, r2⟩ := ra.one
    cases q : glueV o u S with
    | none => rw [q] at e; cases e
    | some z =>
      simp only [q] at h
      unfold glueV at q
      split at q
      · rename_i a n
        cases ro
        cases q2 : (getR S n).bind asStrs with
        | none => rw [q2] at q; cases q
        | some ys =>
          rw [q2] at q
          simp only at q
          by_cases hz : (ys.map (·.length)).sum + ys.length * a.length ≤ 16777216
          · rw [if_pos hz] at q
            cases q
            obtain ⟨zs, vs, k1, rfl, k2, k3⟩ := rd_bind sr r2 q2
            rw [asStrs_rel k1 k3] at k2
            exact mt_join pins s σ H _ _ v us Q I rx rs ⟨a, _, ys, rfl, rfl, .inl k2, hz, PstO.here h sr (.str _)⟩
          · rw [if_neg hz] at q; cases q
      · rename_i a xs
        cases ro
        cases q2 : asStrs xs with
        | none => rw [q2] at q; cases q
        | some ys =>
          rw [q2] at q
          simp only at q
          by_cases hz : (ys.map (·.length)).sum + ys.length * a.length ≤ 16777216
          · rw [if_pos hz] at q
            cases q
            obtain ⟨pa, vs, rfl, h1, h2⟩ := r2.tup_at
            rw [asStrs_rel q2 h2] at h1
            exact mt_join pins s σ H _ _ v us Q I rx rs ⟨a, _, ys, rfl, rfl, .inr h1, hz, PstO.here h sr (.str _)⟩
          · rw [if_neg hz] at q; cases q
      · cases q
  · cases e
end
/-! ### list(text) -/
section
variable {prog : Program} {w : World} {A : Around} {E : Value → Shared → Prop} {s : Shared}
theorem call_list_text {x : Str} {t : Tok} {Q : Value → Shared → Prop} (hh : A.handled = none) (hn : x.cps.size ≤ sizeLine)
    (hQ : ∀ h' tk acc' c', (∀ b o, s.heap.get? b = some o → h'.get? b = some o) → h'.get? s.heap.objs.size = some { cls := .type "list", dict := none, data := .seq acc' c', slots := #[] } → ItemsOf (SignAt x) acc' x.cps.size → Q (.ref s.heap.objs.size) { s with heap := h', toks := tk }) :
    wpAny (model prog w) A (call (.type "list") [.str x t]) Q E s := by
  refine callType_codes (Q₁ := fun obj s₁ => obj = .ref s.heap.objs.size ∧ s₁ = { s with heap := s.heap.push { cls := .type "list", data := .seq #[] } }) PySem.F.called_list (PySem.F.typeCall_list_1 _) PySem.F.entry_list_init
    (code_list_new _ ⟨rfl, rfl⟩) fun obj s₁ h₁ => ?_
  obtain ⟨rfl, rfl⟩ := h₁
  have hS : (s.heap.push { cls := .type "list", data := .seq #[] }).get? s.heap.objs.size = some { cls := .type "list", data := .seq #[] } := Heap.get?_push_size _ rfl
  refine ⟨⟨_, hS, rfl⟩, PySem.F.args_list_init_2 _ _, ?_⟩
  generalize hS1 : s.heap.objs.size = D at hS hQ ⊢
  have fin : ∀ h' tk acc' c', (∀ b o, b ≠ D → (s.heap.push { cls := .type "list", data := .seq #[] }).get? b = some o → h'.get? b = some o) → h'.get? D = some { cls := .type "list", dict := none, data := .seq acc' c', slots := #[] } → ItemsOf (SignAt x) acc' x.cps.size → Q (.ref D) { s with heap := h', toks := tk } :=
    fun h' tk acc' c' hk hD hi => hQ h' tk acc' c' (fun b o e => hk b o (by rw [← hS1]; exact Nat.ne_of_lt (Heap.lt_size e)) (Heap.get?_push_of_some _ e)) hD hi
  generalize hH0 : s.heap.push { cls := .type "list", data := .seq #[] } = H0 at hS fin ⊢
  show wpAny _ _ (do let old ← Builtin.List.listItems (.ref D); Builtin.List.listUpdate (.ref D) (fun _ => #[]); letGo old.toList.reverse; Builtin.List.listExtendWith (.ref D) (.str x t) .none) _ _ _
  refine wpAny_bind ?_
  unfold Builtin.List.listItems
  refine wpAny_bind (wpAny_seqItems hS rfl (wpAny_pure ?_))
  show wpAny _ _ (updateSeq D (fun _ => #[]) >>= fun _ => letGo (#[] : Array Value).toList.reverse >>= fun _ => Builtin.List.listExtendWith (.ref D) (.str x t) .none) _ _ _
  refine wpAny_bind (wpAny_updateSeq hS rfl ?_)
  have hS2 := Heap.get?_update_self (Obj.mapSeq (fun _ => (#[] : Array Value))) hS rfl
  have oth : ∀ b o, b ≠ D → H0.get? b = some o → (H0.update D (Obj.mapSeq (fun _ => (#[] : Array Value)))).get? b = some o :=
    fun b o hb e => (Heap.get?_update_other _ _ (Ne.symm hb)).trans e
  refine wpAny_bind (wpAny_letGo ?_)
  unfold Builtin.List.listExtendWith
  refine wpAny_bind (wpAny_typeOf (T := "str") (v := .str x t) rfl ?_)
  have h1 : Builtin.List.listSameRef (.ref D) (.str x t) = false := rfl
  have h2 : (Value.type "str" == Value.type "list") = false := by decide
  have h3 : (Value.type "str" == Value.type "tuple") = false := by decide
  simp only [h1, h2, h3, Bool.or_false, Bool.false_eq_true, if_false]
  refine wpAny_bind (wpAny_pyIter_str fun o St W hst => ?_)
  refine wpAny_bind (wpAny_holding ?_)
  unfold Builtin.List.listLengthHint
  refine wpAny_bind (wpAny_specialOf (T := "str") (v := .str x t) rfl F.str_len ?_)
  wp_delta
  refine wpAny_bind (wpAny_isInstance (T := "str") (v := .str x t) (b := true) rfl (by rw [isSubtype_type]; kernel_rfl) ?_)
  show wpAny _ _ (typeOf (Value.str x t) >>= _) _ _ _
  refine wpAny_bind (wpAny_typeOf (T := "str") (v := .str x t) rfl ?_)
  refine wpAny_pure ?_
  rw [if_neg (by decide)]
  generalize hH : H0.update D (Obj.mapSeq (fun _ => (#[] : Array Value))) = H at W hst oth hS2 ⊢
  have hlt : D < H.objs.size := Heap.lt_size hS2
  have hSf : D ∉ [H.objs.size] := fun hm => by rw [List.mem_singleton.mp hm] at hlt; exact absurd hlt (Nat.lt_irrefl _)
  have hS3 := Heap.get?_push_of_some o hS2
  refine wpAny_pure ⟨plainId_quiet F.plain_extend_loop _, codeAny_extend_loopS (W A.in1.in1 (by simp [hh])).toS hn _ hSf _ x.cps.size 0 _ _ _ rfl (Nat.zero_le _) hst hS3 (ItemsOf.nil _) fun s' acc' c' hm hS' hacc => ?_⟩
  rw [Moved.eq_with hm]
  refine ⟨rfl, fin s'.heap s'.toks acc' c' (fun b ob hb e => hm.heap b ob (fun z => ?_) (Heap.get?_push_of_some _ (oth b ob hb e))) hS' hacc⟩
  rcases List.mem_cons.mp z with z | z
  · exact hb z
  · have := Heap.lt_size (oth b ob hb e)
    rw [List.mem_singleton.mp z] at this; exact absurd this (Nat.lt_irrefl _)
end
section
variable {X : Cx} {T : Tb} {W : WX}
def rListT : List V → Hp → VK → Prop := fun xs H Q => ∃ x : Str, xs = [V.str x] ∧ x.cps.size ≤ sizeLine ∧ ∀ p, H p = none → Q (.ref p) (upd H p (.lst ((sgs x).map V.str)))
theorem vals_sgs {x : Str} {acc : Array Value} (h : ItemsOf (SignAt x) acc x.cps.size) : Vals ((sgs x).map V.str) acc.toList := by
  have h1 : acc.toList.length = x.cps.toList.length := by rw [Array.length_toList, Array.length_toList]; exact h.1
  have h2 : ∀ (i : Nat) (v : Value), acc.toList[i]? = some v → ∃ c u, x.cps.toList[i]? = some c ∧ v = Value.str ⟨#[c]⟩ u := fun i v q => by
    obtain ⟨c, u, e1, e2⟩ := h.2 i v (by rw [← Array.getElem?_toList]; exact q)
    exact ⟨c, u, by rw [Array.getElem?_toList]; exact e1, e2⟩
  unfold sgs
  generalize x.cps.toList = cs at h1 h2 ⊢
  generalize acc.toList = us at h1 h2 ⊢
  induction us generalizing cs with
  | nil => cases cs with
    | nil => exact .nil
    | cons c cs => cases h1
  | cons u us ih =>
    cases cs with
    | nil => cases h1
    | cons c cs =>
      obtain ⟨c2, t, e1, rfl⟩ := h2 0 u rfl
      cases e1
      refine .cons ⟨t, rfl⟩ (ih cs (by simpa using h1) fun i v q => ?_)
      exact h2 (i + 1) v q
theorem cr_listT (hc : X.calm = true) : CallR X (.type "list") rListT := by
  intro pins s σ H xs us Q I r h
  obtain ⟨x, rfl, hz, q⟩ := h
  obtain ⟨u, rfl, t, rfl⟩ := r.one
  refine call_list_text (I.ok.hd hc) hz fun h' tk acc' c' hk hD hi => ?_
  refine ⟨.ref _, upd H s.heap.objs.size (.lst ((sgs x).map V.str)), I.laid (t' := tk) hk (Nat.le_refl _) ⟨?_, acc'.toList, c', vals_sgs hi, by rw [Array.toArray_toList]; exact hD⟩, rfl, q _ (I.hok.fresh (Nat.le_refl _))⟩
  rw [List.length_map, sgs_len]; exact hz
def bListS : List Vl → MO Vl := fun as S => match as with
  | [.str x] => if x.cps.size ≤ sizeLine then some (.ref S.n, S.push (.lst ((sgs x).map Vl.str))) else none
  | _ => none
theorem rp_strs {K : PySem.W.Frag} {mg : Str → Option Value} {H : Hp} {μ : Nat → Addr} {N : Nat} : ∀ (zs : List Str), RpAll K mg H μ N (zs.map Vl.str) (zs.map V.str)
  | [] => .nil
  | z :: zs => .cons (.str z) (rp_strs zs)
theorem rp_ints {K : PySem.W.Frag} {mg : Str → Option Value} {H : Hp} {μ : Nat → Addr} {N : Nat} : ∀ (zs : List Int), RpAll K mg H μ N (zs.map Vl.int) (zs.map V.int)
  | [] => .nil
  | z :: zs => .cons (.int z) (rp_ints zs)
theorem cs_listS (hc : X.calm = true) : CaS X T (.type "list") bListS := by
  intro pins s σ H xs us Q I rs h
  obtain ⟨μ, S, as, sr, ra, h⟩ := h
  obtain ⟨p, e⟩ := h.some_
  unfold bListS at e h
  split at e
  · rename_i x
    obtain ⟨y, rfl, r1⟩ := ra.one
    cases r1
    by_cases hz : x.cps.size ≤ sizeLine
    · simp only [if_pos hz] at h
      exact cr_listT hc pins s σ H _ us Q I rs ⟨x, rfl, hz, fin_lst h sr (rp_strs _)⟩
    · rw [if_neg hz] at e; cases e
  · cases e
/-! ### sorted(set(..)), len(set(..)) -/
def setI (S : Sto) : Vl → Option (List Int)
  | .tup xs => asInts xs
  | .ref n => (getR S n).bind asInts
  | _ => none
def setS (S : Sto) : Vl → Option (List Str)
  | .str x => some (sgs x)
  | .tup xs => asStrs xs
  | .ref n => (getR S n).bind asStrs
  | _ => none
def bSortSet : Vl → MO Vl := fun v S => match setI S v with
  | some ns => if ns.length < 4000 then some (.ref S.n, S.push (.lst ((sortI (dstG ns)).map Vl.int))) else none
  | none => (match setS S v with
    | some zs => if zs.length < 4000 then some (.ref S.n, S.push (.lst ((sortS (dstG zs)).map Vl.str))) else none
    | none => none)
def bLenSet : Vl → MO Vl := fun v S => match setI S v with
  | some ns => if ns.length < 4000 then some (.int (dstG ns).length, S) else none
  | none => (match setS S v with
    | some zs => if zs.length < 4000 then some (.int (dstG zs).length, S) else none
    | none => none)
def mSortSet (f : En → M Vl) : En → M Vl := fun ρ => bnd (f ρ) fun v => lift (bSortSet v)
def mLenSetA (f : En → M Vl) : En → M Vl := fun ρ => bnd (f ρ) fun v => lift (bLenSet v)
def SArgI (K : PySem.W.Frag) (H : Hp) (x : V) (ns : List Int) : Prop := ∃ l, x = .ref l ∧ (SqL K H l (ns.map V.int) ∨ SqT K H l (ns.map V.int))
def SArgS (K : PySem.W.Frag) (H : Hp) (x : V) (ss : List Str) : Prop := (∃ z, x = .str z ∧ ss = sgs z) ∨ ∃ l, x = .ref l ∧ (SqL K H l (ss.map V.str) ∨ SqT K H l (ss.map V.str))
theorem ints_ix {us : List Value} {ns : List Int} (h : IntsAre us ns) : ∀ (i : Nat) (v : Value), us[i]? = some v → ∃ k t, ns[i]? = some k ∧ v = .int k t := by
  induction h with
  | nil => intro i v q; simp at q
  | cons n t _ ih =>
    intro i v q
    cases i with
    | zero => simp at q; subst q; exact ⟨n, t, rfl, rfl⟩
    | succ i => simpa using ih i v (by simpa using q)
theorem strs_ix {us : List Value} {ns : List Str} (h : StrsAre us ns) : ∀ (i : Nat) (v : Value), us[i]? = some v → ∃ k t, ns[i]? = some k ∧ v = .str k t := by
  induction h with
  | nil => intro i v q; simp at q
  | cons n t _ ih =>
    intro i v q
    cases i with
    | zero => simp at q; subst q; exact ⟨n, t, rfl, rfl⟩
    | succ i => simpa using ih i v (by simpa using q)
variable {pins : List (Addr × Obj)} {σ : L2.St} {H : Hp} {s : Shared} {x : V} {v : Value} {A : Around} {E : Value → Shared → Prop}
theorem set_I {ns : List Int} (hA : A.handled = none) (I : Inv X pins σ H s) (r : RelV x v) (h : SArgI X.K H x ns) (few : ns.length < 4000) {Z : Value → Shared → Prop}
    (k : ∀ (h' : Heap) (tk : Nat), SetG (PySem.intKind X.prog X.w) h' s.heap.objs.size (dstG ns) → (∀ b o, s.heap.get? b = some o → h'.get? b = some o) → Z (.ref s.heap.objs.size) { s with heap := h', toks := tk }) :
    wpAny (model X.prog X.w) A (call (.type "set") [v]) Z E s := by
  obtain ⟨l, rfl, h⟩ := h
  cases r
  have ix : ∀ {its : List Value}, Vals (ns.map V.int) its → ns.length = its.toArray.size ∧ ∀ (i : Nat) (v : Value), its.toArray[i]? = some v → ∃ k, ns[i]? = some k ∧ (PySem.intKind X.prog X.w).is k v = true ∧ v.scannable = true := fun rv => by
    have hi := ints_of_vals rv
    refine ⟨by rw [List.size_toArray, ← rv.length, List.length_map], fun i v q => ?_⟩
    obtain ⟨k, t, e1, rfl⟩ := ints_ix hi i v (by simpa using q)
    exact ⟨k, e1, intKind_is _ _ k t, rfl⟩
  rcases h with h | h
  · obtain ⟨its, rv, pl, hz⟩ := I.list h
    obtain ⟨i1, i2⟩ := ix rv
    exact set_makeL (its := its.toArray) ns hA pl.isList i1 i2 (by unfold scanBound; omega) k
  · obtain ⟨its, rv, pl, hz⟩ := I.tuple h
    obtain ⟨i1, i2⟩ := ix rv
    exact set_makeT (its := its.toArray) ns hA pl i1 i2 (by unfold scanBound; omega) k
theorem set_S {ns : List Str} (hA : A.handled = none) (I : Inv X pins σ H s) (r : RelV x v) (h : SArgS X.K H x ns) (few : ns.length < 4000) {Z : Value → Shared → Prop}
    (k : ∀ (h' : Heap) (tk : Nat), SetG (PySem.strKind X.prog X.w) h' s.heap.objs.size (dstG ns) → (∀ b o, s.heap.get? b = some o → h'.get? b = some o) → Z (.ref s.heap.objs.size) { s with heap := h', toks := tk }) :
    wpAny (model X.prog X.w) A (call (.type "set") [v]) Z E s := by
  rcases h with ⟨z, rfl, rfl⟩ | ⟨l, rfl, h⟩
  · obtain ⟨t, rfl⟩ := r
    refine set_makeS (sgs z) hA (sgs_len z) (fun i v q => ?_) (by unfold scanBound; omega) k
    obtain ⟨c, u, e1, rfl⟩ := q
    refine ⟨⟨#[c]⟩, ?_, strKind_is _ _ _ _, rfl⟩
    unfold sgs
    rw [List.getElem?_map, Array.getElem?_toList, e1]
    rfl
  cases r
  have ix : ∀ {its : List Value}, Vals (ns.map V.str) its → ns.length = its.toArray.size ∧ ∀ (i : Nat) (v : Value), its.toArray[i]? = some v → ∃ k, ns[i]? = some k ∧ (PySem.strKind X.prog X.w).is k v = true ∧ v.scannable = true := fun rv => by
    have hi := strs_of_vals rv
    refine ⟨by rw [List.size_toArray, ← rv.length, List.length_map], fun i v q => ?_⟩
    obtain ⟨k, t, e1, rfl⟩ := strs_ix hi i v (by simpa using q)
    exact ⟨k, e1, strKind_is _ _ k t, rfl⟩
  rcases h with h | h
  · obtain ⟨its, rv, pl, hz⟩ := I.list h
    obtain ⟨i1, i2⟩ := ix rv
    exact set_makeL (its := its.toArray) ns hA pl.isList i1 i2 (by unfold scanBound; omega) k
  · obtain ⟨its, rv, pl, hz⟩ := I.tuple h
    obtain ⟨i1, i2⟩ := ix rv
    exact set_makeT (its := its.toArray) ns hA pl i1 i2 (by unfold scanBound; omega) k
variable {K : PySem.W.Frag} {mg : Str → Option Value} {μ : Nat → Addr} {S : Sto}
theorem setI_arg {v : Vl} {x : V} {ns : List Int} (sr : SRel K mg T H μ S) (r : Rp K mg H μ S.n v x) (e : setI S v = some ns) : SArgI K H x ns := by
  cases v with
  | tup xs =>
    obtain ⟨p, vs, rfl, h1, h2⟩ := r.tup_at
    rw [asInts_rel e h2] at h1
    exact ⟨p, rfl, .inr h1⟩
  | ref n =>
    obtain ⟨zs, vs, k1, rfl, k2, k3⟩ := rd_bind sr r e
    rw [asInts_rel k1 k3] at k2
    exact ⟨_, rfl, .inl k2⟩
  | _ => cases e
theorem setS_arg {v : Vl} {x : V} {ns : List Str} (sr : SRel K mg T H μ S) (r : Rp K mg H μ S.n v x) (e : setS S v = some ns) : SArgS K H x ns := by
  cases v with
  | str z => cases e; cases r; exact .inl ⟨z, rfl, rfl⟩
  | tup xs =>
    obtain ⟨p, vs, rfl, h1, h2⟩ := r.tup_at
    rw [asStrs_rel e h2] at h1
    exact .inr ⟨p, rfl, .inr h1⟩
  | ref n =>
    obtain ⟨zs, vs, k1, rfl, k2, k3⟩ := rd_bind sr r e
    rw [asStrs_rel k1 k3] at k2
    exact .inr ⟨_, rfl, .inl k2⟩
  | _ => cases e
theorem new_at {s' : Shared} {p : Addr} {out : Array Value} {c : Nat} {vs : List V} (I : Inv X pins σ H s) (k : ∀ b o, s.heap.get? b = some o → s'.heap.get? b = some o) (g : s'.gens = s.gens) (o : s'.os = s.os) (hp : s.heap.objs.size ≤ p) (hg : s'.heap.get? p = some (seqObj "list" out c)) (hv : Vals vs out.toList) (hl : vs.length ≤ sizeLine) :
    Inv X pins σ (upd H p (.lst vs)) s' ∧ H p = none := by
  have hn : H p = none := I.hok.fresh hp
  have J : Inv X pins σ (upd H p (.lst vs)) { s with heap := s'.heap, gens := s'.gens, drawn := s'.drawn, toks := s'.toks } :=
    I.call (ch := []) (Un.laid k hp hn) (I.hok.laid k hp ⟨hl, out.toList, c, hv, by rw [Array.toArray_toList]; exact hg⟩) (by rw [g]; exact I.bare) (fun _ z => nomatch z)
  have e : s' = { s with heap := s'.heap, gens := s'.gens, drawn := s'.drawn, toks := s'.toks } := by
    cases s'
    cases s
    cases o
    rfl
  rw [e]
  exact ⟨J, hn⟩
theorem vals_strs {us : List Value} {ns : List Str} (h : StrsAre us ns) : Vals (ns.map V.str) us := by
  induction h with
  | nil => exact .nil
  | cons n t _ ih => exact .cons ⟨t, rfl⟩ ih
theorem boot_sorted : bootBuiltins "sorted" = some (.builtin "sorted") := by decide +kernel
theorem se_sortSet {a : Expr} {f : En → M Vl} {p p2 q pos : Pos} (hc : X.calm = true) (hm : X.mg "sorted" = none) (hm2 : X.mg "set" = none) (ha : SE X T W a f) (hg : Gl X "sorted" := by rfl) (hg2 : Gl X "set" := by rfl)
    (na : starEach [a] X.env = (false, eval a X.env) :: starEach [] X.env := by rfl) : SE X T W (.Call (.Name "sorted" p) [.Call (.Name "set" p2) [a] [] q] [] pos) (mSortSet f) := by
  refine ⟨fun pins s σ H Z I h => ?_⟩
  obtain ⟨ρ, μ, S, sr, er, h⟩ := h
  refine Call_ (ld_blt I hg hm boot_sorted ?_)
  refine callWith_builtin1 (args_cons ?_ rfl) rfl rfl
  refine Call_ (ld_blt I hg2 hm2 boot_set ?_)
  refine callWith_type1 (args_cons (thn (ha.run pins s σ H (fun x H1 => (∃ ns : List Int, SArgI X.K H1 x ns ∧ ns.length < 4000 ∧ ∀ p, H1 p = none → Z (.ref p) (upd H1 p (.lst ((sortI (dstG ns)).map V.int)))) ∨ ∃ ns : List Str, SArgS X.K H1 x ns ∧ ns.length < 4000 ∧ ∀ p, H1 p = none → Z (.ref p) (upd H1 p (.lst ((sortS (dstG ns)).map V.str)))) I ⟨ρ, μ, S, sr, er, Pst.bnd_ h fun v S1 H1 μ1 x e1 sr1 rx h1 => ?_⟩) fun v s1 ⟨x, H1, I1, r1, z⟩ => args_nil ?_) na) na rfl
  · have h2 : PstO X.K X.mg T (rl X.K X.mg) H1 μ1 S1.n Z (bSortSet v S1) := Pst.lift_ h1
    obtain ⟨pr, e⟩ := h2.some_
    unfold bSortSet at e h2
    cases q1 : setI S1 v with
    | some ns =>
      simp only [q1] at e h2
      by_cases hl : ns.length < 4000
      · simp only [if_pos hl] at h2
        exact .inl ⟨ns, setI_arg sr1 rx q1, hl, fin_lst h2 sr1 (rp_ints _)⟩
      · rw [if_neg hl] at e; cases e
    | none =>
      simp only [q1] at e h2
      cases q2 : setS S1 v with
      | none => simp only [q2] at e; cases e
      | some ns =>
        simp only [q2] at e h2
        by_cases hl : ns.length < 4000
        · simp only [if_pos hl] at h2
          exact .inr ⟨ns, setS_arg sr1 rx q2, hl, fin_lst h2 sr1 (rp_strs _)⟩
        · rw [if_neg hl] at e; cases e
  · rcases z with ⟨ns, h1, h2, z⟩ | ⟨ns, h1, h2, z⟩
    · refine set_I (I1.ok.hd hc) I1 r1 h1 h2 fun h' tk x kp => args_nil ?_
      have I2 : Inv X pins σ H1 { s1 with heap := h', toks := tk } := I1.kept fun b o e => kp b o e
      refine sorted_setI x (I1.ok.hd hc) fun s' p out c ns2 k g o hp hg hi hs hm => ?_
      have e := sortI_eq hm hs
      subst e
      have hl : ((sortI (dstG ns)).map V.int).length ≤ sizeLine := by
        have := dstG_len ns.length ns rfl
        rw [List.length_map, hm.length_eq, sizeLine_eq]; omega
      obtain ⟨J, hn⟩ := new_at (s' := s') I2 k g o hp hg (vals_of_ints hi) hl
      exact ⟨.ref p, _, J, rfl, z p hn⟩
    · refine set_S (I1.ok.hd hc) I1 r1 h1 h2 fun h' tk x kp => args_nil ?_
      have I2 : Inv X pins σ H1 { s1 with heap := h', toks := tk } := I1.kept fun b o e => kp b o e
      refine sorted_setS x (I1.ok.hd hc) fun s' p out c ns2 k g o hp hg hi hs hm => ?_
      have e := sortS_eq hm hs
      subst e
      have hl : ((sortS (dstG ns)).map V.str).length ≤ sizeLine := by
        have := dstG_len ns.length ns rfl
        rw [List.length_map, hm.length_eq, sizeLine_eq]; omega
      obtain ⟨J, hn⟩ := new_at (s' := s') I2 k g o hp hg (vals_strs hi) hl
      exact ⟨.ref p, _, J, rfl, z p hn⟩
theorem se_lenSetA {a : Expr} {f : En → M Vl} {p p2 q pos : Pos} (hc : X.calm = true) (hm : X.mg "len" = none) (hm2 : X.mg "set" = none) (ha : SE X T W a f) (hg : Gl X "len" := by rfl) (hg2 : Gl X "set" := by rfl)
    (na : starEach [a] X.env = (false, eval a X.env) :: starEach [] X.env := by rfl) : SE X T W (.Call (.Name "len" p) [.Call (.Name "set" p2) [a] [] q] [] pos) (mLenSetA f) := by
  refine ⟨fun pins s σ H Z I h => ?_⟩
  obtain ⟨ρ, μ, S, sr, er, h⟩ := h
  refine Call_ (ld_blt I hg hm boot_len ?_)
  refine callWith_builtin1 (args_cons ?_ rfl) rfl rfl
  refine Call_ (ld_blt I hg2 hm2 boot_set ?_)
  refine callWith_type1 (args_cons (thn (ha.run pins s σ H (fun x H1 => (∃ ns : List Int, SArgI X.K H1 x ns ∧ ns.length < 4000 ∧ Z (.int (dstG ns).length) H1) ∨ ∃ ns : List Str, SArgS X.K H1 x ns ∧ ns.length < 4000 ∧ Z (.int (dstG ns).length) H1) I ⟨ρ, μ, S, sr, er, Pst.bnd_ h fun v S1 H1 μ1 x e1 sr1 rx h1 => ?_⟩) fun v s1 ⟨x, H1, I1, r1, z⟩ => args_nil ?_) na) na rfl
  · have h2 : PstO X.K X.mg T (rl X.K X.mg) H1 μ1 S1.n Z (bLenSet v S1) := Pst.lift_ h1
    obtain ⟨pr, e⟩ := h2.some_
    unfold bLenSet at e h2
    cases q1 : setI S1 v with
    | some ns =>
      simp only [q1] at e h2
      by_cases hl : ns.length < 4000
      · simp only [if_pos hl] at h2
        exact .inl ⟨ns, setI_arg sr1 rx q1, hl, PstO.here h2 sr1 (.int _)⟩
      · rw [if_neg hl] at e; cases e
    | none =>
      simp only [q1] at e h2
      cases q2 : setS S1 v with
      | none => simp only [q2] at e; cases e
      | some ns =>
        simp only [q2] at e h2
        by_cases hl : ns.length < 4000
        · simp only [if_pos hl] at h2
          exact .inr ⟨ns, setS_arg sr1 rx q2, hl, PstO.here h2 sr1 (.int _)⟩
        · rw [if_neg hl] at e; cases e
  · rcases z with ⟨ns, h1, h2, z⟩ | ⟨ns, h1, h2, z⟩
    · refine set_I (I1.ok.hd hc) I1 r1 h1 h2 fun h' tk x kp => args_nil ?_
      have I2 : Inv X pins σ H1 { s1 with heap := h', toks := tk } := I1.kept fun b o e => kp b o e
      obtain ⟨o, es, ep, t, ho, hex, hd, hf, _, hn⟩ := x.size
      have := dstG_len ns.length ns rfl
      exact call_len_set ho hex hd hf (by rw [hn]; omega) ⟨.int (dstG ns).length, H1, I2.tok _, ⟨_, by rw [hn]⟩, z⟩
    · refine set_S (I1.ok.hd hc) I1 r1 h1 h2 fun h' tk x kp => args_nil ?_
      have I2 : Inv X pins σ H1 { s1 with heap := h', toks := tk } := I1.kept fun b o e => kp b o e
      obtain ⟨o, es, ep, t, ho, hex, hd, hf, _, hn⟩ := x.size
      have := dstG_len ns.length ns rfl
      exact call_len_set ho hex hd hf (by rw [hn]; omega) ⟨.int (dstG ns).length, H1, I2.tok _, ⟨_, by rw [hn]⟩, z⟩
end
end Q

set_option linter.all false
set_option maxRecDepth 100000
set_option maxHeartbeats 1000000
namespace Q
open PySem PySem.Spec PyProof.Rows L2

/-! ### calls by places, then by keywords -/
def mCallKP (f : List Vl → M Vl) (np : Nat) (perm : List Nat) (g h : En → M (List Vl)) : En → M Vl := fun ρ => bnd (g ρ) fun us S => if us.length = np then bnd (h ρ) (fun ws => f (us ++ reord perm ws)) S else none
structure CalKP (g : Bool) (P : Program) (w : World) (K : PySem.W.Frag) (mg : Str → Option Value) (T : Tb) (base : Heap) (k : Nat) (x : Str) (np : Nat) (ks : List Str) (perm : List Nat) (f : List Vl → M Vl) : Prop where
  ex : ∃ (a : Addr) (fd : FuncData) (ps : List Str), mg x = some (.ref a) ∧ PySem.W.keepIn K (.ref a) = true ∧ FnQ g P w K mg base k a fd ps (spF K mg T ps.length f) ∧ (∀ as S, as.length ≠ ps.length → f as S = none) ∧
    ∀ (us ws : List Value), us.length = np → (us ++ reord perm ws).length = ps.length → bindArgs fd ⟨us, ks.zip ws⟩ = pure (ps.zip (us ++ reord perm ws))
theorem Vals.app {vs ws : List V} {us ts : List Value} (h : Vals vs us) (k : Vals ws ts) : Vals (vs ++ ws) (us ++ ts) := by
  induction h with
  | nil => exact k
  | cons r1 _ ih => exact .cons r1 ih
theorem RpAll.app {K : PySem.W.Frag} {mg : Str → Option Value} {H : Hp} {μ : Nat → Addr} {N : Nat} {vs ws : List Vl} {us ts : List V} (h : RpAll K mg H μ N vs us) (k : RpAll K mg H μ N ws ts) : RpAll K mg H μ N (vs ++ ws) (us ++ ts) := by
  induction vs generalizing us with
  | nil => cases h; exact k
  | cons v vs ih => cases h with | cons r1 r2 => exact .cons r1 (ih r2)
section
variable {X : Cx} {T : Tb} {W : WX} {k np : Nat} {x : Str} {f : List Vl → M Vl} {p pos : Pos} {ks : List Str} {perm : List Nat} {kws : List Keyword} {g h : En → M (List Vl)} {e : Expr} {es : List Expr}
theorem se_callKP {b : Bool} (c : CalKP b X.prog X.w X.K X.mg T X.base k x np ks perm f) (hr : Room k X.A) (hgd : b = true → X.A.guards = some []) (tk : Takes X W) (ha : SA X T W (e :: es) g) (hkw : SK X T W kws h) (hg : Gl X x := by rfl) (hdb : (x == ("__debug__" : Str)) = false := by decide)
    (hall : (backToKw pos (keywordEach kws X.env)).all (·.1.isSome) = true := by rfl) (hks : (backToKw pos (keywordEach kws X.env)).filterMap (·.1) = ks := by rfl) (he : starEach (e :: es) X.env = (false, eval e X.env) :: starEach es X.env := by rfl)
    (hpl : ((backTo pos (starEach (e :: es) X.env)).any (·.1) || (backToKw pos (keywordEach kws X.env)).any (·.1.isNone)) = false := by rfl) : SE X T W (.Call (.Name x p) (e :: es) kws pos) (mCallKP f np perm g h) := by
  obtain ⟨a, fd, ps, hm, hk, F, hlen, hb⟩ := c.ex
  refine ⟨fun pins s σ H Q I hh => ?_⟩
  obtain ⟨ρ, μ, S, sr, er, hh⟩ := hh
  refine wpAny_Call_Name_kw (ld_glob I hg hm ?_ hdb)
  refine PySem.W.callWith_KW (h₀ := X.base) I.ok.mod.kin hk hall (thn (ha.run pos pins s σ H (fun us H1 => us.length = np ∧ ∃ (ρ : En) (μ1 : Nat → Addr) (S1 : Sto) (vs : List Vl), SRel X.K X.mg T H1 μ1 S1 ∧ ERel X.K X.mg H1 μ1 S1.n ρ σ ∧ RpAll X.K X.mg H1 μ1 S1.n vs us ∧ Pst X.K X.mg T (fun cls d H' => W cls d σ H') (rl X.K X.mg) H1 μ1 S1.n Q (bnd (h ρ) (fun ws => f (vs ++ reord perm ws)) S1)) I ⟨ρ, μ, S, sr, er, Pst.bnd_ hh fun v S1 H1 μ1 x e1 sr1 rx h1 => ?_⟩) fun us s1 ⟨vs, H1, I1, r, hul, ρ2, μ2, S2, vl, sr2, er2, rv2, q⟩ => ?_) hpl he
  · by_cases hz : v.length = np
    · rw [if_pos hz] at h1
      exact ⟨by rw [← rx.length]; exact hz, ρ, μ1, S1, v, sr1, er.ext e1, rx, h1⟩
    · rw [if_neg hz] at h1; exact h1.elim
  · refine thn (hkw.run pos pins s1 σ H1 (fun ws H2 => spF X.K X.mg T ps.length f (vs ++ reord perm ws) H2 Q (WE W σ)) I1 ⟨ρ2, μ2, S2, sr2, er2, Pst.bnd_ q fun v S3 H3 μ3 x e3 sr3 rx h3 => ?_⟩) fun ws s2 ⟨zs, H2, I2, rz, q2⟩ => ⟨I2.kIn, ?_⟩
    · have rr := RpAll.app (rv2.ext e3) (reord_rp rx perm)
      refine ⟨?_, μ3, S3, vl ++ reord perm v, sr3, rr, h3⟩
      rw [← rr.length]
      by_cases hz : (vl ++ reord perm v).length = ps.length
      · exact hz
      · rw [hlen _ _ hz] at h3; exact h3.elim
    · rw [hks]
      have r2 := Vals.app r (reord_vals rz perm)
      have hl : (us ++ reord perm ws).length = ps.length := by rw [← r2.length]; exact F.len _ _ _ _ q2
      refine wpAny_call (codeAny_mono (F.run X.A X.stack s2 H2 ⟨us, ks.zip ws⟩ (us ++ reord perm ws) (vs ++ reord perm zs) Q (WE W σ) hr hgd I2.env0 (.of_eq (hb us ws (by rw [← r.length]; exact hul) hl)) r2 q2) fun r s' hq => ?_)
      cases r with
      | error e => exact passAt tk σ pins H2 s2 e s' I2 hq
      | ok fl =>
        cases fl with
        | ret u => exact I2.after hq
        | next => exact False.elim hq
        | brk => exact False.elim hq
        | cont => exact False.elim hq
end
section
variable {P : Program} {w : World} {K : PySem.W.Frag} {mg : Str → Option Value} {T : Tb} {base : Heap}
theorem FDx.calKP {g : Bool} {x : Str} {st : Stmt} {fd : FuncData} {cdv : Value} {ps ks : List Str} {perm : List Nat} {k np : Nat} {h : List Vl → M Vl} (F : FDx K x st fd cdv) (hm : mg x = some (.ref (He.ga K x)))
    (hb : ∀ (kV doc pm : Value) (an : Option Addr) (ct : Value) (us ws : List Value), us.length = np → (us ++ reord perm ws).length = ps.length → bindArgs (PySem.W.fnOf x x (defArgs st) (defBody st) (defScope st) .none kV doc pm an cdv ct) ⟨us, ks.zip ws⟩ = pure (ps.zip (us ++ reord perm ws)))
    (ok : FnQ g P w K mg base k (He.ga K x) fd ps (spF K mg T ps.length h)) (hl : ∀ as S, as.length ≠ ps.length → h as S = none) : CalKP g P w K mg T base k x np ks perm h := by
  obtain ⟨oc, od, kV, doc, pm, an, ct, osl, rfl, lk, hcd⟩ := F.ex
  exact ⟨⟨_, _, ps, hm, F.kp, ok, hl, hb kV doc pm an ct⟩⟩
end
/-! ### texts in order -/
def bLtS : Vl → Vl → MO Vl := fun a b S => match a, b with
  | .str x, .str y => some (.bl (decide (x.cps.toList < y.cps.toList)), S)
  | _, _ => none
theorem os_ltS {X : Cx} {T : Tb} : OpS X T (compareOp .Lt) bLtS := by
  intro pins s σ H x y v u Q I rx ry h
  obtain ⟨μ, S, a, b, sr, ra, rb, h⟩ := h
  obtain ⟨p, e⟩ := h.some_
  unfold bLtS at e h
  split at e
  · rename_i a b
    cases ra
    cases rb
    exact op_lt_str pins s σ H _ _ v u Q I rx ry ⟨a, b, rfl, rfl, PstO.here h sr (.bl _)⟩
  · cases e
/-! ### wanted ends -/
section
variable {ρ : En} {S : Sto} {E : XP} {Z : Vl → Sto → Prop}
theorem a_callKP {f : List Vl → M Vl} {np : Nat} {p : List Nat} {g h : En → M (List Vl)} (q : wpe (g ρ S) E fun us S1 => us.length = np ∧ wpe (h ρ S1) E fun ws S2 => wpe (f (us ++ reord p ws) S2) E Z) : wpe (mCallKP f np p g h ρ S) E Z := by
  unfold mCallKP
  rw [w_bnd]
  refine wpe_mono q (fun us S1 ⟨h1, h2⟩ => ?_) fun _ _ _ _ z => z
  simp only [if_pos h1]
  rw [w_bnd]
  exact h2
theorem a_sortSet {f : En → M Vl} (q : wpe (f ρ S) E fun v S1 => wpo (bSortSet v S1) Z) : wpe (mSortSet f ρ S) E Z := by
  unfold mSortSet
  rw [w_bnd]
  refine wpe_mono q (fun v S1 h => ?_) fun _ _ _ _ z => z
  rw [w_lift]; exact h
theorem a_lenSetA {f : En → M Vl} (q : wpe (f ρ S) E fun v S1 => wpo (bLenSet v S1) Z) : wpe (mLenSetA f ρ S) E Z := by
  unfold mLenSetA
  rw [w_bnd]
  refine wpe_mono q (fun v S1 h => ?_) fun _ _ _ _ z => z
  rw [w_lift]; exact h
end
end Q

set_option linter.all false
set_option maxRecDepth 100000
set_option maxHeartbeats 400000
namespace Q
open PySem PySem.Spec PyProof.Rows L2

/-! ### comprehensions of one name: all([..]), [.. if ..] against [] -/
section
variable {ρ : En} {S : Sto} {E : XP} {Z : Vl → Sto → Prop}
theorem w_all {fi : En → M Nxt} {i : Nat} {f : En → M Vl} (h : wpe (fi ρ S) E fun nx S1 => ∃ (xs : List Vl) (p : Vl → Bool), xs.length ≤ 1000000 ∧ (∀ (j : Nat) (S2 : Sto), j ≤ xs.length → Gr 0 S1 S2 → nx j S2 = some xs[j]?) ∧
      (∀ x ∈ xs, ∀ S2, Gr 0 S1 S2 → wpe (f ((wipeE ρ [i]).set i (some x)) S2) noE fun y S3 => y = .bl (p x) ∧ Gr 0 S2 S3) ∧ ∀ S2, Gr 0 S1 S2 → Z (.bl (xs.all p)) S2) :
    wpe (mBi bAll (mCons (mLc fi (.nm i) mTrue f [i]) mNil) ρ S) E Z := by
  rw [w_bi, w_cons]
  refine w_lcmap (wpe_mono h (fun nx S1 q => ?_) fun _ _ _ _ z => z)
  obtain ⟨xs, p, h1, h2, h3, h4⟩ := q
  refine ⟨xs, xs.map fun x => .bl (p x), by rw [List.length_map], h1, h2, ?_, ?_⟩
  · intro j x y S2 hx hy g
    rw [List.getElem?_map, hx] at hy
    cases hy
    refine ⟨_, rfl, ?_⟩
    rw [w_true]
    refine ⟨rfl, Gr.refl, ?_⟩
    exact h3 x (List.mem_of_getElem? hx) S2 g
  · intro S2 g hn hs
    rw [w_nil]
    rw [o_all (bs := xs.map p) (by rw [getR_l hs, List.map_map]; rfl)]
    have e : (xs.map p).all id = xs.all p := by rw [List.all_map]; rfl
    rw [e]
    exact h4 S2 g
/-- what is let through, gathered -/
theorem w_flt {fi : En → M Nxt} {i : Nat} {c : En → M Bool} {f : En → M Vl} (h : wpe (fi ρ S) E fun nx S1 => ∃ (xs : List Vl) (p : Vl → Bool) (k : Vl → Vl), xs.length ≤ 1000000 ∧ (∀ (j : Nat) (S2 : Sto), j ≤ xs.length → Gr 0 S1 S2 → nx j S2 = some xs[j]?) ∧
      (∀ x ∈ xs, ∀ S2, Gr 0 S1 S2 → wpe (c ((wipeE ρ [i]).set i (some x)) S2) noE fun b S3 => b = p x ∧ Gr 0 S2 S3 ∧ (b = true → wpe (f ((wipeE ρ [i]).set i (some x)) S3) noE fun y S4 => y = k x ∧ Gr 0 S3 S4)) ∧
      ∀ S2, Gr 0 S1 S2 → S1.n < S2.n → S2.at_ S1.n = .lst ((xs.filter p).map k) → Z (.ref S1.n) S2) : wpe (mLc fi (.nm i) c f [i] ρ S) E Z := by
  refine w_lc (wpe_mono h (fun nx S1 q => ?_) fun _ _ _ _ z => z)
  obtain ⟨xs, p, k, h1, h2, h3, h4⟩ := q
  refine ⟨xs, fun j acc S2 => acc = ((xs.take j).filter p).map k ∧ S2.at_ S1.n = .lst acc ∧ S1.n < S2.n ∧ Gr 0 S1 S2, ⟨by simp, push_same, Nat.lt_succ_self _, Gr.push⟩, fun j acc S2 hj q => h2 j S2 hj q.2.2.2, fun j x acc S2 hx q => ?_, fun acc S2 q => ?_⟩
  · obtain ⟨rfl, q1, q2, q3⟩ := q
    refine ⟨_, rfl, wpe_mono (h3 x (List.mem_of_getElem? hx) S2 q3) (fun b S3 z => ?_) fun _ _ _ _ z => z⟩
    obtain ⟨rfl, g3, h5⟩ := z
    have et : xs.take (j + 1) = xs.take j ++ [x] := take_snoc hx
    have at3 : S3.at_ S1.n = .lst (((xs.take j).filter p).map k) := (g3.at_ _ (Nat.zero_le _) q2).trans q1
    by_cases hp : p x = true
    · rw [if_pos hp]
      refine wpe_mono (h5 hp) (fun y S4 z => ?_) fun _ _ _ _ z => z
      obtain ⟨rfl, g4⟩ := z
      refine ⟨(g4.at_ _ (Nat.zero_le _) (Nat.lt_of_lt_of_le q2 g3.n)).trans at3, ?_, ?_, set_same, Nat.lt_of_lt_of_le q2 (Nat.le_trans g3.n g4.n), ((q3.trans g3).trans g4).set_new (Nat.le_refl _)⟩
      · have l1 : (((xs.take j).filter p).map k).length ≤ xs.length := by
          rw [List.length_map]
          exact Nat.le_trans (List.length_filter_le _ _) (by rw [List.length_take]; omega)
        rw [show sizeLine = 16777216 from rfl]; omega
      · rw [et, List.filter_append, List.map_append]
        simp [hp]
    · rw [if_neg hp]
      refine ⟨?_, at3, Nat.lt_of_lt_of_le q2 g3.n, q3.trans g3⟩
      rw [et, List.filter_append, List.map_append]
      simp [hp]
  · obtain ⟨rfl, q1, q2, q3⟩ := q
    rw [List.take_length] at q1
    exact h4 S2 q3 q2 q1
theorem w_any1 {fi : En → M Nxt} {i : Nat} {c : En → M Bool} {f : En → M Vl} (h : wpe (fi ρ S) E fun nx S1 => ∃ (xs : List Vl) (p : Vl → Bool) (k : Vl → Vl), xs.length ≤ 1000000 ∧ (∀ (j : Nat) (S2 : Sto), j ≤ xs.length → Gr 0 S1 S2 → nx j S2 = some xs[j]?) ∧
      (∀ x ∈ xs, ∃ d, ∀ S, Dat 0 S 5 (k x) d) ∧
      (∀ x ∈ xs, ∀ S2, Gr 0 S1 S2 → wpe (c ((wipeE ρ [i]).set i (some x)) S2) noE fun b S3 => b = p x ∧ Gr 0 S2 S3 ∧ (b = true → wpe (f ((wipeE ρ [i]).set i (some x)) S3) noE fun y S4 => y = k x ∧ Gr 0 S3 S4)) ∧
      ∀ S2, Gr 0 S1 S2 → Z (.bl (xs.any p)) S2) : wpe (mBin bNe (mLc fi (.nm i) c f [i]) (mLst mNil) ρ S) E Z := by
  rw [w_bin]
  refine w_flt (wpe_mono h (fun nx S1 q => ?_) fun _ _ _ _ z => z)
  obtain ⟨xs, p, k, h1, h2, hd, h3, h4⟩ := q
  refine ⟨xs, p, k, h1, h2, h3, fun S2 g hn hs => ?_⟩
  rw [w_lst, w_nil]
  refine ⟨by decide, ?_⟩
  rw [o_neNil (lo := 0) ((push_lt hn).trans hs) (fun x hx => ?_) push_same]
  · have e : (!((xs.filter p).map k).isEmpty) = xs.any p := by
      clear h1 h2 hd h3 h4 hs
      induction xs with
      | nil => rfl
      | cons x xs ih => by_cases hp : p x = true <;> simp_all
    rw [e]
    exact h4 _ (g.trans Gr.push)
  · obtain ⟨y, hy, rfl⟩ := List.mem_map.mp hx
    obtain ⟨d, hd⟩ := hd y (List.mem_filter.mp hy).1
    exact ⟨d, hd _⟩
theorem w_any0 {fi : En → M Nxt} {i : Nat} {c : En → M Bool} {f : En → M Vl} (h : wpe (fi ρ S) E fun nx S1 => ∃ (xs : List Vl) (p : Vl → Bool) (k : Vl → Vl), xs.length ≤ 1000000 ∧ (∀ (j : Nat) (S2 : Sto), j ≤ xs.length → Gr 0 S1 S2 → nx j S2 = some xs[j]?) ∧
      (∀ x ∈ xs, ∃ d, ∀ S, Dat 0 S 5 (k x) d) ∧
      (∀ x ∈ xs, ∀ S2, Gr 0 S1 S2 → wpe (c ((wipeE ρ [i]).set i (some x)) S2) noE fun b S3 => b = p x ∧ Gr 0 S2 S3 ∧ (b = true → wpe (f ((wipeE ρ [i]).set i (some x)) S3) noE fun y S4 => y = k x ∧ Gr 0 S3 S4)) ∧
      ∀ S2, Gr 0 S1 S2 → Z (.bl (!xs.any p)) S2) : wpe (mBin bEq (mLc fi (.nm i) c f [i]) (mLst mNil) ρ S) E Z := by
  rw [w_bin]
  refine w_flt (wpe_mono h (fun nx S1 q => ?_) fun _ _ _ _ z => z)
  obtain ⟨xs, p, k, h1, h2, hd, h3, h4⟩ := q
  refine ⟨xs, p, k, h1, h2, h3, fun S2 g hn hs => ?_⟩
  rw [w_lst, w_nil]
  refine ⟨by decide, ?_⟩
  rw [o_eqNil (lo := 0) ((push_lt hn).trans hs) (fun x hx => ?_) push_same]
  · have e : ((xs.filter p).map k).isEmpty = !xs.any p := by
      clear h1 h2 hd h3 h4 hs
      induction xs with
      | nil => rfl
      | cons x xs ih => by_cases hp : p x = true <;> simp_all
    rw [e]
    exact h4 _ (g.trans Gr.push)
  · obtain ⟨y, hy, rfl⟩ := List.mem_map.mp hx
    obtain ⟨d, hd⟩ := hd y (List.mem_filter.mp hy).1
    exact ⟨d, hd _⟩
theorem a_chain {m1 m2 : Vl → Vl → MO Vl} {fa fb fc : En → M Vl} (q : wpe (fa ρ S) E fun x S1 => wpe (fb ρ S1) E fun y S2 => wpo (m1 x y S2) fun z S3 => ∃ b, z = .bl b ∧ if b = true then wpe (fc ρ S3) E fun w S4 => wpo (m2 y w S4) Z else Z (.bl false) S3) : wpe (mChain m1 m2 fa fb fc ρ S) E Z := by rw [w_chain]; exact q
theorem a_notV {f : En → M Vl} (q : wpe (f ρ S) E fun v S1 => ∃ b, v = .bl b ∧ Z (.bl (!b)) S1) : wpe (mNotV f ρ S) E Z := by rw [w_notV]; exact q
theorem o_ats {z : Str} {k c : Nat} (h : z.cps.toList[k]? = some c) (hl : z.length ≤ 1000000) : wpo (bSub' (.str z) (.int (k : Nat)) S) Z = Z (.str ⟨#[c]⟩) S := by
  have hk : k < z.cps.toList.length := (List.getElem?_eq_some_iff.mp h).1
  have hk2 : z.cps.toList.length = z.length := by rw [Array.length_toList]; rfl
  have e : bSub' (.str z) (.int (k : Nat)) S = some (.str ⟨#[c]⟩, S) := by
    show (if z.length ≤ sizeLine then match atI z.cps.toList (k : Int) with
        | some c => some (Vl.str ⟨#[c]⟩, S)
        | none => none
      else none) = _
    rw [if_pos (by rw [show sizeLine = 16777216 from rfl]; omega), atI_at h (by omega)]
  rw [e]; rfl
theorem o_ltS {x y : Str} : wpo (bLtS (.str x) (.str y) S) Z = Z (.bl (decide (x.cps.toList < y.cps.toList))) S := rfl
theorem o_index {x : Str} {c k : Nat} (h : x.cps.toList[k]? = some c) (hno : ∀ i, i < k → x.cps.toList[i]? ≠ some c) : wpo (mtIndexS (.str x) [.str ⟨#[c]⟩] S) Z = Z (.int (k : Nat)) S := by
  have e : mtIndexS (.str x) [.str ⟨#[c]⟩] S = some (.int (k : Nat), S) := by
    show (match idxS x ⟨#[c]⟩ with | some k => some (Vl.int (k : Nat), S) | none => none) = _
    rw [idxS_at h hno]
  rw [e]; rfl
theorem o_listS {x : Str} (h : x.length ≤ 1000000) : wpo (bListS [.str x] S) Z = Z (.ref S.n) (S.push (.lst ((sgs x).map Vl.str))) := by
  have e : bListS [.str x] S = some (.ref S.n, S.push (.lst ((sgs x).map Vl.str))) := by
    show (if x.cps.size ≤ sizeLine then _ else none) = _
    rw [if_pos (by show x.length ≤ _; rw [show sizeLine = 16777216 from rfl]; omega)]
  rw [e]; rfl
theorem o_setS {x : Str} (h : x.length < 4000) : wpo (bSortSet (.str x) S) Z = Z (.ref S.n) (S.push (.lst ((sortS (dstG (sgs x))).map Vl.str))) := by
  have e : bSortSet (.str x) S = some (.ref S.n, S.push (.lst ((sortS (dstG (sgs x))).map Vl.str))) := by
    show (if (sgs x).length < 4000 then some (Vl.ref S.n, S.push (.lst ((sortS (dstG (sgs x))).map Vl.str))) else none) = _
    rw [if_pos (by rw [sgs_len]; exact h)]
  rw [e]; rfl
theorem asStrs_map : ∀ zs : List Str, asStrs (zs.map Vl.str) = some zs
  | [] => rfl
  | z :: zs => by
    show (asStrs (zs.map Vl.str)).map (z :: ·) = _
    rw [asStrs_map zs]; rfl
theorem o_joinl {n : Nat} {zs : List Str} (h : S.at_ n = .lst (zs.map Vl.str)) (hl : (zs.map (·.length)).sum ≤ 1000000) : wpo (mtJoin (.str "") [.ref n] S) Z = Z (.str (Txt.join "" zs)) S := by
  have e0 : ("" : Str).length = 0 := rfl
  have e : mtJoin (.str "") [.ref n] S = some (.str (Txt.join "" zs), S) := by
    show (match (match (getR S n).bind asStrs with | some ys => if (ys.map (·.length)).sum + ys.length * ("" : Str).length ≤ 16777216 then some (Txt.join "" ys) else none | none => none) with | some z => some (Vl.str z, S) | none => none) = _
    rw [getR_l h, Option.bind_some, asStrs_map]
    simp only
    rw [if_pos (by rw [e0, Nat.mul_zero]; omega)]
  rw [e]; rfl
end
/-! ### lists in strict order -/
theorem asc_pw {α : Type} {lt : α → α → Prop} (tr : ∀ a b c, lt a b → lt b c → lt a c) : ∀ xs : List α, (∀ (k : Nat) (a b : α), xs[k]? = some a → xs[k + 1]? = some b → lt a b) → xs.Pairwise lt
  | [], _ => .nil
  | x :: xs, h => by
    have ih := asc_pw tr xs fun k a b h1 h2 => h (k + 1) a b (by simpa using h1) (by simpa using h2)
    refine List.pairwise_cons.mpr ⟨fun y hy => ?_, ih⟩
    cases xs with
    | nil => cases hy
    | cons z zs =>
      have h0 := h 0 x z rfl rfl
      rcases List.mem_cons.mp hy with e | hy
      · rw [e]; exact h0
      · exact tr _ _ _ h0 ((List.pairwise_cons.mp ih).1 y hy)
theorem pw_asc {α : Type} {lt : α → α → Prop} {xs : List α} (h : xs.Pairwise lt) (k : Nat) (a b : α) (h1 : xs[k]? = some a) (h2 : xs[k + 1]? = some b) : lt a b := by
  obtain ⟨l1, e1⟩ := List.getElem?_eq_some_iff.mp h1
  obtain ⟨l2, e2⟩ := List.getElem?_eq_some_iff.mp h2
  subst e1; subst e2
  exact List.pairwise_iff_getElem.mp h k (k + 1) l1 l2 (Nat.lt_succ_self k)
theorem dstG_nodup {κ : Type} [DecidableEq κ] : ∀ (n : Nat) (xs : List κ), xs.length = n → xs.Nodup → dstG xs = xs
  | 0, xs, h, _ => by rw [List.length_eq_zero_iff.mp h]; rfl
  | n + 1, xs, h, nd => by
    obtain ⟨ys, y, rfl⟩ : ∃ ys y, xs = ys ++ [y] := ⟨xs.dropLast, xs.getLast (by intro z; subst z; cases h), (List.dropLast_concat_getLast _).symm⟩
    have h2 : ys.length = n := by simpa using h
    have nd2 := (List.perm_append_singleton y ys).nodup_iff.mp nd
    obtain ⟨n1, n2⟩ := List.nodup_cons.mp nd2
    rw [dstG_snoc, dstG_nodup n ys h2 n2, if_neg n1]
theorem lt_one {a b : Nat} : ([a] : List Nat) < [b] ↔ a < b := by rw [List.cons_lt_cons_iff]; simp
theorem sgs_pw {z : Str} : (sgs z).Pairwise (fun a b => a.cps.toList < b.cps.toList) ↔ z.cps.toList.Pairwise (· < ·) := by
  unfold sgs
  rw [List.pairwise_map]
  exact ⟨fun h => h.imp fun {a b} h => lt_one.mp h, fun h => h.imp fun {a b} h => lt_one.mpr h⟩
theorem sortS_asc {z : Str} : sortS (dstG (sgs z)) = sgs z ↔ z.cps.toList.Pairwise (· < ·) := by
  rw [← sgs_pw]
  constructor
  · intro h
    have p : (sortS (dstG (sgs z))).Perm (dstG (sgs z)) := List.mergeSort_perm _ _
    have nd : (sortS (dstG (sgs z))).Nodup := p.nodup_iff.mpr (nodup_dstG _ _ rfl)
    have so : (sortS (dstG (sgs z))).Pairwise fun a b => geS a b = true := List.pairwise_mergeSort (le := geS) (fun a b c x y => geS_trans x y) geS_total _
    rw [h] at nd so
    refine List.Pairwise.imp ?_ (so.and nd)
    rintro a b ⟨h1, h2⟩
    have h3 := geS_iff.mp h1
    rcases List.le_iff_lt_or_eq.mp h3 with h4 | h4
    · exact h4
    · exact absurd (geS_anti h1 (geS_iff.mpr (by rw [h4]; exact List.le_refl _))) h2
  · intro h
    have nd : (sgs z).Nodup := h.imp fun {a b} h e => by rw [e] at h; exact List.lt_irrefl _ h
    rw [dstG_nodup _ _ rfl nd]
    refine List.Perm.eq_of_pairwise (le := fun a b => geS a b = true) (fun a b _ _ x y => geS_anti x y) (List.pairwise_mergeSort (le := geS) (fun a b c x y => geS_trans x y) geS_total _) (h.imp fun {a b} h => geS_iff.mpr (List.le_of_lt h)) (List.mergeSort_perm _ _)
theorem join_sgs (cs : List Nat) : Txt.join "" (cs.map fun c => (⟨#[c]⟩ : Str)) = ⟨cs.toArray⟩ := by
  refine TL.ext_tl ?_
  rw [TL.join_eq, TL.tl_join]
  have key : ∀ L : List (List Nat), TL.joinL [] L = L.flatten := by
    intro L
    induction L with
    | nil => rfl
    | cons p L ih =>
      cases L with
      | nil => simp [TL.joinL]
      | cons q r => rw [TL.joinL, ih]; simp
  show TL.joinL [] _ = cs
  rw [key, List.map_map]
  induction cs with
  | nil => rfl
  | cons c cs ih =>
    rw [List.map_cons, List.flatten_cons, ih]
    rfl
theorem join_sorted {z : Str} : Txt.join "" (sortS (dstG (sgs z))) = z ↔ z.cps.toList.Pairwise (· < ·) := by
  rw [← sortS_asc]
  have p : (sortS (dstG (sgs z))).Perm (dstG (sgs z)) := List.mergeSort_perm _ _
  obtain ⟨cs, hc⟩ : ∃ cs : List Nat, sortS (dstG (sgs z)) = cs.map fun c => (⟨#[c]⟩ : Str) := by
    have hm : ∀ x ∈ sortS (dstG (sgs z)), ∃ c, x = (⟨#[c]⟩ : Str) := fun x hx => by
      have := (mem_dstG _ _ rfl).mp (p.mem_iff.mp hx)
      unfold sgs at this
      obtain ⟨c, _, e⟩ := List.mem_map.mp this
      exact ⟨c, e.symm⟩
    generalize sortS (dstG (sgs z)) = L at hm
    induction L with
    | nil => exact ⟨[], rfl⟩
    | cons x L ih =>
      obtain ⟨c, rfl⟩ := hm x List.mem_cons_self
      obtain ⟨cs, e⟩ := ih fun y hy => hm y (List.mem_cons_of_mem _ hy)
      exact ⟨c :: cs, by rw [e]; rfl⟩
  rw [hc, join_sgs]
  constructor
  · intro h
    rw [← h]; rfl
  · intro h
    refine TL.ext_tl ?_
    show cs = z.cps.toList
    unfold sgs at h
    generalize z.cps.toList = ds at h
    clear hc p
    induction cs generalizing ds with
    | nil => cases ds with
      | nil => rfl
      | cons d ds => cases h
    | cons c cs ih =>
      cases ds with
      | nil => cases h
      | cons d ds =>
        simp only [List.map_cons, List.cons.injEq] at h
        have e : c = d := by have := congrArg (fun s : Str => s.cps.toList) h.1; simpa using this
        rw [e, ih ds h.2]
/-! ### lists of ints compared -/
theorem toDWs_ints {lk : Nat → Option PyData} : ∀ ns : List Int, toDWs lk (ns.map Vl.int) = some (ns.map PyData.int)
  | [] => rfl
  | n :: ns => by rw [List.map_cons, toDWs, toDWs_ints ns]; rfl
theorem lay_ints : ∀ ns : List Int, PyData.canLayAll0 (ns.map .int) = true
  | [] => rfl
  | _ :: ns => by
    show (PyData.canLay0 _ && PyData.canLayAll0 _) = true
    rw [lay_ints ns]; rfl
theorem dep_ints (ns : List Int) : (PyData.list (ns.map .int)).depth ≤ 1 := by
  have h := depth_tupI ns
  have e : (PyData.list (ns.map .int)).depth = (PyData.tuple (ns.map .int)).depth := by unfold PyData.depth; rfl
  rw [e, h]
  exact Nat.le_refl _
end Q

set_option linter.all false
set_option maxRecDepth 100000
set_option maxHeartbeats 400000
namespace Q
open PySem PySem.Spec PyProof.Rows L2

/-! ### comprehensions that draw -/
section
variable {ρ : En} {S : Sto} {E : XP} {Z : Vl → Sto → Prop} {lo d g c T B : Nat}
theorem St.setNew {k : Nat} {o : Ob} (s : St lo d g c T S) (h : lo ≤ k) : St lo d g c T (S.set k o) := by
  obtain ⟨⟨r, t, h1, h2, h3⟩, ⟨gs, a⟩, ⟨cs, b⟩, e1, e2, e3, e4, e5, e6, e7⟩ := s
  exact ⟨⟨r, t, by rw [set_ne (by omega)]; exact h1, h2, h3⟩, ⟨gs, by rw [set_ne (by omega)]; exact a⟩, ⟨cs, by rw [set_ne (by omega)]; exact b⟩, e1, e2, e3, e4, e5, e6, e7⟩
theorem w_lcd {fi : En → M Nxt} {i : Nat} {f : En → M Vl} (P : Vl → Prop) (h : wpe (fi ρ S) E fun nx S1 => ∃ xs : List Vl, xs.length ≤ 1000000 ∧ St lo d g c T S1 ∧ (∀ (j : Nat) (S2 : Sto), j ≤ xs.length → Gr lo S1 S2 → nx j S2 = some xs[j]?) ∧
      (∀ x ∈ xs, ∀ S2 T2, T2 + B ≤ T + xs.length * B → St lo d g c T2 S2 → Gr lo S1 S2 → wpe (f ((wipeE ρ [i]).set i (some x)) S2) noE fun y S3 => P y ∧ St lo d g c (T2 + B) S3 ∧ Gr lo S2 S3) ∧
      ∀ ys S2, ys.length = xs.length → (∀ y ∈ ys, P y) → St lo d g c (T + xs.length * B) S2 → Gr lo S1 S2 → S1.n < S2.n → S2.at_ S1.n = .lst ys → Z (.ref S1.n) S2) : wpe (mLc fi (.nm i) mTrue f [i] ρ S) E Z := by
  refine w_lc (wpe_mono h (fun nx S1 q => ?_) fun _ _ _ _ z => z)
  obtain ⟨xs, h1, s1, h2, h3, h4⟩ := q
  refine ⟨xs, fun j acc S2 => acc.length = j ∧ (∀ y ∈ acc, P y) ∧ St lo d g c (T + j * B) S2 ∧ S2.at_ S1.n = .lst acc ∧ S1.n < S2.n ∧ Gr lo S1 S2, ⟨rfl, by simp, by rw [Nat.zero_mul]; exact s1.gr Gr.push, push_same, Nat.lt_succ_self _, Gr.push⟩, fun j acc S2 hj q => h2 j S2 hj q.2.2.2.2.2, fun j x acc S2 hx q => ?_, fun acc S2 q => ?_⟩
  · obtain ⟨q0, q1, q2, q3, q4, q5⟩ := q
    have hj : j < xs.length := (List.getElem?_eq_some_iff.mp hx).1
    refine ⟨_, rfl, ?_⟩
    rw [w_true, if_pos rfl]
    have hb : T + j * B + B ≤ T + xs.length * B := by
      have : (j + 1) * B ≤ xs.length * B := Nat.mul_le_mul_right B hj
      rw [Nat.succ_mul] at this; omega
    refine wpe_mono (h3 x (List.mem_of_getElem? hx) S2 (T + j * B) hb q2 q5) (fun y S3 z => ?_) fun _ _ _ _ z => z
    obtain ⟨p, s3, g3⟩ := z
    refine ⟨(g3.at_ _ s1.ln q4).trans q3, by rw [q0, show sizeLine = 16777216 from rfl]; omega, by rw [List.length_append, q0]; rfl, ?_, ?_, set_same, Nat.lt_of_lt_of_le q4 g3.n, (q5.trans g3).set_new (Nat.le_refl _)⟩
    · intro z hz
      rcases List.mem_append.mp hz with hz | hz
      · exact q1 z hz
      · rw [List.mem_singleton.mp hz]; exact p
    · have e : T + (j + 1) * B = T + j * B + B := by rw [Nat.succ_mul]; omega
      rw [e]
      exact s3.setNew s1.ln
  · obtain ⟨q0, q1, q2, q3, q4, q5⟩ := q
    exact h4 acc S2 q0 q1 q2 q5 q4 q3
end
end Q

set_option linter.all false
set_option maxRecDepth 100000
set_option maxHeartbeats 1000000
namespace Q
open PySem PySem.Spec PyProof.Rows L2

/-! ### tuple * int -/
def bMulT : Vl → Vl → MO Vl := fun a b S => match a, b with
  | .tup xs, .int k => if xs ≠ [] ∧ 2 ≤ k ∧ k ≤ 1000 ∧ xs.length ≤ 1000 then some (.tup (List.replicate k.toNat xs).flatten, S) else none
  | _, _ => none
theorem rep_rp {K : PySem.W.Frag} {mg : Str → Option Value} {H : Hp} {μ : Nat → Addr} {N : Nat} {xs : List Vl} {vs : List V} (h : RpAll K mg H μ N xs vs) : ∀ n : Nat, RpAll K mg H μ N (List.replicate n xs).flatten (List.replicate n vs).flatten
  | 0 => .nil
  | n + 1 => by
    rw [List.replicate_succ, List.replicate_succ, List.flatten_cons, List.flatten_cons]
    exact RpAll.app h (rep_rp h n)
theorem os_mulT {X : Cx} {T : Tb} : OpS X T (binaryOp .Mult) bMulT := by
  intro pins s σ H x y v u Q I rx ry h
  obtain ⟨μ, S, a, b, sr, ra, rb, h⟩ := h
  obtain ⟨p, e⟩ := h.some_
  unfold bMulT at e h
  split at e
  · rename_i xs k
    cases rb
    by_cases hz : xs ≠ [] ∧ 2 ≤ k ∧ k ≤ 1000 ∧ xs.length ≤ 1000
    · simp only [if_pos hz] at h
      obtain ⟨h1, h2, h3, h4⟩ := hz
      obtain ⟨q, vs, rfl, k1, k2⟩ := ra.tup_at
      refine op_repT pins s σ H _ _ v u Q I rx ry ⟨q, k, vs, rfl, rfl, k1, ?_, h2, h3, by rw [← k2.length]; exact h4, fun p hp => ?_⟩
      · intro z
        subst z
        have := k2.length
        exact h1 (List.length_eq_zero_iff.mp this)
      · exact fin_tup h sr (rep_rp k2 _) p hp
    · rw [if_neg hz] at e; cases e
  · cases e
theorem o_mulT {S : Sto} {Z : Vl → Sto → Prop} {xs : List Vl} {k : Int} (h : xs ≠ [] ∧ 2 ≤ k ∧ k ≤ 1000 ∧ xs.length ≤ 1000) : wpo (bMulT (.tup xs) (.int k) S) Z = Z (.tup (List.replicate k.toNat xs).flatten) S := by
  have e : bMulT (.tup xs) (.int k) S = some (.tup (List.replicate k.toNat xs).flatten, S) := by
    show (if xs ≠ [] ∧ 2 ≤ k ∧ k ≤ 1000 ∧ xs.length ≤ 1000 then some (Vl.tup (List.replicate k.toNat xs).flatten, S) else none) = _
    rw [if_pos h]
  rw [e]; rfl
end Q

set_option linter.all false
set_option maxRecDepth 100000
set_option maxHeartbeats 4000000
namespace G
open PySem PySem.Spec PyProof.Rows L2 Q
def top (i : Nat) : Stmt := PySem.Challenge.pw_oneuseheads_k71_box_machines_judged_and.main.body.getD i (.Pass ⟨0, 0, 0, 0⟩)
def k_LETTERS : Vl := (.str "abcdefghijklmnopqrstuvwxyz")
def k_MOST_BOXES : Vl := (.int 60)
def k_MOST_LETTERS : Vl := (.int 26)
def k_MOST_ROWS : Vl := (.int 400)
def excs : List Str := ["BadBoxes", "BadText"]
def excSub : List (Str × Str) := [("BadBoxes", "BadBoxes"), ("BadText", "BadText")]
theorem bi_abs : bootBuiltins "abs" = some (.builtin "abs") := by decide +kernel
theorem bi_all : bootBuiltins "all" = some (.builtin "all") := by decide +kernel
theorem bt_bool : bootBuiltins "bool" = some (.type "bool") := by decide +kernel
theorem bt_int : bootBuiltins "int" = some (.type "int") := by decide +kernel
theorem bi_isinstance : bootBuiltins "isinstance" = some (.builtin "isinstance") := by decide +kernel
theorem bi_len : bootBuiltins "len" = some (.builtin "len") := by decide +kernel
theorem bt_list : bootBuiltins "list" = some (.type "list") := by decide +kernel
theorem bi_min : bootBuiltins "min" = some (.builtin "min") := by decide +kernel
theorem bi_repr : bootBuiltins "repr" = some (.builtin "repr") := by decide +kernel
theorem bt_str : bootBuiltins "str" = some (.type "str") := by decide +kernel
theorem bt_tuple : bootBuiltins "tuple" = some (.type "tuple") := by decide +kernel
noncomputable def b_is_whole (C L : Nat → List Vl → M Vl) : MS :=
    (sRet (mAndV (mBi bIsi (mCons (mSlot 0) (mCons (mC (.ty "int")) mNil))) (mNotV (mBi bIsi (mCons (mSlot 0) (mCons (mC (.ty "bool")) mNil))))))
noncomputable def b_is_text (C L : Nat → List Vl → M Vl) : MS :=
    (sRet (mAndV (mBi bIsi (mCons (mSlot 0) (mCons (mC (.ty "str")) mNil))) (mBi bAll (mCons (mLc (mIt (mSlot 0)) (.nm 1) mTrue (mBin (bIn false) (mSlot 1) (mC k_LETTERS)) [1]) mNil))))
noncomputable def b_is_letter (C L : Nat → List Vl → M Vl) : MS :=
    (sRet (mAndV (mCall (C 1) [] (mCons (mSlot 0) mNil)) (mBin bEq (mBi bLen (mCons (mSlot 0) mNil)) (mC (.int 1)))))
noncomputable def b_is_number (C L : Nat → List Vl → M Vl) : MS :=
    (sRet (mAndV (mCall (C 0) [] (mCons (mSlot 0) mNil)) (mChain bLe bLt (mC (.int 0)) (mSlot 0) (mSlot 1))))
noncomputable def b_are_letters (C L : Nat → List Vl → M Vl) : MS :=
    (sSeq (sIf (mOr (mNot (mTst (mCall (C 1) [] (mCons (mSlot 0) mNil)))) (mNot (mTst (mChain bLe bLe (mC (.int 1)) (mBi bLen (mCons (mSlot 0) mNil)) (mC k_MOST_LETTERS)))))
    (sRet (mC (.bl false)))
    sSkip)
    (sRet (mBi bAll (mCons (mLc (mItR1 (mCons (mBin bSub (mBi bLen (mCons (mSlot 0) mNil)) (mC (.int 1))) mNil)) (.nm 1) mTrue (mBin bLtS (mBin bSub' (mSlot 0) (mSlot 1)) (mBin bSub' (mSlot 0) (mBin bAdd (mSlot 1) (mC (.int 1))))) [1]) mNil))))
noncomputable def b_boxes_in (C L : Nat → List Vl → M Vl) : MS :=
    (sRet (mLc (mIt (mSlot 0)) (.nm 1) (mNot (mTst (mBi bIsi (mCons (mSlot 1) (mCons (mC (.ty "str")) mNil))))) (mSlot 1) [1]))
noncomputable def b_are_pieces (C L : Nat → List Vl → M Vl) : MS :=
    (sSeq (sIf (mNot (mTst (mBi bIsi (mCons (mSlot 0) (mCons (mC (.ty "tuple")) mNil)))))
    (sRet (mC (.bl false)))
    sSkip)
    (sRet (mBi bAll (mCons (mLc (mIt (mSlot 0)) (.nm 2) mTrue (mOrV (mCall (C 2) [] (mCons (mSlot 2) mNil)) (mCall (C 3) [] (mCons (mSlot 2) (mCons (mSlot 1) mNil)))) [2]) mNil))))
noncomputable def b_are_fills (C L : Nat → List Vl → M Vl) : MS :=
    (sSeq (sIf (mOr (mNot (mTst (mBi bIsi (mCons (mSlot 0) (mCons (mC (.ty "tuple")) mNil))))) (mOr (mTst (mBin bNe (mBi bLen (mCons (mSlot 0) mNil)) (mSlot 2))) (mNot (mTst (mBi bAll (mCons (mLc (mIt (mSlot 0)) (.nm 4) mTrue (mCall (C 6) [] (mCons (mSlot 4) (mCons (mSlot 1) mNil))) [4]) mNil))))))
    (sRet (mC (.bl false)))
    sSkip)
    (sSeq (sAsg (mLst mNil) (gNm 3))
    (sSeq (sFor (mIt (mSlot 0)) (gNm 4)
    (sAsg (mBin bAdd (mSlot 3) (mCall (C 5) [] (mCons (mSlot 4) mNil))) (gNm 3)))
    (sRet (mBin bEq (mLenSetA (mSlot 3)) (mBi bLen (mCons (mSlot 3) mNil)))))))
noncomputable def b_is_move (C L : Nat → List Vl → M Vl) : MS :=
    (sSeq (sIf (mOr (mNot (mTst (mBi bIsi (mCons (mSlot 0) (mCons (mC (.ty "tuple")) mNil))))) (mOr (mTst (mBin bNe (mBi bLen (mCons (mSlot 0) mNil)) (mC (.int 2)))) (mNot (mTst (mCall (C 3) [] (mCons (mBin bSub' (mSlot 0) (mC (.int 0))) (mCons (mBi bLen (mCons (mSlot 2) mNil)) mNil)))))))
    (sRet (mC (.bl false)))
    sSkip)
    (sRet (mCall (C 7) [] (mCons (mBin bSub' (mSlot 0) (mC (.int 1))) (mCons (mSlot 1) (mCons (mBin bSub' (mSlot 2) (mBin bSub' (mSlot 0) (mC (.int 0)))) mNil))))))
noncomputable def b_has_row_form (C L : Nat → List Vl → M Vl) : MS :=
    (sSeq (sIf (mOr (mNot (mTst (mBi bIsi (mCons (mSlot 0) (mCons (mC (.ty "tuple")) mNil))))) (mOr (mTst (mBin bNe (mBi bLen (mCons (mSlot 0) mNil)) (mC (.int 3)))) (mNot (mTst (mCall (C 3) [] (mCons (mBin bSub' (mSlot 0) (mC (.int 0))) (mCons (mBin bAdd (mC k_MOST_BOXES) (mC (.int 1))) mNil)))))))
    (sRet (mC (.bl false)))
    sSkip)
    (sRet (mAndV (mBi bIsi (mCons (mBin bSub' (mSlot 0) (mC (.int 1))) (mCons (mC (.ty "tuple")) mNil))) (mBin bEq (mBi bLen (mCons (mBin bSub' (mSlot 0) (mC (.int 1))) mNil)) (mBi bLen (mCons (mSlot 1) mNil))))))
noncomputable def b_is_boxes (C L : Nat → List Vl → M Vl) : MS :=
    (sSeq (sIf (mOr (mNot (mTst (mBi bIsi (mCons (mSlot 0) (mCons (mC (.ty "tuple")) mNil))))) (mOr (mTst (mBin bNe (mBi bLen (mCons (mSlot 0) mNil)) (mC (.int 4)))) (mOr (mNot (mTst (mBi bIsi (mCons (mBin bSub' (mSlot 0) (mC (.int 0))) (mCons (mC (.ty "str")) mNil))))) (mTst (mBin bNe (mBin bSub' (mSlot 0) (mC (.int 0))) (mC (.str "boxes")))))))
    (sRet (mC (.bl false)))
    sSkip)
    (sSeq (sAsg (mSlot 0) (gTp ((gNm 2) :: ((gNm 3) :: ((gNm 4) :: ((gNm 5) :: []))))))
    (sSeq (sIf (mOr (mNot (mTst (mCall (C 4) [] (mCons (mSlot 3) mNil)))) (mOr (mNot (mTst (mBi bIsi (mCons (mSlot 4) (mCons (mC (.ty "tuple")) mNil))))) (mNot (mTst (mBi bAll (mCons (mLc (mIt (mSlot 4)) (.nm 10) mTrue (mCall (C 1) [] (mCons (mSlot 10) mNil)) [10]) mNil))))))
    (sRet (mC (.bl false)))
    sSkip)
    (sSeq (sIf (mOr (mNot (mTst (mBi bIsi (mCons (mSlot 5) (mCons (mC (.ty "tuple")) mNil))))) (mNot (mTst (mChain bLe bLe (mC (.int 1)) (mBi bLen (mCons (mSlot 5) mNil)) (mC k_MOST_ROWS)))))
    (sRet (mC (.bl false)))
    sSkip)
    (sSeq (sIf (mOr (mNot (mTst (mBi bAll (mCons (mLc (mIt (mSlot 5)) (.nm 9) mTrue (mCall (C 9) [] (mCons (mSlot 9) (mCons (mSlot 3) mNil))) [9]) mNil)))) (mTst (mBin bNe (mBin bSub' (mBin bSub' (mSlot 5) (mC (.int 0))) (mC (.int 0))) (mBi bLen (mCons (mSlot 4) mNil)))))
    (sRet (mC (.bl false)))
    sSkip)
    (sSeq (sAsg (mLc (mIt (mSlot 5)) (.nm 9) mTrue (mBin bSub' (mSlot 9) (mC (.int 0))) [9]) (gNm 1))
    (sSeq (sFor (mIt (mSlot 5)) (gTp ((gNm 6) :: ((gNm 7) :: ((gNm 8) :: []))))
    (sIf (mOr (mNot (mTst (mCall (C 7) [] (mCons (mTup (mCons (mSlot 8) mNil)) (mCons (mSlot 6) (mCons (mC (.int 1)) mNil)))))) (mNot (mTst (mBi bAll (mCons (mLc (mIt (mSlot 7)) (.nm 11) mTrue (mCall (C 8) [] (mCons (mSlot 11) (mCons (mSlot 6) (mCons (mSlot 1) mNil)))) [11]) mNil)))))
    (sRet (mC (.bl false)))
    sSkip))
    (sRet (mC (.bl true))))))))))
noncomputable def b_need_boxes (C L : Nat → List Vl → M Vl) : MS :=
    (sIf (mNot (mTst (mCall (C 10) [] (mCons (mSlot 0) mNil))))
    (sRaise "BadBoxes")
    sSkip)
noncomputable def b_filled (C L : Nat → List Vl → M Vl) : MS :=
    (sRet (mMet "str" mtJoin (mC (.str "")) (mCons (mLc (mIt (mSlot 0)) (.nm 2) mTrue (mIte (mTst (mBi bIsi (mCons (mSlot 2) (mCons (mC (.ty "str")) mNil)))) (mSlot 2) (mBin bSub' (mSlot 1) (mSlot 2))) [2]) mNil)))
noncomputable def b_moved_on (C L : Nat → List Vl → M Vl) : MS :=
    (sSeq (sAsg (mBin bSub' (mBin bSub' (mBin bSub' (mBin bSub' (mSlot 0) (mC (.int 3))) (mSlot 1)) (mC (.int 1))) (mMet "str" mtIndexS (mBin bSub' (mSlot 0) (mC (.int 1))) (mCons (mSlot 3) mNil))) (gTp ((gNm 4) :: ((gNm 5) :: []))))
    (sRet (mTup (mCons (mSlot 4) (mCons (mLc (mIt (mSlot 5)) (.nm 6) mTrue (mCall (C 12) [] (mCons (mSlot 6) (mCons (mSlot 2) mNil))) [6]) mNil)))))
noncomputable def b_contents_of (C L : Nat → List Vl → M Vl) : MS :=
    (sSeq (sPar [3, 4] (mCons (mC (.int 0)) (mCons (mBi bList (mCons (mBin bSub' (mSlot 0) (mC (.int 2))) mNil)) mNil)))
    (sSeq (sFor (mIt (mSlot 1)) (gNm 2)
    (sAsg (mCall (C 13) [] (mCons (mSlot 0) (mCons (mSlot 3) (mCons (mSlot 4) (mCons (mSlot 2) mNil))))) (gTp ((gNm 3) :: ((gNm 4) :: [])))))
    (sRet (mTup (mCons (mSlot 3) (mCons (mSlot 4) mNil))))))
noncomputable def b_need_box_text (C L : Nat → List Vl → M Vl) : MS :=
    (sSeq (sExp (mCall (C 11) [] (mCons (mSlot 0) mNil)))
    (sIf (mOr (mNot (mTst (mCall (C 1) [] (mCons (mSlot 1) mNil)))) (mNot (mTst (mBi bAll (mCons (mLc (mIt (mSlot 1)) (.nm 2) mTrue (mBin (bIn false) (mSlot 2) (mBin bSub' (mSlot 0) (mC (.int 1)))) [2]) mNil)))))
    (sRaise "BadText")
    sSkip))
noncomputable def b_box_contents (C L : Nat → List Vl → M Vl) : MS :=
    (sSeq (sExp (mCall (C 15) [] (mCons (mSlot 0) (mCons (mSlot 1) mNil))))
    (sRet (mCall (C 14) [] (mCons (mSlot 0) (mCons (mSlot 1) mNil)))))
noncomputable def b_text_of_boxes (C L : Nat → List Vl → M Vl) : MS :=
    (sSeq (sAsg (mCall (C 14) [] (mCons (mSlot 0) (mCons (mSlot 1) mNil))) (gTp ((gNm 2) :: ((gNm 3) :: []))))
    (sRet (mCall (C 12) [] (mCons (mBin bSub' (mBin bSub' (mBin bSub' (mSlot 0) (mC (.int 3))) (mSlot 2)) (mC (.int 2))) (mCons (mSlot 3) mNil)))))
noncomputable def b_box_text (C L : Nat → List Vl → M Vl) : MS :=
    (sSeq (sExp (mCall (C 15) [] (mCons (mSlot 0) (mCons (mSlot 1) mNil))))
    (sRet (mCall (C 17) [] (mCons (mSlot 0) (mCons (mSlot 1) mNil)))))
noncomputable def b__law_begun (C L : Nat → List Vl → M Vl) : MS :=
    (sSeq (sAsg (mLc (mIt (mSlot 0)) (.nm 2) (mTst (mBin bGe (mBi bAbs (mCons (mSlot 2) mNil)) (mBin bPow (mC (.int 10)) (mC (.int 18))))) (mBin bSub (mBi bAbs (mCons (mSlot 2) mNil)) (mBin bPow (mC (.int 10)) (mC (.int 18)))) [2]) (gNm 1))
    (sRet (mDisp (((mC (.str "great")), (mSlot 1)) :: (((mC (.str "cells")), (mLc (mIt (mSlot 0)) (.nm 2) mTrue (mBi bAbs (mCons (mSlot 2) mNil)) [2])) :: (((mC (.str "rest")), (mC (.int 0))) :: (((mC (.str "turn")), (mC (.int 0))) :: [])))))))
noncomputable def b__law_blended (C L : Nat → List Vl → M Vl) : MS :=
    (sSeq (sPar [2, 3] (mCons (mBin bAdd (mBin bSub' (mSlot 0) (mC (.str "turn"))) (mC (.int 1))) (mCons (mC (.int 0)) mNil)))
    (sSeq (sAsg (mSlot 2) (gSb (mSlot 0) (mC (.str "turn"))))
    (sSeq (sFor (mIt (mLst (mCons (mC (.int 2147483579)) (mCons (mC (.int 2147483629)) (mCons (mC (.int 2147483563)) mNil))))) (gNm 1)
    (sSeq (sAsg (mBin bAdd (mBin bMul (mC (.int 48271)) (mSlot 2)) (mBin bDiv (mSlot 1) (mC (.int 53)))) (gNm 4))
    (sSeq (sFor (mIt (mBin bSub' (mSlot 0) (mC (.str "cells")))) (gNm 5)
    (sAsg (mBin bMod (mBi bInt (mCons (mBin bAdd (mBin bAdd (mBin bMul (mSlot 4) (mC (.int 69621))) (mSlot 5)) (mSlot 2)) mNil)) (mSlot 1)) (gNm 4)))
    (sAsg (mBin bAdd (mBin bMul (mSlot 3) (mC (.int 2147483647))) (mBin bMod (mBi bInt (mCons (mBin bPow (mSlot 4) (mC (.int 5))) mNil)) (mSlot 1))) (gNm 3)))))
    (sRet (mSlot 3)))))
noncomputable def b__law_draw (C L : Nat → List Vl → M Vl) : MS :=
    (sSeq (sIf (mTst (mBin bEq (mBin bSub' (mSlot 0) (mC (.str "rest"))) (mC (.int 0))))
    (sAsg (mIte (mTst (mBin bNe (mBin bSub' (mSlot 0) (mC (.str "great"))) (mLst mNil))) (mMet "list" mtPopAt (mBin bSub' (mSlot 0) (mC (.str "great"))) (mCons (mC (.int 0)) mNil)) (mCall (C 20) [] (mCons (mSlot 0) mNil))) (gSb (mSlot 0) (mC (.str "rest"))))
    sSkip)
    (sSeq (sAsg (mBin bMod (mBi bInt (mCons (mBin bSub' (mSlot 0) (mC (.str "rest"))) mNil)) (mSlot 1)) (gNm 2))
    (sSeq (sAsg (mBin bDiv (mBin bSub' (mSlot 0) (mC (.str "rest"))) (mSlot 1)) (gSb (mSlot 0) (mC (.str "rest"))))
    (sRet (mSlot 2)))))
noncomputable def b__law_pick (C L : Nat → List Vl → M Vl) : MS :=
    (sRet (mBin bSub' (mSlot 1) (mCall (C 21) [] (mCons (mSlot 0) (mCons (mBi bLen (mCons (mSlot 1) mNil)) mNil)))))
noncomputable def b__law_is_truth (C L : Nat → List Vl → M Vl) : MS :=
    (sRet (mIte (mTst (mSlot 1)) (mBin (bIs false) (mSlot 0) (mC (.bl true))) (mBin (bIs false) (mSlot 0) (mC (.bl false)))))
noncomputable def b__law_oh_same (C L : Nat → List Vl → M Vl) : MS :=
    (sRet (mBin bEq (mBi bRepr (mCons (mSlot 0) mNil)) (mBi bRepr (mCons (mSlot 1) mNil))))
noncomputable def b__law_oh_at (C L : Nat → List Vl → M Vl) : MS :=
    (sSeq (sFor (mIt (mSlot 1)) (gNm 2)
    (sAsg (mBin bSub' (mSlot 0) (mSlot 2)) (gNm 0)))
    (sRet (mSlot 0)))
noncomputable def b__law_oh_put (C L : Nat → List Vl → M Vl) : MS :=
    (sSeq (sIf (mTst (mBin bEq (mSlot 1) (mTup mNil)))
    (sRet (mSlot 2))
    sSkip)
    (sRet (mBin bAdd (mBin bAdd (mSl (mSlot 0) oNone (oSome (mBin bSub' (mSlot 1) (mC (.int 0))))) (mTup (mCons (mCall (C 27) [] (mCons (mBin bSub' (mSlot 0) (mBin bSub' (mSlot 1) (mC (.int 0)))) (mCons (mSl (mSlot 1) (oSome (mC (.int 1))) oNone) (mCons (mSlot 2) mNil)))) mNil))) (mSl (mSlot 0) (oSome (mBin bAdd (mBin bSub' (mSlot 1) (mC (.int 0))) (mC (.int 1)))) oNone))))
noncomputable def b__law_oh_bent (C L : Nat → List Vl → M Vl) : MS :=
    (sSeq (sAsg (mCall (C 29) [] (mCons (mSlot 1) (mCons (mTup mNil) mNil))) (gNm 2))
    (sSeq (sAsg (mCall (C 22) [] (mCons (mSlot 0) (mCons (mSl (mSlot 2) (oSome (mC (.int 1))) oNone) mNil))) (gNm 3))
    (sSeq (sAsg (mCall (C 26) [] (mCons (mSlot 1) (mCons (mSlot 3) mNil))) (gNm 4))
    (sSeq (sAsg (mLst (mCons (mC .non) (mCons (mTup mNil) (mCons (mC (.int 0)) (mCons (mC (.int 1)) (mCons (mC (.bl true)) (mCons (mC (.str "name")) (mCons (mTup (mCons (mC (.str "text")) mNil)) (mCons (mTup (mCons (mC (.str "end")) mNil)) (mCons (mC (.str "ab")) (mCons (mLst mNil) (mCons (mCall (C 26) [] (mCons (mSlot 1) (mCons (mCall (C 22) [] (mCons (mSlot 0) (mCons (mSlot 2) mNil))) mNil))) mNil)))))))))))) (gNm 5))
    (sSeq (sIf (mTst (mBi bIsi (mCons (mSlot 4) (mCons (mC (.ty "int")) mNil))))
    (sAsg (mLst (mCons (mBin bAdd (mSlot 4) (mC (.int 1))) (mCons (mBin bSub (mSlot 4) (mC (.int 1))) (mCons (mBi bStr (mCons (mSlot 4) mNil)) (mCons (mC .non) (mCons (mBin bSub (mC (.int 0)) (mSlot 4)) (mCons (mC (.bl true)) mNil))))))) (gNm 5))
    (sIf (mTst (mBi bIsi (mCons (mSlot 4) (mCons (mC (.ty "str")) mNil))))
    (sAsg (mBin bAdd (mSlot 5) (mLst (mCons (mBin bAdd (mSlot 4) (mC (.str "a"))) (mCons (mSl (mSlot 4) (oSome (mC (.int 1))) oNone) (mCons (mMet "str" mtUpper (mSlot 4) mNil) (mCons (mC (.str "fun")) (mCons (mC (.str "x")) (mCons (mC (.str "call")) mNil)))))))) (gNm 5))
    (sIf (mAnd (mTst (mBi bIsi (mCons (mSlot 4) (mCons (mC (.ty "tuple")) mNil)))) (mTst (mBin bNe (mSlot 4) (mTup mNil))))
    (sAsg (mBin bAdd (mSlot 5) (mBin bMul (mLst (mCons (mSl (mSlot 4) (oSome (mC (.int 1))) oNone) (mCons (mSl (mSlot 4) oNone (oSome (mNeg (mC (.int 1))))) (mCons (mRev (mSlot 4)) (mCons (mBin bAdd (mSlot 4) (mSl (mSlot 4) (oSome (mNeg (mC (.int 1)))) oNone)) (mCons (mBi bList (mCons (mSlot 4) mNil)) (mCons (mBin bAdd (mSlot 4) (mTup (mCons (mC .non) mNil))) mNil))))))) (mC (.int 2)))) (gNm 5))
    sSkip)))
    (sRet (mCall (C 27) [] (mCons (mSlot 1) (mCons (mSlot 3) (mCons (mCall (C 22) [] (mCons (mSlot 0) (mCons (mSlot 5) mNil))) mNil))))))))))
noncomputable def b__law_oh_spots (C L : Nat → List Vl → M Vl) : MS :=
    (sSeq (sAsg (mLst (mCons (mSlot 1) mNil)) (gNm 2))
    (sSeq (sFor (mItR1 (mCons (mIte (mTst (mBi bIsi (mCons (mSlot 0) (mCons (mC (.ty "tuple")) mNil)))) (mBi bLen (mCons (mSlot 0) mNil)) (mC (.int 0))) mNil)) (gNm 3)
    (sAsg (mBin bAdd (mSlot 2) (mCall (C 29) [] (mCons (mBin bSub' (mSlot 0) (mSlot 3)) (mCons (mBin bAdd (mSlot 1) (mTup (mCons (mSlot 3) mNil))) mNil)))) (gNm 2)))
    (sRet (mSlot 2))))
noncomputable def b__law_oh_whole (C L : Nat → List Vl → M Vl) : MS :=
    (sRet (mAndV (mBi bIsi (mCons (mSlot 0) (mCons (mC (.ty "int")) mNil))) (mNotV (mBi bIsi (mCons (mSlot 0) (mCons (mC (.ty "bool")) mNil))))))
noncomputable def b__law_oh_is_word (C L : Nat → List Vl → M Vl) : MS :=
    (sSeq (sIf (mNot (mTst (mBi bIsi (mCons (mSlot 0) (mCons (mC (.ty "str")) mNil)))))
    (sRet (mC (.bl false)))
    sSkip)
    (sRet (mBin bEq (mLc (mIt (mSlot 0)) (.nm 1) (mTst (mBin (bIn true) (mSlot 1) (mC (.str "abcdefghijklmnopqrstuvwxyz")))) (mSlot 1) [1]) (mLst mNil))))
noncomputable def b__law_jn_some (C L : Nat → List Vl → M Vl) : MS :=
    (sSeq (sAsg (mLst mNil) (gNm 4))
    (sSeq (sFor (mItR1 (mCons (mSlot 2) mNil)) (gNm 5)
    (sExp (mMet "list" mtAppend (mSlot 4) (mCons (mMet "str" mtJoin (mC (.str "")) (mCons (mLc (mItR1 (mCons (mCall (C 21) [] (mCons (mSlot 0) (mCons (mBin bAdd (mSlot 3) (mC (.int 1))) mNil))) mNil)) (.nm 6) mTrue (mCall (C 22) [] (mCons (mSlot 0) (mCons (mBi bListS (mCons (mSlot 1) mNil)) mNil))) [6]) mNil)) mNil))))
    (sRet (mSlot 4))))
noncomputable def b__law_jn_filled (C L : Nat → List Vl → M Vl) : MS :=
    (sRet (mMet "str" mtJoin (mC (.str "")) (mCons (mLc (mIt (mSlot 0)) (.nm 2) mTrue (mIte (mTst (mBi bIsi (mCons (mSlot 2) (mCons (mC (.ty "str")) mNil)))) (mSlot 2) (mBin bSub' (mSlot 1) (mSlot 2))) [2]) mNil)))
noncomputable def b__law_jn_contents (C L : Nat → List Vl → M Vl) : MS :=
    (sSeq (sAsg (mTup (mCons (mC (.int 0)) (mCons (mBi bList (mCons (mBin bSub' (mSlot 0) (mC (.int 2))) mNil)) mNil))) (gTp ((gNm 3) :: ((gNm 4) :: []))))
    (sSeq (sFor (mIt (mSlot 1)) (gNm 2)
    (sSeq (sAsg (mBin bSub' (mBin bSub' (mBin bSub' (mBin bSub' (mSlot 0) (mC (.int 3))) (mSlot 3)) (mC (.int 1))) (mMet "str" mtIndexS (mBin bSub' (mSlot 0) (mC (.int 1))) (mCons (mSlot 2) mNil))) (gTp ((gNm 3) :: ((gNm 5) :: []))))
    (sAsg (mLc (mIt (mSlot 5)) (.nm 6) mTrue (mCall (C 33) [] (mCons (mSlot 6) (mCons (mSlot 4) mNil))) [6]) (gNm 4))))
    (sRet (mTup (mCons (mSlot 3) (mCons (mSlot 4) mNil))))))
noncomputable def b__law_jn_written (C L : Nat → List Vl → M Vl) : MS :=
    (sSeq (sAsg (mCall (C 34) [] (mCons (mSlot 0) (mCons (mSlot 1) mNil))) (gTp ((gNm 2) :: ((gNm 3) :: []))))
    (sRet (mCall (C 33) [] (mCons (mBin bSub' (mBin bSub' (mBin bSub' (mSlot 0) (mC (.int 3))) (mSlot 2)) (mC (.int 2))) (mCons (mSlot 3) mNil)))))
noncomputable def b__law_pieces (C L : Nat → List Vl → M Vl) : MS :=
    (sSeq (sAsg (mLst mNil) (gNm 3))
    (sSeq (sFor (mItR1 (mCons (mSlot 2) mNil)) (gNm 4)
    (sIf (mAnd (mTst (mBin bNe (mSlot 1) (mLst mNil))) (mTst (mBin bEq (mCall (C 21) [] (mCons (mSlot 0) (mCons (mC (.int 2)) mNil))) (mC (.int 0)))))
    (sExp (mMet "list" mtAppend (mSlot 3) (mCons (mMet "list" mtPopAt (mSlot 1) (mCons (mCall (C 21) [] (mCons (mSlot 0) (mCons (mBi bLen (mCons (mSlot 1) mNil)) mNil))) mNil)) mNil)))
    (sExp (mMet "list" mtAppend (mSlot 3) (mCons (mCall (C 22) [] (mCons (mSlot 0) (mCons (mLst (mCons (mC (.str "a")) (mCons (mC (.str "b")) (mCons (mC (.str "c")) (mCons (mC (.str "z")) mNil))))) mNil))) mNil)))))
    (sRet (mBi bTuple (mCons (mSlot 3) mNil)))))
noncomputable def b__law_made (C L : Nat → List Vl → M Vl) : MS :=
    (sSeq (sAsg (mCall (C 22) [] (mCons (mSlot 0) (mCons (mLst (mCons (mC (.str "a")) (mCons (mC (.str "ab")) (mCons (mC (.str "xyz")) mNil)))) mNil))) (gNm 1))
    (sSeq (sAsg (mLc (mItR1 (mCons (mBin bAdd (mC (.int 1)) (mCall (C 21) [] (mCons (mSlot 0) (mCons (mC (.int 4)) mNil)))) mNil)) (.nm 8) mTrue (mCall (C 21) [] (mCons (mSlot 0) (mCons (mC (.int 5)) mNil))) [8]) (gNm 2))
    (sSeq (sAsg (mLst mNil) (gNm 3))
    (sSeq (sFor (mIt (mSlot 2)) (gNm 4)
    (sSeq (sAsg (mLst mNil) (gNm 6))
    (sSeq (sFor (mIt (mSlot 1)) (gNm 7)
    (sSeq (sAsg (mTup (mCons (mCall (C 21) [] (mCons (mSlot 0) (mCons (mBi bLen (mCons (mSlot 2) mNil)) mNil))) (mCons (mListR (mSlot 4)) mNil))) (gTp ((gNm 11) :: ((gNm 12) :: []))))
    (sSeq (sAsg (mLc (mItR1 (mCons (mBin bSub' (mSlot 2) (mSlot 11)) mNil)) (.nm 10) mTrue (mCall (C 36) [] (mCons (mSlot 0) (mCons (mSlot 12) (mCons (mCall (C 21) [] (mCons (mSlot 0) (mCons (mC (.int 4)) mNil))) mNil)))) [10]) (gNm 9))
    (sExp (mMet "list" mtAppend (mSlot 6) (mCons (mTup (mCons (mSlot 11) (mCons (mBi bTuple (mCons (mSlot 9) mNil)) mNil))) mNil))))))
    (sExp (mMet "list" mtAppend (mSlot 3) (mCons (mTup (mCons (mSlot 4) (mCons (mBi bTuple (mCons (mSlot 6) mNil)) (mCons (mCall (C 36) [] (mCons (mSlot 0) (mCons (mListR (mSlot 4)) (mCons (mCall (C 21) [] (mCons (mSlot 0) (mCons (mC (.int 5)) mNil))) mNil)))) mNil)))) mNil))))))
    (sSeq (sAsg (mLc (mItR1 (mCons (mBin bSub' (mSlot 2) (mC (.int 0))) mNil)) (.nm 10) mTrue (mCall (C 22) [] (mCons (mSlot 0) (mCons (mLst (mCons (mC (.str "")) (mCons (mC (.str "a")) (mCons (mC (.str "bc")) (mCons (mC (.str "zz")) mNil))))) mNil))) [10]) (gNm 5))
    (sRet (mTup (mCons (mC (.str "boxes")) (mCons (mSlot 1) (mCons (mBi bTuple (mCons (mSlot 5) mNil)) (mCons (mBi bTuple (mCons (mSlot 3) mNil)) mNil)))))))))))
noncomputable def b__law_are_fills (C L : Nat → List Vl → M Vl) : MS :=
    (sSeq (sIf (mOr (mNot (mTst (mBi bIsi (mCons (mSlot 0) (mCons (mC (.ty "tuple")) mNil))))) (mTst (mBin bNe (mBi bLen (mCons (mSlot 0) mNil)) (mSlot 2))))
    (sRet (mC (.bl false)))
    sSkip)
    (sSeq (sAsg (mLst mNil) (gNm 3))
    (sSeq (sFor (mIt (mSlot 0)) (gNm 4)
    (sSeq (sIf (mNot (mTst (mBi bIsi (mCons (mSlot 4) (mCons (mC (.ty "tuple")) mNil)))))
    (sRet (mC (.bl false)))
    sSkip)
    (sFor (mIt (mSlot 4)) (gNm 5)
    (sIf (mTst (mCall (C 30) [] (mCons (mSlot 5) mNil)))
    (sSeq (sIf (mOr (mNot (mTst (mChain bLe bLt (mC (.int 0)) (mSlot 5) (mSlot 1)))) (mTst (mBin (bIn false) (mSlot 5) (mSlot 3))))
    (sRet (mC (.bl false)))
    sSkip)
    (sExp (mMet "list" mtAppend (mSlot 3) (mCons (mSlot 5) mNil))))
    (sIf (mOr (mNot (mTst (mCall (C 31) [] (mCons (mSlot 5) mNil)))) (mTst (mBin bNe (mBi bLen (mCons (mSlot 5) mNil)) (mC (.int 1)))))
    (sRet (mC (.bl false)))
    sSkip)))))
    (sRet (mC (.bl true))))))
noncomputable def b__law_is_head (C L : Nat → List Vl → M Vl) : MS :=
    (sSeq (sIf (mOr (mNot (mTst (mBi bIsi (mCons (mSlot 0) (mCons (mC (.ty "tuple")) mNil))))) (mOr (mTst (mBin bNe (mBi bLen (mCons (mSlot 0) mNil)) (mC (.int 4)))) (mOr (mNot (mTst (mBi bIsi (mCons (mBin bSub' (mSlot 0) (mC (.int 0))) (mCons (mC (.ty "str")) mNil))))) (mTst (mBin bNe (mBin bSub' (mSlot 0) (mC (.int 0))) (mC (.str "boxes")))))))
    (sRet (mC (.bl false)))
    sSkip)
    (sSeq (sIf (mOr (mNot (mTst (mCall (C 31) [] (mCons (mBin bSub' (mSlot 0) (mC (.int 1))) mNil)))) (mOr (mNot (mTst (mChain bLe bLe (mC (.int 1)) (mBi bLen (mCons (mBin bSub' (mSlot 0) (mC (.int 1))) mNil)) (mC (.int 26))))) (mTst (mBin bNe (mMet "str" mtJoin (mC (.str "")) (mCons (mSortSet (mBin bSub' (mSlot 0) (mC (.int 1)))) mNil)) (mBin bSub' (mSlot 0) (mC (.int 1)))))))
    (sRet (mC (.bl false)))
    sSkip)
    (sSeq (sIf (mOr (mNot (mTst (mBi bIsi (mCons (mBin bSub' (mSlot 0) (mC (.int 2))) (mCons (mC (.ty "tuple")) mNil))))) (mTst (mBin bNe (mLc (mIt (mBin bSub' (mSlot 0) (mC (.int 2)))) (.nm 1) (mNot (mTst (mCall (C 31) [] (mCons (mSlot 1) mNil)))) (mC (.int 1)) [1]) (mLst mNil))))
    (sRet (mC (.bl false)))
    sSkip)
    (sRet (mAndV (mBi bIsi (mCons (mBin bSub' (mSlot 0) (mC (.int 3))) (mCons (mC (.ty "tuple")) mNil))) (mChain bLe bLe (mC (.int 1)) (mBi bLen (mCons (mBin bSub' (mSlot 0) (mC (.int 3))) mNil)) (mC (.int 400))))))))
noncomputable def b__law_judged (C L : Nat → List Vl → M Vl) : MS :=
    (sSeq (sIf (mNot (mTst (mCall (C 39) [] (mCons (mSlot 0) mNil))))
    (sRet (mC (.bl false)))
    sSkip)
    (sSeq (sAsg (mLst mNil) (gNm 1))
    (sSeq (sFor (mIt (mBin bSub' (mSlot 0) (mC (.int 3)))) (gNm 2)
    (sSeq (sIf (mOr (mNot (mTst (mBi bIsi (mCons (mSlot 2) (mCons (mC (.ty "tuple")) mNil))))) (mOr (mTst (mBin bNe (mBi bLen (mCons (mSlot 2) mNil)) (mC (.int 3)))) (mOr (mNot (mTst (mCall (C 30) [] (mCons (mBin bSub' (mSlot 2) (mC (.int 0))) mNil)))) (mNot (mTst (mChain bLe bLe (mC (.int 0)) (mBin bSub' (mSlot 2) (mC (.int 0))) (mC (.int 60))))))))
    (sRet (mC (.bl false)))
    sSkip)
    (sSeq (sIf (mOr (mNot (mTst (mBi bIsi (mCons (mBin bSub' (mSlot 2) (mC (.int 1))) (mCons (mC (.ty "tuple")) mNil))))) (mTst (mBin bNe (mBi bLen (mCons (mBin bSub' (mSlot 2) (mC (.int 1))) mNil)) (mBi bLen (mCons (mBin bSub' (mSlot 0) (mC (.int 1))) mNil)))))
    (sRet (mC (.bl false)))
    sSkip)
    (sExp (mMet "list" mtAppend (mSlot 1) (mCons (mBin bSub' (mSlot 2) (mC (.int 0))) mNil))))))
    (sSeq (sIf (mTst (mBin bNe (mBin bSub' (mSlot 1) (mC (.int 0))) (mBi bLen (mCons (mBin bSub' (mSlot 0) (mC (.int 2))) mNil))))
    (sRet (mC (.bl false)))
    sSkip)
    (sSeq (sFor (mIt (mBin bSub' (mSlot 0) (mC (.int 3)))) (gTp ((gNm 3) :: ((gNm 4) :: ((gNm 5) :: []))))
    (sSeq (sIf (mNot (mTst (mCall (C 38) [] (mCons (mTup (mCons (mSlot 5) mNil)) (mCons (mSlot 3) (mCons (mC (.int 1)) mNil))))))
    (sRet (mC (.bl false)))
    sSkip)
    (sFor (mIt (mSlot 4)) (gNm 6)
    (sSeq (sIf (mOr (mNot (mTst (mBi bIsi (mCons (mSlot 6) (mCons (mC (.ty "tuple")) mNil))))) (mOr (mTst (mBin bNe (mBi bLen (mCons (mSlot 6) mNil)) (mC (.int 2)))) (mNot (mTst (mCall (C 30) [] (mCons (mBin bSub' (mSlot 6) (mC (.int 0))) mNil))))))
    (sRet (mC (.bl false)))
    sSkip)
    (sIf (mOr (mNot (mTst (mChain bLe bLt (mC (.int 0)) (mBin bSub' (mSlot 6) (mC (.int 0))) (mBi bLen (mCons (mSlot 1) mNil))))) (mNot (mTst (mCall (C 38) [] (mCons (mBin bSub' (mSlot 6) (mC (.int 1))) (mCons (mSlot 3) (mCons (mBin bSub' (mSlot 1) (mBin bSub' (mSlot 6) (mC (.int 0)))) mNil)))))))
    (sRet (mC (.bl false)))
    sSkip)))))
    (sRet (mC (.bl true))))))))
noncomputable def b__law_doubled (C L : Nat → List Vl → M Vl) : MS :=
    (sSeq (sPar [3, 4] (mCons (mBin bSub' (mSlot 1) (mC (.int 3))) (mCons (mCall (C 21) [] (mCons (mSlot 0) (mCons (mBi bLen (mCons (mBin bSub' (mSlot 1) (mC (.int 3))) mNil)) mNil))) mNil)))
    (sSeq (sIf (mTst (mBin bEq (mBin bSub' (mBin bSub' (mSlot 3) (mSlot 4)) (mC (.int 0))) (mC (.int 0))))
    (sRet (mSlot 1))
    sSkip)
    (sSeq (sAsg (mBin bAdd (mSl (mBin bSub' (mSlot 3) (mSlot 4)) oNone (oSome (mC (.int 2)))) (mTup (mCons (mTup (mCons (mC (.int 0)) (mCons (mC (.str "a")) (mCons (mC (.int 0)) mNil)))) mNil))) (gNm 2))
    (sRet (mBin bAdd (mSl (mSlot 1) oNone (oSome (mC (.int 3)))) (mTup (mCons (mBin bAdd (mBin bAdd (mSl (mSlot 3) oNone (oSome (mSlot 4))) (mTup (mCons (mSlot 2) mNil))) (mSl (mSlot 3) (oSome (mBin bAdd (mSlot 4) (mC (.int 1)))) oNone)) mNil)))))))
noncomputable def b__law_edges_right (C L : Nat → List Vl → M Vl) : MS :=
    (sSeq (sPar [3, 4] (mCons (mCall (C 22) [] (mCons (mSlot 0) (mCons (mLst (mCons (mC (.int 59)) (mCons (mC (.int 60)) (mCons (mC (.int 61)) mNil)))) mNil))) (mCons (mCall (C 22) [] (mCons (mSlot 0) (mCons (mLst (mCons (mC (.int 399)) (mCons (mC (.int 400)) (mCons (mC (.int 401)) mNil)))) mNil))) mNil)))
    (sSeq (sAsg (mTup (mCons (mC (.str "boxes")) (mCons (mC (.str "a")) (mCons (mBin bMulT (mTup (mCons (mC (.str "")) mNil)) (mSlot 3)) (mCons (mTup (mCons (mTup (mCons (mSlot 3) (mCons (mTup (mCons (mTup (mCons (mC (.int 0)) (mCons (mBin bMulT (mTup (mCons (mTup mNil) mNil)) (mSlot 3)) mNil))) mNil)) (mCons (mTup mNil) mNil)))) mNil)) mNil))))) (gNm 1))
    (sSeq (sAsg (mTup (mCons (mC (.str "boxes")) (mCons (mC (.str "a")) (mCons (mTup mNil) (mCons (mBin bMulT (mTup (mCons (mTup (mCons (mC (.int 0)) (mCons (mTup (mCons (mTup (mCons (mC (.int 0)) (mCons (mTup mNil) mNil))) mNil)) (mCons (mTup mNil) mNil)))) mNil)) (mSlot 4)) mNil))))) (gNm 2))
    (sRet (mAndV (mCall (C 24) [] (mCons (mCall (C 10) [] (mCons (mSlot 1) mNil)) (mCons (mBin bLe (mSlot 3) (mC (.int 60))) mNil))) (mCall (C 24) [] (mCons (mCall (C 10) [] (mCons (mSlot 2) mNil)) (mCons (mBin bLe (mSlot 4) (mC (.int 400))) mNil))))))))
noncomputable def b_law (C L : Nat → List Vl → M Vl) : MS :=
    (sSeq (sAsg (mCall (C 19) [] (mCons (mSlot 0) mNil)) (gNm 1))
    (sSeq (sFor (mItR1 (mCons (mBin bAdd (mC (.int 2)) (mBi bMin2 (mCons (mBi bLen (mCons (mSlot 0) mNil)) (mCons (mC (.int 5)) mNil)))) mNil)) (gNm 2)
    (sSeq (sAsg (mCall (C 37) [] (mCons (mSlot 1) mNil)) (gNm 3))
    (sSeq (sFor (mIt (mBin bAdd (mLst (mCons (mSlot 3) (mCons (mCall (C 41) [] (mCons (mSlot 1) (mCons (mSlot 3) mNil))) mNil))) (mLc (mItR1 (mCons (mC (.int 8)) mNil)) (.nm 11) mTrue (mCall (C 28) [] (mCons (mSlot 1) (mCons (mSlot 3) mNil))) [11]))) (gNm 4)
    (sIf (mNot (mTst (mCall (C 24) [] (mCons (mCallK (C 10) [0] (mCons (mSlot 4) mNil)) (mCons (mCall (C 40) [] (mCons (mSlot 4) mNil)) mNil)))))
    (sRet (mC (.bl false)))
    sSkip))
    (sSeq (sFor (mIt (mCall (C 32) [] (mCons (mSlot 1) (mCons (mBin bSub' (mSlot 3) (mC (.int 1))) (mCons (mC (.int 3)) (mCons (mC (.int 6)) mNil)))))) (gNm 5)
    (sSeq (sAsg (mCall (C 34) [] (mCons (mSlot 3) (mCons (mSlot 5) mNil))) (gNm 9))
    (sSeq (sAsg (mCallKP (C 16) 1 [0] (mCons (mSlot 3) mNil) (mCons (mSlot 5) mNil)) (gNm 10))
    (sSeq (sIf (mOr (mNot (mTst (mCall (C 25) [] (mCons (mSlot 10) (mCons (mSlot 9) mNil))))) (mNot (mTst (mCall (C 25) [] (mCons (mCall (C 18) [] (mCons (mSlot 3) (mCons (mSlot 5) mNil))) (mCons (mCall (C 35) [] (mCons (mSlot 3) (mCons (mSlot 5) mNil))) mNil))))))
    (sRet (mC (.bl false)))
    sSkip)
    (sSeq (sExp (mMet "list" mtAppend (mBin bSub' (mSlot 10) (mC (.int 1))) (mCons (mC .non) mNil)))
    (sIf (mNot (mTst (mCall (C 25) [] (mCons (mCallK (C 16) [1, 0] (mCons (mSlot 5) (mCons (mSlot 3) mNil))) (mCons (mSlot 9) mNil)))))
    (sRet (mC (.bl false)))
    sSkip))))))
    (sSeq (sAsg (mCall (C 22) [] (mCons (mSlot 1) (mCons (mLst (mCons (mC .non) (mCons (mSl (mSlot 3) oNone (oSome (mC (.int 3)))) (mCons (mBi bList (mCons (mSlot 3) mNil)) (mCons (mC (.int 5)) (mCons (mBin bAdd (mTup (mCons (mC (.str "box")) mNil)) (mSl (mSlot 3) (oSome (mC (.int 1))) oNone)) mNil)))))) mNil))) (gNm 6))
    (sSeq (sAsg (mCall (C 22) [] (mCons (mSlot 1) (mCons (mLst (mCons (mC .non) (mCons (mC (.int 5)) (mCons (mC (.str "q")) (mCons (mLst (mCons (mC (.str "a")) mNil)) (mCons (mC (.str "A")) mNil)))))) mNil))) (gNm 7))
    (sSeq (sLams 8 [sJudge excSub excs excs (mCall (L 16) [] (mCons (mSlot 6) (mCons (mSlot 7) mNil))) "BadBoxes", sJudge excSub excs excs (mCall (L 18) [] (mCons (mSlot 6) (mCons (mSlot 7) mNil))) "BadBoxes"])
    (sLams 8 [sJudge excSub excs excs (mCall (L 16) [] (mCons (mSlot 3) (mCons (mSlot 7) mNil))) "BadText", sJudge excSub excs excs (mCall (L 18) [] (mCons (mSlot 3) (mCons (mSlot 7) mNil))) "BadText"]))))))))
    (sRet (mCall (C 42) [] (mCons (mSlot 1) mNil)))))
structure Gs (K : PySem.W.Frag) (mg : Str → Option Value) : Prop where
  b_abs : mg "abs" = none
  b_all : mg "all" = none
  b_bool : mg "bool" = none
  b_int : mg "int" = none
  b_isinstance : mg "isinstance" = none
  b_len : mg "len" = none
  b_list : mg "list" = none
  b_min : mg "min" = none
  b_range : mg "range" = none
  b_repr : mg "repr" = none
  b_set : mg "set" = none
  b_sorted : mg "sorted" = none
  b_str : mg "str" = none
  b_tuple : mg "tuple" = none
  c_LETTERS : Cst K mg "LETTERS" k_LETTERS
  c_MOST_BOXES : Cst K mg "MOST_BOXES" k_MOST_BOXES
  c_MOST_LETTERS : Cst K mg "MOST_LETTERS" k_MOST_LETTERS
  c_MOST_ROWS : Cst K mg "MOST_ROWS" k_MOST_ROWS
  v_BadBoxes : ∃ a, mg "BadBoxes" = some (.ref a)
  v_BadText : ∃ a, mg "BadText" = some (.ref a)
  e_BadBoxes : ExcS K mg "BadBoxes" [.type "ValueError", .type "Exception", .type "BaseException", .type "object"] "ValueError.__new__"
  e_BadText : ExcS K mg "BadText" [.type "ValueError", .type "Exception", .type "BaseException", .type "object"] "ValueError.__new__"
  caught : CaughtS K mg "_law_caught" excs
  excs : ExcCs K mg excSub excs
structure Oks (P : Program) (w : World) (K : PySem.W.Frag) (mg : Str → Option Value) (T : Tb) (base : Heap) (k : Nat) (C : Nat → List Vl → M Vl) : Prop where
  f_is_whole : CalS false P w K mg T base k "is_whole" [] (C 0)
  f_is_text : CalS false P w K mg T base k "is_text" [] (C 1)
  f_is_letter : CalS false P w K mg T base k "is_letter" [] (C 2)
  f_is_number : CalS false P w K mg T base k "is_number" [] (C 3)
  f_are_letters : CalS false P w K mg T base k "are_letters" [] (C 4)
  f_boxes_in : CalS false P w K mg T base k "boxes_in" [] (C 5)
  f_are_pieces : CalS false P w K mg T base k "are_pieces" [] (C 6)
  f_are_fills : CalS false P w K mg T base k "are_fills" [] (C 7)
  f_is_move : CalS false P w K mg T base k "is_move" [] (C 8)
  f_has_row_form : CalS false P w K mg T base k "has_row_form" [] (C 9)
  f_is_boxes : CalS false P w K mg T base k "is_boxes" [] (C 10)
  k_is_boxes_value : CalK false P w K mg T base k "is_boxes" ["value"] [0] (C 10)
  f_need_boxes : CalS false P w K mg T base k "need_boxes" [] (C 11)
  f_filled : CalS false P w K mg T base k "filled" [] (C 12)
  f_moved_on : CalS false P w K mg T base k "moved_on" [] (C 13)
  f_contents_of : CalS false P w K mg T base k "contents_of" [] (C 14)
  f_need_box_text : CalS false P w K mg T base k "need_box_text" [] (C 15)
  f_box_contents : CalS false P w K mg T base k "box_contents" [] (C 16)
  p_box_contents_1_text : CalKP false P w K mg T base k "box_contents" 1 ["text"] [0] (C 16)
  k_box_contents_text_boxes : CalK false P w K mg T base k "box_contents" ["text", "boxes"] [1, 0] (C 16)
  f_text_of_boxes : CalS false P w K mg T base k "text_of_boxes" [] (C 17)
  f_box_text : CalS false P w K mg T base k "box_text" [] (C 18)
  f__law_begun : CalS false P w K mg T base k "_law_begun" [] (C 19)
  f__law_blended : CalS false P w K mg T base k "_law_blended" [] (C 20)
  f__law_draw : CalS false P w K mg T base k "_law_draw" [] (C 21)
  f__law_pick : CalS false P w K mg T base k "_law_pick" [] (C 22)
  f__law_is_truth : CalS false P w K mg T base k "_law_is_truth" [] (C 24)
  f__law_oh_same : CalS true P w K mg T base k "_law_oh_same" [] (C 25)
  f__law_oh_at : CalS false P w K mg T base k "_law_oh_at" [] (C 26)
  f__law_oh_put : CalS false P w K mg T base k "_law_oh_put" [] (C 27)
  f__law_oh_bent : CalS false P w K mg T base k "_law_oh_bent" [] (C 28)
  f__law_oh_spots : CalS false P w K mg T base k "_law_oh_spots" [] (C 29)
  f__law_oh_whole : CalS false P w K mg T base k "_law_oh_whole" [] (C 30)
  f__law_oh_is_word : CalS false P w K mg T base k "_law_oh_is_word" [] (C 31)
  f__law_jn_some : CalS false P w K mg T base k "_law_jn_some" [] (C 32)
  f__law_jn_filled : CalS false P w K mg T base k "_law_jn_filled" [] (C 33)
  f__law_jn_contents : CalS false P w K mg T base k "_law_jn_contents" [] (C 34)
  f__law_jn_written : CalS false P w K mg T base k "_law_jn_written" [] (C 35)
  f__law_pieces : CalS false P w K mg T base k "_law_pieces" [] (C 36)
  f__law_made : CalS false P w K mg T base k "_law_made" [] (C 37)
  f__law_are_fills : CalS false P w K mg T base k "_law_are_fills" [] (C 38)
  f__law_is_head : CalS false P w K mg T base k "_law_is_head" [] (C 39)
  f__law_judged : CalS false P w K mg T base k "_law_judged" [] (C 40)
  f__law_doubled : CalS false P w K mg T base k "_law_doubled" [] (C 41)
  f__law_edges_right : CalS false P w K mg T base k "_law_edges_right" [] (C 42)
  f_law : CalS true P w K mg T base k "law" [] (C 43)
noncomputable def step (C L : Nat → List Vl → M Vl) : Nat → List Vl → M Vl
  | 0 => runF 1 1 (b_is_whole C L)
  | 1 => runF 2 1 (b_is_text C L)
  | 2 => runF 1 1 (b_is_letter C L)
  | 3 => runF 2 2 (b_is_number C L)
  | 4 => runF 2 1 (b_are_letters C L)
  | 5 => runF 2 1 (b_boxes_in C L)
  | 6 => runF 3 2 (b_are_pieces C L)
  | 7 => runF 5 3 (b_are_fills C L)
  | 8 => runF 3 3 (b_is_move C L)
  | 9 => runF 2 2 (b_has_row_form C L)
  | 10 => runF 12 1 (b_is_boxes C L)
  | 11 => runF 1 1 (b_need_boxes C L)
  | 12 => runF 3 2 (b_filled C L)
  | 13 => runF 7 4 (b_moved_on C L)
  | 14 => runF 5 2 (b_contents_of C L)
  | 15 => runF 3 2 (b_need_box_text C L)
  | 16 => runF 2 2 (b_box_contents C L)
  | 17 => runF 4 2 (b_text_of_boxes C L)
  | 18 => runF 2 2 (b_box_text C L)
  | 19 => runF 3 1 (b__law_begun C L)
  | 20 => runF 6 1 (b__law_blended C L)
  | 21 => runF 3 2 (b__law_draw C L)
  | 22 => runF 2 2 (b__law_pick C L)
  | 24 => runF 2 2 (b__law_is_truth C L)
  | 25 => runF 2 2 (b__law_oh_same C L)
  | 26 => runF 3 2 (b__law_oh_at C L)
  | 27 => runF 3 3 (b__law_oh_put C L)
  | 28 => runF 6 2 (b__law_oh_bent C L)
  | 29 => runF 4 2 (b__law_oh_spots C L)
  | 30 => runF 1 1 (b__law_oh_whole C L)
  | 31 => runF 2 1 (b__law_oh_is_word C L)
  | 32 => runF 7 4 (b__law_jn_some C L)
  | 33 => runF 3 2 (b__law_jn_filled C L)
  | 34 => runF 7 2 (b__law_jn_contents C L)
  | 35 => runF 4 2 (b__law_jn_written C L)
  | 36 => runF 5 3 (b__law_pieces C L)
  | 37 => runF 13 1 (b__law_made C L)
  | 38 => runF 6 3 (b__law_are_fills C L)
  | 39 => runF 2 1 (b__law_is_head C L)
  | 40 => runF 7 1 (b__law_judged C L)
  | 41 => runF 5 2 (b__law_doubled C L)
  | 42 => runF 5 1 (b__law_edges_right C L)
  | 43 => runF 12 1 (b_law C L)
  | _ => fun _ _ => none
def zero : Nat → List Vl → M Vl := fun _ _ _ => none
noncomputable def lev : Nat → (Nat → List Vl → M Vl) × (Nat → List Vl → M Vl) × (Nat → List Vl → M Vl)
  | 0 => (zero, zero, zero)
  | n + 1 => (step (lev n).1 (lev n).2.2, (lev n).1, (lev n).2.1)
theorem lv_is_whole (n : Nat) : (lev (n + 1)).1 0 = runF 1 1 (b_is_whole (lev n).1 (lev n).2.2) := rfl
theorem lv_is_text (n : Nat) : (lev (n + 1)).1 1 = runF 2 1 (b_is_text (lev n).1 (lev n).2.2) := rfl
theorem lv_is_letter (n : Nat) : (lev (n + 1)).1 2 = runF 1 1 (b_is_letter (lev n).1 (lev n).2.2) := rfl
theorem lv_is_number (n : Nat) : (lev (n + 1)).1 3 = runF 2 2 (b_is_number (lev n).1 (lev n).2.2) := rfl
theorem lv_are_letters (n : Nat) : (lev (n + 1)).1 4 = runF 2 1 (b_are_letters (lev n).1 (lev n).2.2) := rfl
theorem lv_boxes_in (n : Nat) : (lev (n + 1)).1 5 = runF 2 1 (b_boxes_in (lev n).1 (lev n).2.2) := rfl
theorem lv_are_pieces (n : Nat) : (lev (n + 1)).1 6 = runF 3 2 (b_are_pieces (lev n).1 (lev n).2.2) := rfl
theorem lv_are_fills (n : Nat) : (lev (n + 1)).1 7 = runF 5 3 (b_are_fills (lev n).1 (lev n).2.2) := rfl
theorem lv_is_move (n : Nat) : (lev (n + 1)).1 8 = runF 3 3 (b_is_move (lev n).1 (lev n).2.2) := rfl
theorem lv_has_row_form (n : Nat) : (lev (n + 1)).1 9 = runF 2 2 (b_has_row_form (lev n).1 (lev n).2.2) := rfl
theorem lv_is_boxes (n : Nat) : (lev (n + 1)).1 10 = runF 12 1 (b_is_boxes (lev n).1 (lev n).2.2) := rfl
theorem lv_need_boxes (n : Nat) : (lev (n + 1)).1 11 = runF 1 1 (b_need_boxes (lev n).1 (lev n).2.2) := rfl
theorem lv_filled (n : Nat) : (lev (n + 1)).1 12 = runF 3 2 (b_filled (lev n).1 (lev n).2.2) := rfl
theorem lv_moved_on (n : Nat) : (lev (n + 1)).1 13 = runF 7 4 (b_moved_on (lev n).1 (lev n).2.2) := rfl
theorem lv_contents_of (n : Nat) : (lev (n + 1)).1 14 = runF 5 2 (b_contents_of (lev n).1 (lev n).2.2) := rfl
theorem lv_need_box_text (n : Nat) : (lev (n + 1)).1 15 = runF 3 2 (b_need_box_text (lev n).1 (lev n).2.2) := rfl
theorem lv_box_contents (n : Nat) : (lev (n + 1)).1 16 = runF 2 2 (b_box_contents (lev n).1 (lev n).2.2) := rfl
theorem lv_text_of_boxes (n : Nat) : (lev (n + 1)).1 17 = runF 4 2 (b_text_of_boxes (lev n).1 (lev n).2.2) := rfl
theorem lv_box_text (n : Nat) : (lev (n + 1)).1 18 = runF 2 2 (b_box_text (lev n).1 (lev n).2.2) := rfl
theorem lv__law_begun (n : Nat) : (lev (n + 1)).1 19 = runF 3 1 (b__law_begun (lev n).1 (lev n).2.2) := rfl
theorem lv__law_blended (n : Nat) : (lev (n + 1)).1 20 = runF 6 1 (b__law_blended (lev n).1 (lev n).2.2) := rfl
theorem lv__law_draw (n : Nat) : (lev (n + 1)).1 21 = runF 3 2 (b__law_draw (lev n).1 (lev n).2.2) := rfl
theorem lv__law_pick (n : Nat) : (lev (n + 1)).1 22 = runF 2 2 (b__law_pick (lev n).1 (lev n).2.2) := rfl
theorem lv__law_is_truth (n : Nat) : (lev (n + 1)).1 24 = runF 2 2 (b__law_is_truth (lev n).1 (lev n).2.2) := rfl
theorem lv__law_oh_same (n : Nat) : (lev (n + 1)).1 25 = runF 2 2 (b__law_oh_same (lev n).1 (lev n).2.2) := rfl
theorem lv__law_oh_at (n : Nat) : (lev (n + 1)).1 26 = runF 3 2 (b__law_oh_at (lev n).1 (lev n).2.2) := rfl
theorem lv__law_oh_put (n : Nat) : (lev (n + 1)).1 27 = runF 3 3 (b__law_oh_put (lev n).1 (lev n).2.2) := rfl
theorem lv__law_oh_bent (n : Nat) : (lev (n + 1)).1 28 = runF 6 2 (b__law_oh_bent (lev n).1 (lev n).2.2) := rfl
theorem lv__law_oh_spots (n : Nat) : (lev (n + 1)).1 29 = runF 4 2 (b__law_oh_spots (lev n).1 (lev n).2.2) := rfl
theorem lv__law_oh_whole (n : Nat) : (lev (n + 1)).1 30 = runF 1 1 (b__law_oh_whole (lev n).1 (lev n).2.2) := rfl
theorem lv__law_oh_is_word (n : Nat) : (lev (n + 1)).1 31 = runF 2 1 (b__law_oh_is_word (lev n).1 (lev n).2.2) := rfl
theorem lv__law_jn_some (n : Nat) : (lev (n + 1)).1 32 = runF 7 4 (b__law_jn_some (lev n).1 (lev n).2.2) := rfl
theorem lv__law_jn_filled (n : Nat) : (lev (n + 1)).1 33 = runF 3 2 (b__law_jn_filled (lev n).1 (lev n).2.2) := rfl
theorem lv__law_jn_contents (n : Nat) : (lev (n + 1)).1 34 = runF 7 2 (b__law_jn_contents (lev n).1 (lev n).2.2) := rfl
theorem lv__law_jn_written (n : Nat) : (lev (n + 1)).1 35 = runF 4 2 (b__law_jn_written (lev n).1 (lev n).2.2) := rfl
theorem lv__law_pieces (n : Nat) : (lev (n + 1)).1 36 = runF 5 3 (b__law_pieces (lev n).1 (lev n).2.2) := rfl
theorem lv__law_made (n : Nat) : (lev (n + 1)).1 37 = runF 13 1 (b__law_made (lev n).1 (lev n).2.2) := rfl
theorem lv__law_are_fills (n : Nat) : (lev (n + 1)).1 38 = runF 6 3 (b__law_are_fills (lev n).1 (lev n).2.2) := rfl
theorem lv__law_is_head (n : Nat) : (lev (n + 1)).1 39 = runF 2 1 (b__law_is_head (lev n).1 (lev n).2.2) := rfl
theorem lv__law_judged (n : Nat) : (lev (n + 1)).1 40 = runF 7 1 (b__law_judged (lev n).1 (lev n).2.2) := rfl
theorem lv__law_doubled (n : Nat) : (lev (n + 1)).1 41 = runF 5 2 (b__law_doubled (lev n).1 (lev n).2.2) := rfl
theorem lv__law_edges_right (n : Nat) : (lev (n + 1)).1 42 = runF 5 1 (b__law_edges_right (lev n).1 (lev n).2.2) := rfl
theorem lv_law (n : Nat) : (lev (n + 1)).1 43 = runF 12 1 (b_law (lev n).1 (lev n).2.2) := rfl
theorem lv_lam (n : Nat) : (lev (n + 2)).2.2 = (lev n).1 := rfl
section
variable {P : Program} {w : World} {K : PySem.W.Frag} {mg : Str → Option Value} {T : Tb} {base : Heap} {n : Nat} {C L : Nat → List Vl → M Vl}
abbrev st_is_whole : Stmt := top 5
theorem sc_is_whole : FnScope ["value"] ["value"] (defScope st_is_whole) := C8.fnScope_by (by decide +kernel)
theorem ok_is_whole (G : Gs K mg) (hA : Oks P w K mg T base (n + 2) C) (hL : Oks P w K mg T base n L) {f : Addr} {fd : FuncData} {cdv : Value} (F : FD K "is_whole" st_is_whole f fd cdv) :
    FnQ false P w K mg base (n + 3) f fd ["value"] (spF K mg T 1 (runF 1 1 (b_is_whole C L))) :=
  fn_ok (N := ["value"]) F sc_is_whole fun A outer s H E fc => by
    exact (sss_one (ss_ret (se_and (se_bi cs_isi G.b_isinstance bi_isinstance (sa_cons (se_slot 0) (sa_cons (se_bty G.b_int bt_int) sa_nil))) (se_one (se_not (se_bi cs_isi G.b_isinstance bi_isinstance (sa_cons (se_slot 0) (sa_cons (se_bty G.b_bool bt_bool) sa_nil))))))))
abbrev st_is_text : Stmt := top 8
theorem sc_is_text : FnScope ["value", "sign"] ["value"] (defScope st_is_text) := C8.fnScope_by (by decide +kernel)
theorem ok_is_text (G : Gs K mg) (hA : Oks P w K mg T base (n + 2) C) (hL : Oks P w K mg T base n L) {f : Addr} {fd : FuncData} {cdv : Value} (F : FD K "is_text" st_is_text f fd cdv) :
    FnQ false P w K mg base (n + 3) f fd ["value"] (spF K mg T 1 (runF 2 1 (b_is_text C L))) :=
  fn_ok (N := ["value", "sign"]) F sc_is_text fun A outer s H E fc => by
    exact (sss_one (ss_ret (se_and (se_bi cs_isi G.b_isinstance bi_isinstance (sa_cons (se_slot 0) (sa_cons (se_bty G.b_str bt_str) sa_nil))) (se_one (se_bi (cs_all fc.calm_) G.b_all bi_all (sa_cons (se_lc [("sign", 1)] (t := (.nm 1)) (c := mTrue) (f := (mBin (bIn false) (mSlot 1) (mC k_LETTERS))) fc.calm_ fc.nd_ (si_val (se_slot 0)) (blkOk_by (N := ["value", "sign"]) (sc := (defScope st_is_text)) (by decide +kernel)) (fun _ _ _ _ _ => (tg_nm 1 fc.nd_)) (fun _ _ _ _ _ => sts_nil) (fun _ _ _ _ _ => (se_cmp (os_in fc.u65) (se_slot 1) (se_cst rfl G.c_LETTERS)))) sa_nil))))))
abbrev st_is_letter : Stmt := top 9
theorem sc_is_letter : FnScope ["value"] ["value"] (defScope st_is_letter) := C8.fnScope_by (by decide +kernel)
theorem ok_is_letter (G : Gs K mg) (hA : Oks P w K mg T base (n + 2) C) (hL : Oks P w K mg T base n L) {f : Addr} {fd : FuncData} {cdv : Value} (F : FD K "is_letter" st_is_letter f fd cdv) :
    FnQ false P w K mg base (n + 3) f fd ["value"] (spF K mg T 1 (runF 1 1 (b_is_letter C L))) :=
  fn_ok (N := ["value"]) F sc_is_letter fun A outer s H E fc => by
    exact (sss_one (ss_ret (se_and (se_call hA.f_is_text fc.hr (fun z => by cases z) fc.tk (sa_cons (se_slot 0) sa_nil)) (se_one (se_cmp (os_eq fc.u64) (se_bi cs_len G.b_len bi_len (sa_cons (se_slot 0) sa_nil)) se_int)))))
abbrev st_is_number : Stmt := top 12
theorem sc_is_number : FnScope ["value", "end"] ["value", "end"] (defScope st_is_number) := C8.fnScope_by (by decide +kernel)
theorem ok_is_number (G : Gs K mg) (hA : Oks P w K mg T base (n + 2) C) (hL : Oks P w K mg T base n L) {f : Addr} {fd : FuncData} {cdv : Value} (F : FD K "is_number" st_is_number f fd cdv) :
    FnQ false P w K mg base (n + 3) f fd ["value", "end"] (spF K mg T 2 (runF 2 2 (b_is_number C L))) :=
  fn_ok (N := ["value", "end"]) F sc_is_number fun A outer s H E fc => by
    exact (sss_one (ss_ret (se_and (se_call hA.f_is_whole fc.hr (fun z => by cases z) fc.tk (sa_cons (se_slot 0) sa_nil)) (se_one (se_chain os_le os_lt se_int (se_slot 0) (se_slot 1))))))
abbrev st_are_letters : Stmt := top 13
theorem sc_are_letters : FnScope ["value", "k"] ["value"] (defScope st_are_letters) := C8.fnScope_by (by decide +kernel)
theorem ok_are_letters (G : Gs K mg) (hA : Oks P w K mg T base (n + 2) C) (hL : Oks P w K mg T base n L) {f : Addr} {fd : FuncData} {cdv : Value} (F : FD K "are_letters" st_are_letters f fd cdv) :
    FnQ false P w K mg base (n + 3) f fd ["value"] (spF K mg T 1 (runF 2 1 (b_are_letters C L))) :=
  fn_ok (N := ["value", "k"]) F sc_are_letters fun A outer s H E fc => by
    exact (sss_cons (ss_if (st_w (sw_or (st_not (st_val (se_call hA.f_is_text fc.hr (fun z => by cases z) fc.tk (sa_cons (se_slot 0) sa_nil)))) (sw_or1 (st_not (st_chain os_le os_le se_int (se_bi cs_len G.b_len bi_len (sa_cons (se_slot 0) sa_nil)) (se_cst rfl G.c_MOST_LETTERS))))))
    (sss_one (ss_ret se_bl))
    sss_nil)
    (sss_one (ss_ret (se_bi (cs_all fc.calm_) G.b_all bi_all (sa_cons (se_lc [("k", 1)] (t := (.nm 1)) (c := mTrue) (f := (mBin bLtS (mBin bSub' (mSlot 0) (mSlot 1)) (mBin bSub' (mSlot 0) (mBin bAdd (mSlot 1) (mC (.int 1)))))) fc.calm_ fc.nd_ (si_rng1 G.b_range (sa_cons (se_bin os_sub (se_bi cs_len G.b_len bi_len (sa_cons (se_slot 0) sa_nil)) se_int) sa_nil)) (blkOk_by (N := ["value", "k"]) (sc := (defScope st_are_letters)) (by decide +kernel)) (fun _ _ _ _ _ => (tg_nm 1 fc.nd_)) (fun _ _ _ _ _ => sts_nil) (fun _ _ _ _ _ => (se_cmp os_ltS (se_sub fc.u1 (se_slot 0) (se_slot 1)) (se_sub fc.u1 (se_slot 0) (se_bin os_add (se_slot 1) se_int))))) sa_nil)))))
abbrev st_boxes_in : Stmt := top 17
theorem sc_boxes_in : FnScope ["pieces", "piece"] ["pieces"] (defScope st_boxes_in) := C8.fnScope_by (by decide +kernel)
theorem ok_boxes_in (G : Gs K mg) (hA : Oks P w K mg T base (n + 2) C) (hL : Oks P w K mg T base n L) {f : Addr} {fd : FuncData} {cdv : Value} (F : FD K "boxes_in" st_boxes_in f fd cdv) :
    FnQ false P w K mg base (n + 3) f fd ["pieces"] (spF K mg T 1 (runF 2 1 (b_boxes_in C L))) :=
  fn_ok (N := ["pieces", "piece"]) F sc_boxes_in fun A outer s H E fc => by
    exact (sss_one (ss_ret (se_lc [("piece", 1)] (t := (.nm 1)) (c := (mNot (mTst (mBi bIsi (mCons (mSlot 1) (mCons (mC (.ty "str")) mNil)))))) (f := (mSlot 1)) fc.calm_ fc.nd_ (si_val (se_slot 0)) (blkOk_by (N := ["pieces", "piece"]) (sc := (defScope st_boxes_in)) (by decide +kernel)) (fun _ _ _ _ _ => (tg_nm 1 fc.nd_)) (fun _ _ _ _ _ => (sts_one (st_not (st_val (se_bi cs_isi G.b_isinstance bi_isinstance (sa_cons (se_slot 1) (sa_cons (se_bty G.b_str bt_str) sa_nil))))))) (fun _ _ _ _ _ => (se_slot 1)))))
abbrev st_are_pieces : Stmt := top 18
theorem sc_are_pieces : FnScope ["value", "many", "piece"] ["value", "many"] (defScope st_are_pieces) := C8.fnScope_by (by decide +kernel)
theorem ok_are_pieces (G : Gs K mg) (hA : Oks P w K mg T base (n + 2) C) (hL : Oks P w K mg T base n L) {f : Addr} {fd : FuncData} {cdv : Value} (F : FD K "are_pieces" st_are_pieces f fd cdv) :
    FnQ false P w K mg base (n + 3) f fd ["value", "many"] (spF K mg T 2 (runF 3 2 (b_are_pieces C L))) :=
  fn_ok (N := ["value", "many", "piece"]) F sc_are_pieces fun A outer s H E fc => by
    exact (sss_cons (ss_if (st_not (st_val (se_bi cs_isi G.b_isinstance bi_isinstance (sa_cons (se_slot 0) (sa_cons (se_bty G.b_tuple bt_tuple) sa_nil)))))
    (sss_one (ss_ret se_bl))
    sss_nil)
    (sss_one (ss_ret (se_bi (cs_all fc.calm_) G.b_all bi_all (sa_cons (se_lc [("piece", 2)] (t := (.nm 2)) (c := mTrue) (f := (mOrV (mCall (C 2) [] (mCons (mSlot 2) mNil)) (mCall (C 3) [] (mCons (mSlot 2) (mCons (mSlot 1) mNil))))) fc.calm_ fc.nd_ (si_val (se_slot 0)) (blkOk_by (N := ["value", "many", "piece"]) (sc := (defScope st_are_pieces)) (by decide +kernel)) (fun _ _ _ _ _ => (tg_nm 2 fc.nd_)) (fun _ _ _ _ _ => sts_nil) (fun _ _ _ _ _ => (se_or (se_call hA.f_is_letter fc.hr (fun z => by cases z) takes0 (sa_cons (se_slot 2) sa_nil)) (se_one (se_call hA.f_is_number fc.hr (fun z => by cases z) takes0 (sa_cons (se_slot 2) (sa_cons (se_slot 1) sa_nil))))))) sa_nil)))))
abbrev st_are_fills : Stmt := top 19
theorem sc_are_fills : FnScope ["value", "many", "size", "used", "pieces"] ["value", "many", "size"] (defScope st_are_fills) := C8.fnScope_by (by decide +kernel)
theorem ok_are_fills (G : Gs K mg) (hA : Oks P w K mg T base (n + 2) C) (hL : Oks P w K mg T base n L) {f : Addr} {fd : FuncData} {cdv : Value} (F : FD K "are_fills" st_are_fills f fd cdv) :
    FnQ false P w K mg base (n + 3) f fd ["value", "many", "size"] (spF K mg T 3 (runF 5 3 (b_are_fills C L))) :=
  fn_ok (N := ["value", "many", "size", "used", "pieces"]) F sc_are_fills fun A outer s H E fc => by
    exact (sss_cons (ss_if (st_w (sw_or (st_not (st_val (se_bi cs_isi G.b_isinstance bi_isinstance (sa_cons (se_slot 0) (sa_cons (se_bty G.b_tuple bt_tuple) sa_nil))))) (sw_or (st_cmp (os_ne fc.u64) (se_bi cs_len G.b_len bi_len (sa_cons (se_slot 0) sa_nil)) (se_slot 2)) (sw_or1 (st_not (st_val (se_bi (cs_all fc.calm_) G.b_all bi_all (sa_cons (se_lc [("pieces", 4)] (t := (.nm 4)) (c := mTrue) (f := (mCall (C 6) [] (mCons (mSlot 4) (mCons (mSlot 1) mNil)))) fc.calm_ fc.nd_ (si_val (se_slot 0)) (blkOk_by (N := ["value", "many", "size", "used", "pieces"]) (sc := (defScope st_are_fills)) (by decide +kernel)) (fun _ _ _ _ _ => (tg_nm 4 fc.nd_)) (fun _ _ _ _ _ => sts_nil) (fun _ _ _ _ _ => (se_call hA.f_are_pieces fc.hr (fun z => by cases z) takes0 (sa_cons (se_slot 4) (sa_cons (se_slot 1) sa_nil))))) sa_nil))))))))
    (sss_one (ss_ret se_bl))
    sss_nil)
    (sss_cons (ss_set 3 fc.nd (se_lst sa_nil))
    (sss_cons (ss_for fc.po fc.calm (si_val (se_slot 0)) (sg_name 4 fc.nd)
    (sss_one (ss_set 3 fc.nd (se_bin os_add (se_slot 3) (se_call hA.f_boxes_in fc.hr (fun z => by cases z) fc.tk (sa_cons (se_slot 4) sa_nil))))))
    (sss_one (ss_ret (se_cmp (os_eq fc.u64) (se_lenSetA fc.calm G.b_len G.b_set (se_slot 3)) (se_bi cs_len G.b_len bi_len (sa_cons (se_slot 3) sa_nil))))))))
abbrev st_is_move : Stmt := top 20
theorem sc_is_move : FnScope ["value", "many", "sizes"] ["value", "many", "sizes"] (defScope st_is_move) := C8.fnScope_by (by decide +kernel)
theorem ok_is_move (G : Gs K mg) (hA : Oks P w K mg T base (n + 2) C) (hL : Oks P w K mg T base n L) {f : Addr} {fd : FuncData} {cdv : Value} (F : FD K "is_move" st_is_move f fd cdv) :
    FnQ false P w K mg base (n + 3) f fd ["value", "many", "sizes"] (spF K mg T 3 (runF 3 3 (b_is_move C L))) :=
  fn_ok (N := ["value", "many", "sizes"]) F sc_is_move fun A outer s H E fc => by
    exact (sss_cons (ss_if (st_w (sw_or (st_not (st_val (se_bi cs_isi G.b_isinstance bi_isinstance (sa_cons (se_slot 0) (sa_cons (se_bty G.b_tuple bt_tuple) sa_nil))))) (sw_or (st_cmp (os_ne fc.u64) (se_bi cs_len G.b_len bi_len (sa_cons (se_slot 0) sa_nil)) se_int) (sw_or1 (st_not (st_val (se_call hA.f_is_number fc.hr (fun z => by cases z) fc.tk (sa_cons (se_sub fc.u1 (se_slot 0) se_int) (sa_cons (se_bi cs_len G.b_len bi_len (sa_cons (se_slot 2) sa_nil)) sa_nil)))))))))
    (sss_one (ss_ret se_bl))
    sss_nil)
    (sss_one (ss_ret (se_call hA.f_are_fills fc.hr (fun z => by cases z) fc.tk (sa_cons (se_sub fc.u1 (se_slot 0) se_int) (sa_cons (se_slot 1) (sa_cons (se_sub fc.u1 (se_slot 2) (se_sub fc.u1 (se_slot 0) se_int)) sa_nil)))))))
abbrev st_has_row_form : Stmt := top 21
theorem sc_has_row_form : FnScope ["value", "letters"] ["value", "letters"] (defScope st_has_row_form) := C8.fnScope_by (by decide +kernel)
theorem ok_has_row_form (G : Gs K mg) (hA : Oks P w K mg T base (n + 2) C) (hL : Oks P w K mg T base n L) {f : Addr} {fd : FuncData} {cdv : Value} (F : FD K "has_row_form" st_has_row_form f fd cdv) :
    FnQ false P w K mg base (n + 3) f fd ["value", "letters"] (spF K mg T 2 (runF 2 2 (b_has_row_form C L))) :=
  fn_ok (N := ["value", "letters"]) F sc_has_row_form fun A outer s H E fc => by
    exact (sss_cons (ss_if (st_w (sw_or (st_not (st_val (se_bi cs_isi G.b_isinstance bi_isinstance (sa_cons (se_slot 0) (sa_cons (se_bty G.b_tuple bt_tuple) sa_nil))))) (sw_or (st_cmp (os_ne fc.u64) (se_bi cs_len G.b_len bi_len (sa_cons (se_slot 0) sa_nil)) se_int) (sw_or1 (st_not (st_val (se_call hA.f_is_number fc.hr (fun z => by cases z) fc.tk (sa_cons (se_sub fc.u1 (se_slot 0) se_int) (sa_cons (se_bin os_add (se_cst rfl G.c_MOST_BOXES) se_int) sa_nil)))))))))
    (sss_one (ss_ret se_bl))
    sss_nil)
    (sss_one (ss_ret (se_and (se_bi cs_isi G.b_isinstance bi_isinstance (sa_cons (se_sub fc.u1 (se_slot 0) se_int) (sa_cons (se_bty G.b_tuple bt_tuple) sa_nil))) (se_one (se_cmp (os_eq fc.u64) (se_bi cs_len G.b_len bi_len (sa_cons (se_sub fc.u1 (se_slot 0) se_int) sa_nil)) (se_bi cs_len G.b_len bi_len (sa_cons (se_slot 1) sa_nil))))))))
abbrev st_is_boxes : Stmt := top 22
theorem sc_is_boxes : FnScope ["value", "sizes", "word", "letters", "begun", "rows", "many", "moves", "out", "row", "text", "move"] ["value"] (defScope st_is_boxes) := C8.fnScope_by (by decide +kernel)
theorem ok_is_boxes (G : Gs K mg) (hA : Oks P w K mg T base (n + 2) C) (hL : Oks P w K mg T base n L) {f : Addr} {fd : FuncData} {cdv : Value} (F : FD K "is_boxes" st_is_boxes f fd cdv) :
    FnQ false P w K mg base (n + 3) f fd ["value"] (spF K mg T 1 (runF 12 1 (b_is_boxes C L))) :=
  fn_ok (N := ["value", "sizes", "word", "letters", "begun", "rows", "many", "moves", "out", "row", "text", "move"]) F sc_is_boxes fun A outer s H E fc => by
    exact (sss_cons (ss_if (st_w (sw_or (st_not (st_val (se_bi cs_isi G.b_isinstance bi_isinstance (sa_cons (se_slot 0) (sa_cons (se_bty G.b_tuple bt_tuple) sa_nil))))) (sw_or (st_cmp (os_ne fc.u64) (se_bi cs_len G.b_len bi_len (sa_cons (se_slot 0) sa_nil)) se_int) (sw_or (st_not (st_val (se_bi cs_isi G.b_isinstance bi_isinstance (sa_cons (se_sub fc.u1 (se_slot 0) se_int) (sa_cons (se_bty G.b_str bt_str) sa_nil))))) (sw_or1 (st_cmp (os_ne fc.u64) (se_sub fc.u1 (se_slot 0) se_int) se_str))))))
    (sss_one (ss_ret se_bl))
    sss_nil)
    (sss_cons (ss_asg (se_slot 0) (sg_tup fc.calm (sgs_cons (sg_name 2 fc.nd) (sgs_cons (sg_name 3 fc.nd) (sgs_cons (sg_name 4 fc.nd) (sgs_cons (sg_name 5 fc.nd) sgs_nil))))))
    (sss_cons (ss_if (st_w (sw_or (st_not (st_val (se_call hA.f_are_letters fc.hr (fun z => by cases z) fc.tk (sa_cons (se_slot 3) sa_nil)))) (sw_or (st_not (st_val (se_bi cs_isi G.b_isinstance bi_isinstance (sa_cons (se_slot 4) (sa_cons (se_bty G.b_tuple bt_tuple) sa_nil))))) (sw_or1 (st_not (st_val (se_bi (cs_all fc.calm_) G.b_all bi_all (sa_cons (se_lc [("text", 10)] (t := (.nm 10)) (c := mTrue) (f := (mCall (C 1) [] (mCons (mSlot 10) mNil))) fc.calm_ fc.nd_ (si_val (se_slot 4)) (blkOk_by (N := ["value", "sizes", "word", "letters", "begun", "rows", "many", "moves", "out", "row", "text", "move"]) (sc := (defScope st_is_boxes)) (by decide +kernel)) (fun _ _ _ _ _ => (tg_nm 10 fc.nd_)) (fun _ _ _ _ _ => sts_nil) (fun _ _ _ _ _ => (se_call hA.f_is_text fc.hr (fun z => by cases z) takes0 (sa_cons (se_slot 10) sa_nil)))) sa_nil))))))))
    (sss_one (ss_ret se_bl))
    sss_nil)
    (sss_cons (ss_if (st_w (sw_or (st_not (st_val (se_bi cs_isi G.b_isinstance bi_isinstance (sa_cons (se_slot 5) (sa_cons (se_bty G.b_tuple bt_tuple) sa_nil))))) (sw_or1 (st_not (st_chain os_le os_le se_int (se_bi cs_len G.b_len bi_len (sa_cons (se_slot 5) sa_nil)) (se_cst rfl G.c_MOST_ROWS))))))
    (sss_one (ss_ret se_bl))
    sss_nil)
    (sss_cons (ss_if (st_w (sw_or (st_not (st_val (se_bi (cs_all fc.calm_) G.b_all bi_all (sa_cons (se_lc [("row", 9)] (t := (.nm 9)) (c := mTrue) (f := (mCall (C 9) [] (mCons (mSlot 9) (mCons (mSlot 3) mNil)))) fc.calm_ fc.nd_ (si_val (se_slot 5)) (blkOk_by (N := ["value", "sizes", "word", "letters", "begun", "rows", "many", "moves", "out", "row", "text", "move"]) (sc := (defScope st_is_boxes)) (by decide +kernel)) (fun _ _ _ _ _ => (tg_nm 9 fc.nd_)) (fun _ _ _ _ _ => sts_nil) (fun _ _ _ _ _ => (se_call hA.f_has_row_form fc.hr (fun z => by cases z) takes0 (sa_cons (se_slot 9) (sa_cons (se_slot 3) sa_nil))))) sa_nil)))) (sw_or1 (st_cmp (os_ne fc.u64) (se_sub fc.u1 (se_sub fc.u1 (se_slot 5) se_int) se_int) (se_bi cs_len G.b_len bi_len (sa_cons (se_slot 4) sa_nil))))))
    (sss_one (ss_ret se_bl))
    sss_nil)
    (sss_cons (ss_set 1 fc.nd (se_lc [("row", 9)] (t := (.nm 9)) (c := mTrue) (f := (mBin bSub' (mSlot 9) (mC (.int 0)))) fc.calm_ fc.nd_ (si_val (se_slot 5)) (blkOk_by (N := ["value", "sizes", "word", "letters", "begun", "rows", "many", "moves", "out", "row", "text", "move"]) (sc := (defScope st_is_boxes)) (by decide +kernel)) (fun _ _ _ _ _ => (tg_nm 9 fc.nd_)) (fun _ _ _ _ _ => sts_nil) (fun _ _ _ _ _ => (se_sub fc.u1 (se_slot 9) se_int))))
    (sss_cons (ss_for fc.po fc.calm (si_val (se_slot 5)) (sg_tup fc.calm (sgs_cons (sg_name 6 fc.nd) (sgs_cons (sg_name 7 fc.nd) (sgs_cons (sg_name 8 fc.nd) sgs_nil))))
    (sss_one (ss_if (st_w (sw_or (st_not (st_val (se_call hA.f_are_fills fc.hr (fun z => by cases z) fc.tk (sa_cons (se_tup (sa_cons (se_slot 8) sa_nil)) (sa_cons (se_slot 6) (sa_cons se_int sa_nil)))))) (sw_or1 (st_not (st_val (se_bi (cs_all fc.calm_) G.b_all bi_all (sa_cons (se_lc [("move", 11)] (t := (.nm 11)) (c := mTrue) (f := (mCall (C 8) [] (mCons (mSlot 11) (mCons (mSlot 6) (mCons (mSlot 1) mNil))))) fc.calm_ fc.nd_ (si_val (se_slot 7)) (blkOk_by (N := ["value", "sizes", "word", "letters", "begun", "rows", "many", "moves", "out", "row", "text", "move"]) (sc := (defScope st_is_boxes)) (by decide +kernel)) (fun _ _ _ _ _ => (tg_nm 11 fc.nd_)) (fun _ _ _ _ _ => sts_nil) (fun _ _ _ _ _ => (se_call hA.f_is_move fc.hr (fun z => by cases z) takes0 (sa_cons (se_slot 11) (sa_cons (se_slot 6) (sa_cons (se_slot 1) sa_nil)))))) sa_nil)))))))
    (sss_one (ss_ret se_bl))
    sss_nil)))
    (sss_one (ss_ret se_bl)))))))))
abbrev st_need_boxes : Stmt := top 23
theorem sc_need_boxes : FnScope ["boxes"] ["boxes"] (defScope st_need_boxes) := C8.fnScope_by (by decide +kernel)
theorem ok_need_boxes (G : Gs K mg) (hA : Oks P w K mg T base (n + 2) C) (hL : Oks P w K mg T base n L) {f : Addr} {fd : FuncData} {cdv : Value} (F : FD K "need_boxes" st_need_boxes f fd cdv) :
    FnQ false P w K mg base (n + 3) f fd ["boxes"] (spF K mg T 1 (runF 1 1 (b_need_boxes C L))) :=
  fn_ok (N := ["boxes"]) F sc_need_boxes fun A outer s H E fc => by
    exact (sss_one (ss_if (st_not (st_val (se_call hA.f_is_boxes fc.hr (fun z => by cases z) fc.tk (sa_cons (se_slot 0) sa_nil))))
    (sss_one (ss_raise fc.calm fc.tk G.e_BadBoxes))
    sss_nil))
abbrev st_filled : Stmt := top 24
theorem sc_filled : FnScope ["pieces", "texts", "piece"] ["pieces", "texts"] (defScope st_filled) := C8.fnScope_by (by decide +kernel)
theorem ok_filled (G : Gs K mg) (hA : Oks P w K mg T base (n + 2) C) (hL : Oks P w K mg T base n L) {f : Addr} {fd : FuncData} {cdv : Value} (F : FD K "filled" st_filled f fd cdv) :
    FnQ false P w K mg base (n + 3) f fd ["pieces", "texts"] (spF K mg T 2 (runF 3 2 (b_filled C L))) :=
  fn_ok (N := ["pieces", "texts", "piece"]) F sc_filled fun A outer s H E fc => by
    exact (sss_one (ss_ret (se_met PySem.F.plainAttrs_str PySem.F.slot_str_join PySem.F.type_str_join ms_join se_str (sa_cons (se_lc [("piece", 2)] (t := (.nm 2)) (c := mTrue) (f := (mIte (mTst (mBi bIsi (mCons (mSlot 2) (mCons (mC (.ty "str")) mNil)))) (mSlot 2) (mBin bSub' (mSlot 1) (mSlot 2)))) fc.calm_ fc.nd_ (si_val (se_slot 0)) (blkOk_by (N := ["pieces", "texts", "piece"]) (sc := (defScope st_filled)) (by decide +kernel)) (fun _ _ _ _ _ => (tg_nm 2 fc.nd_)) (fun _ _ _ _ _ => sts_nil) (fun _ _ _ _ _ => (se_ite (st_val (se_bi cs_isi G.b_isinstance bi_isinstance (sa_cons (se_slot 2) (sa_cons (se_bty G.b_str bt_str) sa_nil)))) (se_slot 2) (se_sub fc.u1 (se_slot 1) (se_slot 2))))) sa_nil))))
abbrev st_moved_on : Stmt := top 25
theorem sc_moved_on : FnScope ["boxes", "row", "texts", "letter", "goal", "fills", "pieces"] ["boxes", "row", "texts", "letter"] (defScope st_moved_on) := C8.fnScope_by (by decide +kernel)
theorem ok_moved_on (G : Gs K mg) (hA : Oks P w K mg T base (n + 2) C) (hL : Oks P w K mg T base n L) {f : Addr} {fd : FuncData} {cdv : Value} (F : FD K "moved_on" st_moved_on f fd cdv) :
    FnQ false P w K mg base (n + 3) f fd ["boxes", "row", "texts", "letter"] (spF K mg T 4 (runF 7 4 (b_moved_on C L))) :=
  fn_ok (N := ["boxes", "row", "texts", "letter", "goal", "fills", "pieces"]) F sc_moved_on fun A outer s H E fc => by
    exact (sss_cons (ss_asg (se_sub fc.u1 (se_sub fc.u1 (se_sub fc.u1 (se_sub fc.u1 (se_slot 0) se_int) (se_slot 1)) se_int) (se_met PySem.F.plainAttrs_str PySem.F.slot_str_index PySem.F.type_str_index ms_indexS (se_sub fc.u1 (se_slot 0) se_int) (sa_cons (se_slot 3) sa_nil))) (sg_tup fc.calm (sgs_cons (sg_name 4 fc.nd) (sgs_cons (sg_name 5 fc.nd) sgs_nil))))
    (sss_one (ss_ret (se_tup (sa_cons (se_slot 4) (sa_cons (se_lc [("pieces", 6)] (t := (.nm 6)) (c := mTrue) (f := (mCall (C 12) [] (mCons (mSlot 6) (mCons (mSlot 2) mNil)))) fc.calm_ fc.nd_ (si_val (se_slot 5)) (blkOk_by (N := ["boxes", "row", "texts", "letter", "goal", "fills", "pieces"]) (sc := (defScope st_moved_on)) (by decide +kernel)) (fun _ _ _ _ _ => (tg_nm 6 fc.nd_)) (fun _ _ _ _ _ => sts_nil) (fun _ _ _ _ _ => (se_call hA.f_filled fc.hr (fun z => by cases z) takes0 (sa_cons (se_slot 6) (sa_cons (se_slot 2) sa_nil))))) sa_nil))))))
abbrev st_contents_of : Stmt := top 26
theorem sc_contents_of : FnScope ["boxes", "text", "letter", "row", "texts"] ["boxes", "text"] (defScope st_contents_of) := C8.fnScope_by (by decide +kernel)
theorem ok_contents_of (G : Gs K mg) (hA : Oks P w K mg T base (n + 2) C) (hL : Oks P w K mg T base n L) {f : Addr} {fd : FuncData} {cdv : Value} (F : FD K "contents_of" st_contents_of f fd cdv) :
    FnQ false P w K mg base (n + 3) f fd ["boxes", "text"] (spF K mg T 2 (runF 5 2 (b_contents_of C L))) :=
  fn_ok (N := ["boxes", "text", "letter", "row", "texts"]) F sc_contents_of fun A outer s H E fc => by
    exact (sss_cons (ss_par 3 4 fc.calm fc.nd (sa_cons se_int (sa_cons (se_ty cs_list G.b_list bt_list (sa_cons (se_sub fc.u1 (se_slot 0) se_int) sa_nil)) sa_nil)) (by rfl))
    (sss_cons (ss_for fc.po fc.calm (si_val (se_slot 1)) (sg_name 2 fc.nd)
    (sss_one (ss_asg (se_call hA.f_moved_on fc.hr (fun z => by cases z) fc.tk (sa_cons (se_slot 0) (sa_cons (se_slot 3) (sa_cons (se_slot 4) (sa_cons (se_slot 2) sa_nil))))) (sg_tup fc.calm (sgs_cons (sg_name 3 fc.nd) (sgs_cons (sg_name 4 fc.nd) sgs_nil))))))
    (sss_one (ss_ret (se_tup (sa_cons (se_slot 3) (sa_cons (se_slot 4) sa_nil)))))))
abbrev st_need_box_text : Stmt := top 27
theorem sc_need_box_text : FnScope ["boxes", "text", "letter"] ["boxes", "text"] (defScope st_need_box_text) := C8.fnScope_by (by decide +kernel)
theorem ok_need_box_text (G : Gs K mg) (hA : Oks P w K mg T base (n + 2) C) (hL : Oks P w K mg T base n L) {f : Addr} {fd : FuncData} {cdv : Value} (F : FD K "need_box_text" st_need_box_text f fd cdv) :
    FnQ false P w K mg base (n + 3) f fd ["boxes", "text"] (spF K mg T 2 (runF 3 2 (b_need_box_text C L))) :=
  fn_ok (N := ["boxes", "text", "letter"]) F sc_need_box_text fun A outer s H E fc => by
    exact (sss_cons (ss_exp (se_call hA.f_need_boxes fc.hr (fun z => by cases z) fc.tk (sa_cons (se_slot 0) sa_nil)))
    (sss_one (ss_if (st_w (sw_or (st_not (st_val (se_call hA.f_is_text fc.hr (fun z => by cases z) fc.tk (sa_cons (se_slot 1) sa_nil)))) (sw_or1 (st_not (st_val (se_bi (cs_all fc.calm_) G.b_all bi_all (sa_cons (se_lc [("letter", 2)] (t := (.nm 2)) (c := mTrue) (f := (mBin (bIn false) (mSlot 2) (mBin bSub' (mSlot 0) (mC (.int 1))))) fc.calm_ fc.nd_ (si_val (se_slot 1)) (blkOk_by (N := ["boxes", "text", "letter"]) (sc := (defScope st_need_box_text)) (by decide +kernel)) (fun _ _ _ _ _ => (tg_nm 2 fc.nd_)) (fun _ _ _ _ _ => sts_nil) (fun _ _ _ _ _ => (se_cmp (os_in fc.u65) (se_slot 2) (se_sub fc.u1 (se_slot 0) se_int)))) sa_nil)))))))
    (sss_one (ss_raise fc.calm fc.tk G.e_BadText))
    sss_nil)))
abbrev st_box_contents : Stmt := top 28
theorem sc_box_contents : FnScope ["boxes", "text"] ["boxes", "text"] (defScope st_box_contents) := C8.fnScope_by (by decide +kernel)
theorem ok_box_contents (G : Gs K mg) (hA : Oks P w K mg T base (n + 2) C) (hL : Oks P w K mg T base n L) {f : Addr} {fd : FuncData} {cdv : Value} (F : FD K "box_contents" st_box_contents f fd cdv) :
    FnQ false P w K mg base (n + 3) f fd ["boxes", "text"] (spF K mg T 2 (runF 2 2 (b_box_contents C L))) :=
  fn_ok (N := ["boxes", "text"]) F sc_box_contents fun A outer s H E fc => by
    exact (sss_cons (ss_exp (se_call hA.f_need_box_text fc.hr (fun z => by cases z) fc.tk (sa_cons (se_slot 0) (sa_cons (se_slot 1) sa_nil))))
    (sss_one (ss_ret (se_call hA.f_contents_of fc.hr (fun z => by cases z) fc.tk (sa_cons (se_slot 0) (sa_cons (se_slot 1) sa_nil))))))
abbrev st_text_of_boxes : Stmt := top 29
theorem sc_text_of_boxes : FnScope ["boxes", "text", "row", "texts"] ["boxes", "text"] (defScope st_text_of_boxes) := C8.fnScope_by (by decide +kernel)
theorem ok_text_of_boxes (G : Gs K mg) (hA : Oks P w K mg T base (n + 2) C) (hL : Oks P w K mg T base n L) {f : Addr} {fd : FuncData} {cdv : Value} (F : FD K "text_of_boxes" st_text_of_boxes f fd cdv) :
    FnQ false P w K mg base (n + 3) f fd ["boxes", "text"] (spF K mg T 2 (runF 4 2 (b_text_of_boxes C L))) :=
  fn_ok (N := ["boxes", "text", "row", "texts"]) F sc_text_of_boxes fun A outer s H E fc => by
    exact (sss_cons (ss_asg (se_call hA.f_contents_of fc.hr (fun z => by cases z) fc.tk (sa_cons (se_slot 0) (sa_cons (se_slot 1) sa_nil))) (sg_tup fc.calm (sgs_cons (sg_name 2 fc.nd) (sgs_cons (sg_name 3 fc.nd) sgs_nil))))
    (sss_one (ss_ret (se_call hA.f_filled fc.hr (fun z => by cases z) fc.tk (sa_cons (se_sub fc.u1 (se_sub fc.u1 (se_sub fc.u1 (se_slot 0) se_int) (se_slot 2)) se_int) (sa_cons (se_slot 3) sa_nil))))))
abbrev st_box_text : Stmt := top 30
theorem sc_box_text : FnScope ["boxes", "text"] ["boxes", "text"] (defScope st_box_text) := C8.fnScope_by (by decide +kernel)
theorem ok_box_text (G : Gs K mg) (hA : Oks P w K mg T base (n + 2) C) (hL : Oks P w K mg T base n L) {f : Addr} {fd : FuncData} {cdv : Value} (F : FD K "box_text" st_box_text f fd cdv) :
    FnQ false P w K mg base (n + 3) f fd ["boxes", "text"] (spF K mg T 2 (runF 2 2 (b_box_text C L))) :=
  fn_ok (N := ["boxes", "text"]) F sc_box_text fun A outer s H E fc => by
    exact (sss_cons (ss_exp (se_call hA.f_need_box_text fc.hr (fun z => by cases z) fc.tk (sa_cons (se_slot 0) (sa_cons (se_slot 1) sa_nil))))
    (sss_one (ss_ret (se_call hA.f_text_of_boxes fc.hr (fun z => by cases z) fc.tk (sa_cons (se_slot 0) (sa_cons (se_slot 1) sa_nil))))))
abbrev st__law_begun : Stmt := top 32
theorem sc__law_begun : FnScope ["_law_script", "_law_great", "_law_cell"] ["_law_script"] (defScope st__law_begun) := C8.fnScope_by (by decide +kernel)
theorem ok__law_begun (G : Gs K mg) (hA : Oks P w K mg T base (n + 2) C) (hL : Oks P w K mg T base n L) {f : Addr} {fd : FuncData} {cdv : Value} (F : FD K "_law_begun" st__law_begun f fd cdv) :
    FnQ false P w K mg base (n + 3) f fd ["_law_script"] (spF K mg T 1 (runF 3 1 (b__law_begun C L))) :=
  fn_ok (N := ["_law_script", "_law_great", "_law_cell"]) F sc__law_begun fun A outer s H E fc => by
    exact (sss_cons (ss_setLc 1 [("_law_cell", 2)] (t := (.nm 2)) (c := (mTst (mBin bGe (mBi bAbs (mCons (mSlot 2) mNil)) (mBin bPow (mC (.int 10)) (mC (.int 18)))))) (f := (mBin bSub (mBi bAbs (mCons (mSlot 2) mNil)) (mBin bPow (mC (.int 10)) (mC (.int 18))))) fc.calm_ fc.nd_ (L2.sw_true rfl rfl rfl (by decide +kernel)) (si_val (se_slot 0)) (blkOk_by (N := ["_law_script", "_law_great", "_law_cell"]) (sc := (defScope st__law_begun)) (by decide +kernel)) (fun _ _ _ _ _ => (tg_nm 2 fc.nd_)) (fun _ _ _ _ _ => (sts_one (st_cmp os_ge (se_bi cs_abs G.b_abs bi_abs (sa_cons (se_slot 2) sa_nil)) (se_bin os_pow se_int se_int)))) (fun _ _ _ _ _ => (se_bin os_sub (se_bi cs_abs G.b_abs bi_abs (sa_cons (se_slot 2) sa_nil)) (se_bin os_pow se_int se_int))))
    (sss_one (ss_ret (se_disp (sps_cons se_str (se_slot 1) (sps_cons se_str (se_lc [("_law_cell", 2)] (t := (.nm 2)) (c := mTrue) (f := (mBi bAbs (mCons (mSlot 2) mNil))) fc.calm_ fc.nd_ (si_val (se_slot 0)) (blkOk_by (N := ["_law_script", "_law_great", "_law_cell"]) (sc := (defScope st__law_begun)) (by decide +kernel)) (fun _ _ _ _ _ => (tg_nm 2 fc.nd_)) (fun _ _ _ _ _ => sts_nil) (fun _ _ _ _ _ => (se_bi cs_abs G.b_abs bi_abs (sa_cons (se_slot 2) sa_nil)))) (sps_cons se_str se_int (sps_cons se_str se_int sps_nil))))))))
abbrev st__law_blended : Stmt := top 33
theorem sc__law_blended : FnScope ["_law_state", "_law_prime", "_law_turn", "_law_found", "_law_blend", "_law_cell"] ["_law_state"] (defScope st__law_blended) := C8.fnScope_by (by decide +kernel)
theorem ok__law_blended (G : Gs K mg) (hA : Oks P w K mg T base (n + 2) C) (hL : Oks P w K mg T base n L) {f : Addr} {fd : FuncData} {cdv : Value} (F : FD K "_law_blended" st__law_blended f fd cdv) :
    FnQ false P w K mg base (n + 3) f fd ["_law_state"] (spF K mg T 1 (runF 6 1 (b__law_blended C L))) :=
  fn_ok (N := ["_law_state", "_law_prime", "_law_turn", "_law_found", "_law_blend", "_law_cell"]) F sc__law_blended fun A outer s H E fc => by
    exact (sss_cons (ss_par 2 3 fc.calm fc.nd (sa_cons (se_bin os_add (se_sub fc.u1 (se_slot 0) se_str) se_int) (sa_cons se_int sa_nil)) (by rfl))
    (sss_cons (ss_asg (se_slot 2) (sg_sub fc.u1 (se_slot 0) se_str))
    (sss_cons (ss_for fc.po fc.calm (si_val (se_lst (sa_cons se_int (sa_cons se_int (sa_cons se_int sa_nil))))) (sg_name 1 fc.nd)
    (sss_cons (ss_set 4 fc.nd (se_bin os_add (se_bin os_mul se_int (se_slot 2)) (se_bin os_div (se_slot 1) se_int)))
    (sss_cons (ss_for fc.po fc.calm (si_val (se_sub fc.u1 (se_slot 0) se_str)) (sg_name 5 fc.nd)
    (sss_one (ss_set 4 fc.nd (se_bin os_mod (se_ty cs_int G.b_int bt_int (sa_cons (se_bin os_add (se_bin os_add (se_bin os_mul (se_slot 4) se_int) (se_slot 5)) (se_slot 2)) sa_nil)) (se_slot 1)))))
    (sss_one (ss_set 3 fc.nd (se_bin os_add (se_bin os_mul (se_slot 3) se_int) (se_bin os_mod (se_ty cs_int G.b_int bt_int (sa_cons (se_bin os_pow (se_slot 4) se_int) sa_nil)) (se_slot 1))))))))
    (sss_one (ss_ret (se_slot 3))))))
abbrev st__law_draw : Stmt := top 34
theorem sc__law_draw : FnScope ["_law_state", "_law_room", "_law_found"] ["_law_state", "_law_room"] (defScope st__law_draw) := C8.fnScope_by (by decide +kernel)
theorem ok__law_draw (G : Gs K mg) (hA : Oks P w K mg T base (n + 2) C) (hL : Oks P w K mg T base n L) {f : Addr} {fd : FuncData} {cdv : Value} (F : FD K "_law_draw" st__law_draw f fd cdv) :
    FnQ false P w K mg base (n + 3) f fd ["_law_state", "_law_room"] (spF K mg T 2 (runF 3 2 (b__law_draw C L))) :=
  fn_ok (N := ["_law_state", "_law_room", "_law_found"]) F sc__law_draw fun A outer s H E fc => by
    exact (sss_cons (ss_if (st_cmp (os_eq fc.u64) (se_sub fc.u1 (se_slot 0) se_str) se_int)
    (sss_one (ss_asg (se_ite (st_cmp (os_ne fc.u64) (se_sub fc.u1 (se_slot 0) se_str) (se_lst sa_nil)) (se_met PySem.F.plainAttrs_list PySem.F.slot_list_pop PySem.F.type_list_pop ms_popAt (se_sub fc.u1 (se_slot 0) se_str) (sa_cons se_int sa_nil)) (se_call hA.f__law_blended fc.hr (fun z => by cases z) fc.tk (sa_cons (se_slot 0) sa_nil))) (sg_sub fc.u1 (se_slot 0) se_str)))
    sss_nil)
    (sss_cons (ss_set 2 fc.nd (se_bin os_mod (se_ty cs_int G.b_int bt_int (sa_cons (se_sub fc.u1 (se_slot 0) se_str) sa_nil)) (se_slot 1)))
    (sss_cons (ss_asg (se_bin os_div (se_sub fc.u1 (se_slot 0) se_str) (se_slot 1)) (sg_sub fc.u1 (se_slot 0) se_str))
    (sss_one (ss_ret (se_slot 2))))))
abbrev st__law_pick : Stmt := top 35
theorem sc__law_pick : FnScope ["_law_state", "_law_some"] ["_law_state", "_law_some"] (defScope st__law_pick) := C8.fnScope_by (by decide +kernel)
theorem ok__law_pick (G : Gs K mg) (hA : Oks P w K mg T base (n + 2) C) (hL : Oks P w K mg T base n L) {f : Addr} {fd : FuncData} {cdv : Value} (F : FD K "_law_pick" st__law_pick f fd cdv) :
    FnQ false P w K mg base (n + 3) f fd ["_law_state", "_law_some"] (spF K mg T 2 (runF 2 2 (b__law_pick C L))) :=
  fn_ok (N := ["_law_state", "_law_some"]) F sc__law_pick fun A outer s H E fc => by
    exact (sss_one (ss_ret (se_sub fc.u1 (se_slot 1) (se_call hA.f__law_draw fc.hr (fun z => by cases z) fc.tk (sa_cons (se_slot 0) (sa_cons (se_bi cs_len G.b_len bi_len (sa_cons (se_slot 1) sa_nil)) sa_nil))))))
abbrev st__law_is_truth : Stmt := top 37
theorem sc__law_is_truth : FnScope ["_law_found", "_law_due"] ["_law_found", "_law_due"] (defScope st__law_is_truth) := C8.fnScope_by (by decide +kernel)
theorem ok__law_is_truth (G : Gs K mg) (hA : Oks P w K mg T base (n + 2) C) (hL : Oks P w K mg T base n L) {f : Addr} {fd : FuncData} {cdv : Value} (F : FD K "_law_is_truth" st__law_is_truth f fd cdv) :
    FnQ false P w K mg base (n + 3) f fd ["_law_found", "_law_due"] (spF K mg T 2 (runF 2 2 (b__law_is_truth C L))) :=
  fn_ok (N := ["_law_found", "_law_due"]) F sc__law_is_truth fun A outer s H E fc => by
    exact (sss_one (ss_ret (se_ite (st_val (se_slot 1)) (se_cmp os_is (se_slot 0) se_bl) (se_cmp os_is (se_slot 0) se_bl))))
abbrev st__law_oh_same : Stmt := top 38
theorem sc__law_oh_same : FnScope ["_law_found", "_law_due"] ["_law_found", "_law_due"] (defScope st__law_oh_same) := C8.fnScope_by (by decide +kernel)
theorem ok__law_oh_same (G : Gs K mg) (hA : Oks P w K mg T base (n + 2) C) (hL : Oks P w K mg T base n L) {f : Addr} {fd : FuncData} {cdv : Value} (F : FD K "_law_oh_same" st__law_oh_same f fd cdv) :
    FnQ true P w K mg base (n + 3) f fd ["_law_found", "_law_due"] (spF K mg T 2 (runF 2 2 (b__law_oh_same C L))) :=
  fn_ok (N := ["_law_found", "_law_due"]) F sc__law_oh_same fun A outer s H E fc => by
    exact (sss_one (ss_ret (se_cmp (os_eq fc.u64) (se_bi (cs_repr fc.u1002 (fc.gd rfl)) G.b_repr bi_repr (sa_cons (se_slot 0) sa_nil)) (se_bi (cs_repr fc.u1002 (fc.gd rfl)) G.b_repr bi_repr (sa_cons (se_slot 1) sa_nil)))))
abbrev st__law_oh_at : Stmt := top 39
theorem sc__law_oh_at : FnScope ["_law_thing", "_law_path", "_law_k"] ["_law_thing", "_law_path"] (defScope st__law_oh_at) := C8.fnScope_by (by decide +kernel)
theorem ok__law_oh_at (G : Gs K mg) (hA : Oks P w K mg T base (n + 2) C) (hL : Oks P w K mg T base n L) {f : Addr} {fd : FuncData} {cdv : Value} (F : FD K "_law_oh_at" st__law_oh_at f fd cdv) :
    FnQ false P w K mg base (n + 3) f fd ["_law_thing", "_law_path"] (spF K mg T 2 (runF 3 2 (b__law_oh_at C L))) :=
  fn_ok (N := ["_law_thing", "_law_path", "_law_k"]) F sc__law_oh_at fun A outer s H E fc => by
    exact (sss_cons (ss_for fc.po fc.calm (si_val (se_slot 1)) (sg_name 2 fc.nd)
    (sss_one (ss_set 0 fc.nd (se_sub fc.u1 (se_slot 0) (se_slot 2)))))
    (sss_one (ss_ret (se_slot 0))))
abbrev st__law_oh_put : Stmt := top 40
theorem sc__law_oh_put : FnScope ["_law_thing", "_law_path", "_law_part"] ["_law_thing", "_law_path", "_law_part"] (defScope st__law_oh_put) := C8.fnScope_by (by decide +kernel)
theorem ok__law_oh_put (G : Gs K mg) (hA : Oks P w K mg T base (n + 2) C) (hL : Oks P w K mg T base n L) {f : Addr} {fd : FuncData} {cdv : Value} (F : FD K "_law_oh_put" st__law_oh_put f fd cdv) :
    FnQ false P w K mg base (n + 3) f fd ["_law_thing", "_law_path", "_law_part"] (spF K mg T 3 (runF 3 3 (b__law_oh_put C L))) :=
  fn_ok (N := ["_law_thing", "_law_path", "_law_part"]) F sc__law_oh_put fun A outer s H E fc => by
    exact (sss_cons (ss_if (st_cmp (os_eq fc.u64) (se_slot 1) (se_tup sa_nil))
    (sss_one (ss_ret (se_slot 2)))
    sss_nil)
    (sss_one (ss_ret (se_bin os_add (se_bin os_add (se_sl (se_slot 0) so_none (so_some (se_sub fc.u1 (se_slot 1) se_int))) (se_tup (sa_cons (se_call hA.f__law_oh_put fc.hr (fun z => by cases z) fc.tk (sa_cons (se_sub fc.u1 (se_slot 0) (se_sub fc.u1 (se_slot 1) se_int)) (sa_cons (se_sl (se_slot 1) (so_some se_int) so_none) (sa_cons (se_slot 2) sa_nil)))) sa_nil))) (se_sl (se_slot 0) (so_some (se_bin os_add (se_sub fc.u1 (se_slot 1) se_int) se_int)) so_none)))))
abbrev st__law_oh_bent : Stmt := top 41
theorem sc__law_oh_bent : FnScope ["_law_state", "_law_thing", "_law_spots", "_law_path", "_law_part", "_law_some"] ["_law_state", "_law_thing"] (defScope st__law_oh_bent) := C8.fnScope_by (by decide +kernel)
theorem ok__law_oh_bent (G : Gs K mg) (hA : Oks P w K mg T base (n + 2) C) (hL : Oks P w K mg T base n L) {f : Addr} {fd : FuncData} {cdv : Value} (F : FD K "_law_oh_bent" st__law_oh_bent f fd cdv) :
    FnQ false P w K mg base (n + 3) f fd ["_law_state", "_law_thing"] (spF K mg T 2 (runF 6 2 (b__law_oh_bent C L))) :=
  fn_ok (N := ["_law_state", "_law_thing", "_law_spots", "_law_path", "_law_part", "_law_some"]) F sc__law_oh_bent fun A outer s H E fc => by
    exact (sss_cons (ss_set 2 fc.nd (se_call hA.f__law_oh_spots fc.hr (fun z => by cases z) fc.tk (sa_cons (se_slot 1) (sa_cons (se_tup sa_nil) sa_nil))))
    (sss_cons (ss_set 3 fc.nd (se_call hA.f__law_pick fc.hr (fun z => by cases z) fc.tk (sa_cons (se_slot 0) (sa_cons (se_sl (se_slot 2) (so_some se_int) so_none) sa_nil))))
    (sss_cons (ss_set 4 fc.nd (se_call hA.f__law_oh_at fc.hr (fun z => by cases z) fc.tk (sa_cons (se_slot 1) (sa_cons (se_slot 3) sa_nil))))
    (sss_cons (ss_set 5 fc.nd (se_lst (sa_cons se_non (sa_cons (se_tup sa_nil) (sa_cons se_int (sa_cons se_int (sa_cons se_bl (sa_cons se_str (sa_cons (se_tup (sa_cons se_str sa_nil)) (sa_cons (se_tup (sa_cons se_str sa_nil)) (sa_cons se_str (sa_cons (se_lst sa_nil) (sa_cons (se_call hA.f__law_oh_at fc.hr (fun z => by cases z) fc.tk (sa_cons (se_slot 1) (sa_cons (se_call hA.f__law_pick fc.hr (fun z => by cases z) fc.tk (sa_cons (se_slot 0) (sa_cons (se_slot 2) sa_nil))) sa_nil))) sa_nil)))))))))))))
    (sss_cons (ss_if (st_val (se_bi cs_isi G.b_isinstance bi_isinstance (sa_cons (se_slot 4) (sa_cons (se_bty G.b_int bt_int) sa_nil))))
    (sss_one (ss_set 5 fc.nd (se_lst (sa_cons (se_bin os_add (se_slot 4) se_int) (sa_cons (se_bin os_sub (se_slot 4) se_int) (sa_cons (se_ty cs_str G.b_str bt_str (sa_cons (se_slot 4) sa_nil)) (sa_cons se_non (sa_cons (se_bin os_sub se_int (se_slot 4)) (sa_cons se_bl sa_nil)))))))))
    (sss_one (ss_if (st_val (se_bi cs_isi G.b_isinstance bi_isinstance (sa_cons (se_slot 4) (sa_cons (se_bty G.b_str bt_str) sa_nil))))
    (sss_one (ss_set 5 fc.nd (se_bin os_add (se_slot 5) (se_lst (sa_cons (se_bin os_add (se_slot 4) se_str) (sa_cons (se_sl (se_slot 4) (so_some se_int) so_none) (sa_cons (se_met0 PySem.F.plainAttrs_str PySem.F.slot_str_upper PySem.F.type_str_upper ms_upper (se_slot 4)) (sa_cons se_str (sa_cons se_str (sa_cons se_str sa_nil))))))))))
    (sss_one (ss_if (st_w (sw_and (st_val (se_bi cs_isi G.b_isinstance bi_isinstance (sa_cons (se_slot 4) (sa_cons (se_bty G.b_tuple bt_tuple) sa_nil)))) (sw_and1 (st_cmp (os_ne fc.u64) (se_slot 4) (se_tup sa_nil)))))
    (sss_one (ss_set 5 fc.nd (se_bin os_add (se_slot 5) (se_bin os_mul (se_lst (sa_cons (se_sl (se_slot 4) (so_some se_int) so_none) (sa_cons (se_sl (se_slot 4) so_none (so_some (se_neg se_int))) (sa_cons (se_rev (se_slot 4)) (sa_cons (se_bin os_add (se_slot 4) (se_sl (se_slot 4) (so_some (se_neg se_int)) so_none)) (sa_cons (se_ty cs_list G.b_list bt_list (sa_cons (se_slot 4) sa_nil)) (sa_cons (se_bin os_add (se_slot 4) (se_tup (sa_cons se_non sa_nil))) sa_nil))))))) se_int))))
    sss_nil)))))
    (sss_one (ss_ret (se_call hA.f__law_oh_put fc.hr (fun z => by cases z) fc.tk (sa_cons (se_slot 1) (sa_cons (se_slot 3) (sa_cons (se_call hA.f__law_pick fc.hr (fun z => by cases z) fc.tk (sa_cons (se_slot 0) (sa_cons (se_slot 5) sa_nil))) sa_nil)))))))))))
abbrev st__law_oh_spots : Stmt := top 42
theorem sc__law_oh_spots : FnScope ["_law_thing", "_law_path", "_law_found", "_law_k"] ["_law_thing", "_law_path"] (defScope st__law_oh_spots) := C8.fnScope_by (by decide +kernel)
theorem ok__law_oh_spots (G : Gs K mg) (hA : Oks P w K mg T base (n + 2) C) (hL : Oks P w K mg T base n L) {f : Addr} {fd : FuncData} {cdv : Value} (F : FD K "_law_oh_spots" st__law_oh_spots f fd cdv) :
    FnQ false P w K mg base (n + 3) f fd ["_law_thing", "_law_path"] (spF K mg T 2 (runF 4 2 (b__law_oh_spots C L))) :=
  fn_ok (N := ["_law_thing", "_law_path", "_law_found", "_law_k"]) F sc__law_oh_spots fun A outer s H E fc => by
    exact (sss_cons (ss_set 2 fc.nd (se_lst (sa_cons (se_slot 1) sa_nil)))
    (sss_cons (ss_for fc.po fc.calm (si_rng1 G.b_range (sa_cons (se_ite (st_val (se_bi cs_isi G.b_isinstance bi_isinstance (sa_cons (se_slot 0) (sa_cons (se_bty G.b_tuple bt_tuple) sa_nil)))) (se_bi cs_len G.b_len bi_len (sa_cons (se_slot 0) sa_nil)) se_int) sa_nil)) (sg_name 3 fc.nd)
    (sss_one (ss_set 2 fc.nd (se_bin os_add (se_slot 2) (se_call hA.f__law_oh_spots fc.hr (fun z => by cases z) fc.tk (sa_cons (se_sub fc.u1 (se_slot 0) (se_slot 3)) (sa_cons (se_bin os_add (se_slot 1) (se_tup (sa_cons (se_slot 3) sa_nil))) sa_nil)))))))
    (sss_one (ss_ret (se_slot 2)))))
abbrev st__law_oh_whole : Stmt := top 43
theorem sc__law_oh_whole : FnScope ["_law_thing"] ["_law_thing"] (defScope st__law_oh_whole) := C8.fnScope_by (by decide +kernel)
theorem ok__law_oh_whole (G : Gs K mg) (hA : Oks P w K mg T base (n + 2) C) (hL : Oks P w K mg T base n L) {f : Addr} {fd : FuncData} {cdv : Value} (F : FD K "_law_oh_whole" st__law_oh_whole f fd cdv) :
    FnQ false P w K mg base (n + 3) f fd ["_law_thing"] (spF K mg T 1 (runF 1 1 (b__law_oh_whole C L))) :=
  fn_ok (N := ["_law_thing"]) F sc__law_oh_whole fun A outer s H E fc => by
    exact (sss_one (ss_ret (se_and (se_bi cs_isi G.b_isinstance bi_isinstance (sa_cons (se_slot 0) (sa_cons (se_bty G.b_int bt_int) sa_nil))) (se_one (se_not (se_bi cs_isi G.b_isinstance bi_isinstance (sa_cons (se_slot 0) (sa_cons (se_bty G.b_bool bt_bool) sa_nil))))))))
abbrev st__law_oh_is_word : Stmt := top 44
theorem sc__law_oh_is_word : FnScope ["_law_thing", "_law_sign"] ["_law_thing"] (defScope st__law_oh_is_word) := C8.fnScope_by (by decide +kernel)
theorem ok__law_oh_is_word (G : Gs K mg) (hA : Oks P w K mg T base (n + 2) C) (hL : Oks P w K mg T base n L) {f : Addr} {fd : FuncData} {cdv : Value} (F : FD K "_law_oh_is_word" st__law_oh_is_word f fd cdv) :
    FnQ false P w K mg base (n + 3) f fd ["_law_thing"] (spF K mg T 1 (runF 2 1 (b__law_oh_is_word C L))) :=
  fn_ok (N := ["_law_thing", "_law_sign"]) F sc__law_oh_is_word fun A outer s H E fc => by
    exact (sss_cons (ss_if (st_not (st_val (se_bi cs_isi G.b_isinstance bi_isinstance (sa_cons (se_slot 0) (sa_cons (se_bty G.b_str bt_str) sa_nil)))))
    (sss_one (ss_ret se_bl))
    sss_nil)
    (sss_one (ss_ret (se_cmp (os_eq fc.u64) (se_lc [("_law_sign", 1)] (t := (.nm 1)) (c := (mTst (mBin (bIn true) (mSlot 1) (mC (.str "abcdefghijklmnopqrstuvwxyz"))))) (f := (mSlot 1)) fc.calm_ fc.nd_ (si_val (se_slot 0)) (blkOk_by (N := ["_law_thing", "_law_sign"]) (sc := (defScope st__law_oh_is_word)) (by decide +kernel)) (fun _ _ _ _ _ => (tg_nm 1 fc.nd_)) (fun _ _ _ _ _ => (sts_one (st_cmp (os_notin fc.u65) (se_slot 1) se_str))) (fun _ _ _ _ _ => (se_slot 1))) (se_lst sa_nil)))))
abbrev st__law_jn_some : Stmt := top 45
theorem sc__law_jn_some : FnScope ["_law_state", "_law_letters_here", "_law_many", "_law_most", "_law_found", "_law_lap", "_law_turn"] ["_law_state", "_law_letters_here", "_law_many", "_law_most"] (defScope st__law_jn_some) := C8.fnScope_by (by decide +kernel)
theorem ok__law_jn_some (G : Gs K mg) (hA : Oks P w K mg T base (n + 2) C) (hL : Oks P w K mg T base n L) {f : Addr} {fd : FuncData} {cdv : Value} (F : FD K "_law_jn_some" st__law_jn_some f fd cdv) :
    FnQ false P w K mg base (n + 3) f fd ["_law_state", "_law_letters_here", "_law_many", "_law_most"] (spF K mg T 4 (runF 7 4 (b__law_jn_some C L))) :=
  fn_ok (N := ["_law_state", "_law_letters_here", "_law_many", "_law_most", "_law_found", "_law_lap", "_law_turn"]) F sc__law_jn_some fun A outer s H E fc => by
    exact (sss_cons (ss_set 4 fc.nd (se_lst sa_nil))
    (sss_cons (ss_for fc.po fc.calm (si_rng1 G.b_range (sa_cons (se_slot 2) sa_nil)) (sg_name 5 fc.nd)
    (sss_one (ss_exp (se_met PySem.F.plainAttrs_list PySem.F.slot_list_append PySem.F.type_list_append ms_append (se_slot 4) (sa_cons (se_met PySem.F.plainAttrs_str PySem.F.slot_str_join PySem.F.type_str_join ms_join se_str (sa_cons (se_lc [("_law_turn", 6)] (t := (.nm 6)) (c := mTrue) (f := (mCall (C 22) [] (mCons (mSlot 0) (mCons (mBi bListS (mCons (mSlot 1) mNil)) mNil)))) fc.calm_ fc.nd_ (si_rng1 G.b_range (sa_cons (se_call hA.f__law_draw fc.hr (fun z => by cases z) fc.tk (sa_cons (se_slot 0) (sa_cons (se_bin os_add (se_slot 3) se_int) sa_nil))) sa_nil)) (blkOk_by (N := ["_law_state", "_law_letters_here", "_law_many", "_law_most", "_law_found", "_law_lap", "_law_turn"]) (sc := (defScope st__law_jn_some)) (by decide +kernel)) (fun _ _ _ _ _ => (tg_nm 6 fc.nd_)) (fun _ _ _ _ _ => sts_nil) (fun _ _ _ _ _ => (se_call hA.f__law_pick fc.hr (fun z => by cases z) takes0 (sa_cons (se_slot 0) (sa_cons (se_ty (cs_listS fc.calm_) G.b_list bt_list (sa_cons (se_slot 1) sa_nil)) sa_nil))))) sa_nil)) sa_nil)))))
    (sss_one (ss_ret (se_slot 4)))))
abbrev st__law_jn_filled : Stmt := top 46
theorem sc__law_jn_filled : FnScope ["_law_pieces_here", "_law_words", "_law_piece"] ["_law_pieces_here", "_law_words"] (defScope st__law_jn_filled) := C8.fnScope_by (by decide +kernel)
theorem ok__law_jn_filled (G : Gs K mg) (hA : Oks P w K mg T base (n + 2) C) (hL : Oks P w K mg T base n L) {f : Addr} {fd : FuncData} {cdv : Value} (F : FD K "_law_jn_filled" st__law_jn_filled f fd cdv) :
    FnQ false P w K mg base (n + 3) f fd ["_law_pieces_here", "_law_words"] (spF K mg T 2 (runF 3 2 (b__law_jn_filled C L))) :=
  fn_ok (N := ["_law_pieces_here", "_law_words", "_law_piece"]) F sc__law_jn_filled fun A outer s H E fc => by
    exact (sss_one (ss_ret (se_met PySem.F.plainAttrs_str PySem.F.slot_str_join PySem.F.type_str_join ms_join se_str (sa_cons (se_lc [("_law_piece", 2)] (t := (.nm 2)) (c := mTrue) (f := (mIte (mTst (mBi bIsi (mCons (mSlot 2) (mCons (mC (.ty "str")) mNil)))) (mSlot 2) (mBin bSub' (mSlot 1) (mSlot 2)))) fc.calm_ fc.nd_ (si_val (se_slot 0)) (blkOk_by (N := ["_law_pieces_here", "_law_words", "_law_piece"]) (sc := (defScope st__law_jn_filled)) (by decide +kernel)) (fun _ _ _ _ _ => (tg_nm 2 fc.nd_)) (fun _ _ _ _ _ => sts_nil) (fun _ _ _ _ _ => (se_ite (st_val (se_bi cs_isi G.b_isinstance bi_isinstance (sa_cons (se_slot 2) (sa_cons (se_bty G.b_str bt_str) sa_nil)))) (se_slot 2) (se_sub fc.u1 (se_slot 1) (se_slot 2))))) sa_nil))))
abbrev st__law_jn_contents : Stmt := top 47
theorem sc__law_jn_contents : FnScope ["_law_boxes_here", "_law_word", "_law_letter", "_law_row", "_law_words", "_law_fills", "_law_pieces_here"] ["_law_boxes_here", "_law_word"] (defScope st__law_jn_contents) := C8.fnScope_by (by decide +kernel)
theorem ok__law_jn_contents (G : Gs K mg) (hA : Oks P w K mg T base (n + 2) C) (hL : Oks P w K mg T base n L) {f : Addr} {fd : FuncData} {cdv : Value} (F : FD K "_law_jn_contents" st__law_jn_contents f fd cdv) :
    FnQ false P w K mg base (n + 3) f fd ["_law_boxes_here", "_law_word"] (spF K mg T 2 (runF 7 2 (b__law_jn_contents C L))) :=
  fn_ok (N := ["_law_boxes_here", "_law_word", "_law_letter", "_law_row", "_law_words", "_law_fills", "_law_pieces_here"]) F sc__law_jn_contents fun A outer s H E fc => by
    exact (sss_cons (ss_asg (se_tup (sa_cons se_int (sa_cons (se_ty cs_list G.b_list bt_list (sa_cons (se_sub fc.u1 (se_slot 0) se_int) sa_nil)) sa_nil))) (sg_tup fc.calm (sgs_cons (sg_name 3 fc.nd) (sgs_cons (sg_name 4 fc.nd) sgs_nil))))
    (sss_cons (ss_for fc.po fc.calm (si_val (se_slot 1)) (sg_name 2 fc.nd)
    (sss_cons (ss_asg (se_sub fc.u1 (se_sub fc.u1 (se_sub fc.u1 (se_sub fc.u1 (se_slot 0) se_int) (se_slot 3)) se_int) (se_met PySem.F.plainAttrs_str PySem.F.slot_str_index PySem.F.type_str_index ms_indexS (se_sub fc.u1 (se_slot 0) se_int) (sa_cons (se_slot 2) sa_nil))) (sg_tup fc.calm (sgs_cons (sg_name 3 fc.nd) (sgs_cons (sg_name 5 fc.nd) sgs_nil))))
    (sss_one (ss_set 4 fc.nd (se_lc [("_law_pieces_here", 6)] (t := (.nm 6)) (c := mTrue) (f := (mCall (C 33) [] (mCons (mSlot 6) (mCons (mSlot 4) mNil)))) fc.calm_ fc.nd_ (si_val (se_slot 5)) (blkOk_by (N := ["_law_boxes_here", "_law_word", "_law_letter", "_law_row", "_law_words", "_law_fills", "_law_pieces_here"]) (sc := (defScope st__law_jn_contents)) (by decide +kernel)) (fun _ _ _ _ _ => (tg_nm 6 fc.nd_)) (fun _ _ _ _ _ => sts_nil) (fun _ _ _ _ _ => (se_call hA.f__law_jn_filled fc.hr (fun z => by cases z) takes0 (sa_cons (se_slot 6) (sa_cons (se_slot 4) sa_nil)))))))))
    (sss_one (ss_ret (se_tup (sa_cons (se_slot 3) (sa_cons (se_slot 4) sa_nil)))))))
abbrev st__law_jn_written : Stmt := top 48
theorem sc__law_jn_written : FnScope ["_law_boxes_here", "_law_word", "_law_row", "_law_words"] ["_law_boxes_here", "_law_word"] (defScope st__law_jn_written) := C8.fnScope_by (by decide +kernel)
theorem ok__law_jn_written (G : Gs K mg) (hA : Oks P w K mg T base (n + 2) C) (hL : Oks P w K mg T base n L) {f : Addr} {fd : FuncData} {cdv : Value} (F : FD K "_law_jn_written" st__law_jn_written f fd cdv) :
    FnQ false P w K mg base (n + 3) f fd ["_law_boxes_here", "_law_word"] (spF K mg T 2 (runF 4 2 (b__law_jn_written C L))) :=
  fn_ok (N := ["_law_boxes_here", "_law_word", "_law_row", "_law_words"]) F sc__law_jn_written fun A outer s H E fc => by
    exact (sss_cons (ss_asg (se_call hA.f__law_jn_contents fc.hr (fun z => by cases z) fc.tk (sa_cons (se_slot 0) (sa_cons (se_slot 1) sa_nil))) (sg_tup fc.calm (sgs_cons (sg_name 2 fc.nd) (sgs_cons (sg_name 3 fc.nd) sgs_nil))))
    (sss_one (ss_ret (se_call hA.f__law_jn_filled fc.hr (fun z => by cases z) fc.tk (sa_cons (se_sub fc.u1 (se_sub fc.u1 (se_sub fc.u1 (se_slot 0) se_int) (se_slot 2)) se_int) (sa_cons (se_slot 3) sa_nil))))))
abbrev st__law_pieces : Stmt := top 49
theorem sc__law_pieces : FnScope ["_law_state", "_law_free", "_law_many", "_law_found", "_law_lap"] ["_law_state", "_law_free", "_law_many"] (defScope st__law_pieces) := C8.fnScope_by (by decide +kernel)
theorem ok__law_pieces (G : Gs K mg) (hA : Oks P w K mg T base (n + 2) C) (hL : Oks P w K mg T base n L) {f : Addr} {fd : FuncData} {cdv : Value} (F : FD K "_law_pieces" st__law_pieces f fd cdv) :
    FnQ false P w K mg base (n + 3) f fd ["_law_state", "_law_free", "_law_many"] (spF K mg T 3 (runF 5 3 (b__law_pieces C L))) :=
  fn_ok (N := ["_law_state", "_law_free", "_law_many", "_law_found", "_law_lap"]) F sc__law_pieces fun A outer s H E fc => by
    exact (sss_cons (ss_set 3 fc.nd (se_lst sa_nil))
    (sss_cons (ss_for fc.po fc.calm (si_rng1 G.b_range (sa_cons (se_slot 2) sa_nil)) (sg_name 4 fc.nd)
    (sss_one (ss_if (st_w (sw_and (st_cmp (os_ne fc.u64) (se_slot 1) (se_lst sa_nil)) (sw_and1 (st_cmp (os_eq fc.u64) (se_call hA.f__law_draw fc.hr (fun z => by cases z) fc.tk (sa_cons (se_slot 0) (sa_cons se_int sa_nil))) se_int))))
    (sss_one (ss_exp (se_met PySem.F.plainAttrs_list PySem.F.slot_list_append PySem.F.type_list_append ms_append (se_slot 3) (sa_cons (se_met PySem.F.plainAttrs_list PySem.F.slot_list_pop PySem.F.type_list_pop ms_popAt (se_slot 1) (sa_cons (se_call hA.f__law_draw fc.hr (fun z => by cases z) fc.tk (sa_cons (se_slot 0) (sa_cons (se_bi cs_len G.b_len bi_len (sa_cons (se_slot 1) sa_nil)) sa_nil))) sa_nil)) sa_nil))))
    (sss_one (ss_exp (se_met PySem.F.plainAttrs_list PySem.F.slot_list_append PySem.F.type_list_append ms_append (se_slot 3) (sa_cons (se_call hA.f__law_pick fc.hr (fun z => by cases z) fc.tk (sa_cons (se_slot 0) (sa_cons (se_lst (sa_cons se_str (sa_cons se_str (sa_cons se_str (sa_cons se_str sa_nil))))) sa_nil))) sa_nil)))))))
    (sss_one (ss_ret (se_ty cs_tuple G.b_tuple bt_tuple (sa_cons (se_slot 3) sa_nil))))))
abbrev st__law_made : Stmt := top 50
theorem sc__law_made : FnScope ["_law_state", "_law_some", "_law_sizes", "_law_rows", "_law_many", "_law_words", "_law_moves", "_law_letter", "_law_lap", "_law_fills", "_law_box", "_law_goal", "_law_free"] ["_law_state"] (defScope st__law_made) := C8.fnScope_by (by decide +kernel)
theorem ok__law_made (G : Gs K mg) (hA : Oks P w K mg T base (n + 2) C) (hL : Oks P w K mg T base n L) {f : Addr} {fd : FuncData} {cdv : Value} (F : FD K "_law_made" st__law_made f fd cdv) :
    FnQ false P w K mg base (n + 3) f fd ["_law_state"] (spF K mg T 1 (runF 13 1 (b__law_made C L))) :=
  fn_ok (N := ["_law_state", "_law_some", "_law_sizes", "_law_rows", "_law_many", "_law_words", "_law_moves", "_law_letter", "_law_lap", "_law_fills", "_law_box", "_law_goal", "_law_free"]) F sc__law_made fun A outer s H E fc => by
    exact (sss_cons (ss_set 1 fc.nd (se_call hA.f__law_pick fc.hr (fun z => by cases z) fc.tk (sa_cons (se_slot 0) (sa_cons (se_lst (sa_cons se_str (sa_cons se_str (sa_cons se_str sa_nil)))) sa_nil))))
    (sss_cons (ss_setLc 2 [("_law_lap", 8)] (t := (.nm 8)) (c := mTrue) (f := (mCall (C 21) [] (mCons (mSlot 0) (mCons (mC (.int 5)) mNil)))) fc.calm_ fc.nd_ (L2.sw_true rfl rfl rfl (by decide +kernel)) (si_rng1 G.b_range (sa_cons (se_bin os_add se_int (se_call hA.f__law_draw fc.hr (fun z => by cases z) fc.tk (sa_cons (se_slot 0) (sa_cons se_int sa_nil)))) sa_nil)) (blkOk_by (N := ["_law_state", "_law_some", "_law_sizes", "_law_rows", "_law_many", "_law_words", "_law_moves", "_law_letter", "_law_lap", "_law_fills", "_law_box", "_law_goal", "_law_free"]) (sc := (defScope st__law_made)) (by decide +kernel)) (fun _ _ _ _ _ => (tg_nm 8 fc.nd_)) (fun _ _ _ _ _ => sts_nil) (fun _ _ _ _ _ => (se_call hA.f__law_draw fc.hr (fun z => by cases z) takes0 (sa_cons (se_slot 0) (sa_cons se_int sa_nil)))))
    (sss_cons (ss_set 3 fc.nd (se_lst sa_nil))
    (sss_cons (ss_for fc.po fc.calm (si_val (se_slot 2)) (sg_name 4 fc.nd)
    (sss_cons (ss_set 6 fc.nd (se_lst sa_nil))
    (sss_cons (ss_for fc.po fc.calm (si_val (se_slot 1)) (sg_name 7 fc.nd)
    (sss_cons (ss_asg (se_tup (sa_cons (se_call hA.f__law_draw fc.hr (fun z => by cases z) fc.tk (sa_cons (se_slot 0) (sa_cons (se_bi cs_len G.b_len bi_len (sa_cons (se_slot 2) sa_nil)) sa_nil))) (sa_cons (se_listR fc.calm G.b_list G.b_range (se_slot 4)) sa_nil))) (sg_tup fc.calm (sgs_cons (sg_name 11 fc.nd) (sgs_cons (sg_name 12 fc.nd) sgs_nil))))
    (sss_cons (ss_setLc 9 [("_law_box", 10)] (t := (.nm 10)) (c := mTrue) (f := (mCall (C 36) [] (mCons (mSlot 0) (mCons (mSlot 12) (mCons (mCall (C 21) [] (mCons (mSlot 0) (mCons (mC (.int 4)) mNil))) mNil))))) fc.calm_ fc.nd_ (L2.sw_true rfl rfl rfl (by decide +kernel)) (si_rng1 G.b_range (sa_cons (se_sub fc.u1 (se_slot 2) (se_slot 11)) sa_nil)) (blkOk_by (N := ["_law_state", "_law_some", "_law_sizes", "_law_rows", "_law_many", "_law_words", "_law_moves", "_law_letter", "_law_lap", "_law_fills", "_law_box", "_law_goal", "_law_free"]) (sc := (defScope st__law_made)) (by decide +kernel)) (fun _ _ _ _ _ => (tg_nm 10 fc.nd_)) (fun _ _ _ _ _ => sts_nil) (fun _ _ _ _ _ => (se_call hA.f__law_pieces fc.hr (fun z => by cases z) takes0 (sa_cons (se_slot 0) (sa_cons (se_slot 12) (sa_cons (se_call hA.f__law_draw fc.hr (fun z => by cases z) takes0 (sa_cons (se_slot 0) (sa_cons se_int sa_nil))) sa_nil))))))
    (sss_one (ss_exp (se_met PySem.F.plainAttrs_list PySem.F.slot_list_append PySem.F.type_list_append ms_append (se_slot 6) (sa_cons (se_tup (sa_cons (se_slot 11) (sa_cons (se_ty cs_tuple G.b_tuple bt_tuple (sa_cons (se_slot 9) sa_nil)) sa_nil))) sa_nil)))))))
    (sss_one (ss_exp (se_met PySem.F.plainAttrs_list PySem.F.slot_list_append PySem.F.type_list_append ms_append (se_slot 3) (sa_cons (se_tup (sa_cons (se_slot 4) (sa_cons (se_ty cs_tuple G.b_tuple bt_tuple (sa_cons (se_slot 6) sa_nil)) (sa_cons (se_call hA.f__law_pieces fc.hr (fun z => by cases z) fc.tk (sa_cons (se_slot 0) (sa_cons (se_listR fc.calm G.b_list G.b_range (se_slot 4)) (sa_cons (se_call hA.f__law_draw fc.hr (fun z => by cases z) fc.tk (sa_cons (se_slot 0) (sa_cons se_int sa_nil))) sa_nil)))) sa_nil)))) sa_nil)))))))
    (sss_cons (ss_setLc 5 [("_law_box", 10)] (t := (.nm 10)) (c := mTrue) (f := (mCall (C 22) [] (mCons (mSlot 0) (mCons (mLst (mCons (mC (.str "")) (mCons (mC (.str "a")) (mCons (mC (.str "bc")) (mCons (mC (.str "zz")) mNil))))) mNil)))) fc.calm_ fc.nd_ (L2.sw_true rfl rfl rfl (by decide +kernel)) (si_rng1 G.b_range (sa_cons (se_sub fc.u1 (se_slot 2) se_int) sa_nil)) (blkOk_by (N := ["_law_state", "_law_some", "_law_sizes", "_law_rows", "_law_many", "_law_words", "_law_moves", "_law_letter", "_law_lap", "_law_fills", "_law_box", "_law_goal", "_law_free"]) (sc := (defScope st__law_made)) (by decide +kernel)) (fun _ _ _ _ _ => (tg_nm 10 fc.nd_)) (fun _ _ _ _ _ => sts_nil) (fun _ _ _ _ _ => (se_call hA.f__law_pick fc.hr (fun z => by cases z) takes0 (sa_cons (se_slot 0) (sa_cons (se_lst (sa_cons se_str (sa_cons se_str (sa_cons se_str (sa_cons se_str sa_nil))))) sa_nil)))))
    (sss_one (ss_ret (se_tup (sa_cons se_str (sa_cons (se_slot 1) (sa_cons (se_ty cs_tuple G.b_tuple bt_tuple (sa_cons (se_slot 5) sa_nil)) (sa_cons (se_ty cs_tuple G.b_tuple bt_tuple (sa_cons (se_slot 3) sa_nil)) sa_nil))))))))))))
abbrev st__law_are_fills : Stmt := top 51
theorem sc__law_are_fills : FnScope ["_law_thing", "_law_many", "_law_size", "_law_used", "_law_pieces_here", "_law_piece"] ["_law_thing", "_law_many", "_law_size"] (defScope st__law_are_fills) := C8.fnScope_by (by decide +kernel)
theorem ok__law_are_fills (G : Gs K mg) (hA : Oks P w K mg T base (n + 2) C) (hL : Oks P w K mg T base n L) {f : Addr} {fd : FuncData} {cdv : Value} (F : FD K "_law_are_fills" st__law_are_fills f fd cdv) :
    FnQ false P w K mg base (n + 3) f fd ["_law_thing", "_law_many", "_law_size"] (spF K mg T 3 (runF 6 3 (b__law_are_fills C L))) :=
  fn_ok (N := ["_law_thing", "_law_many", "_law_size", "_law_used", "_law_pieces_here", "_law_piece"]) F sc__law_are_fills fun A outer s H E fc => by
    exact (sss_cons (ss_if (st_w (sw_or (st_not (st_val (se_bi cs_isi G.b_isinstance bi_isinstance (sa_cons (se_slot 0) (sa_cons (se_bty G.b_tuple bt_tuple) sa_nil))))) (sw_or1 (st_cmp (os_ne fc.u64) (se_bi cs_len G.b_len bi_len (sa_cons (se_slot 0) sa_nil)) (se_slot 2)))))
    (sss_one (ss_ret se_bl))
    sss_nil)
    (sss_cons (ss_set 3 fc.nd (se_lst sa_nil))
    (sss_cons (ss_for fc.po fc.calm (si_val (se_slot 0)) (sg_name 4 fc.nd)
    (sss_cons (ss_if (st_not (st_val (se_bi cs_isi G.b_isinstance bi_isinstance (sa_cons (se_slot 4) (sa_cons (se_bty G.b_tuple bt_tuple) sa_nil)))))
    (sss_one (ss_ret se_bl))
    sss_nil)
    (sss_one (ss_for fc.po fc.calm (si_val (se_slot 4)) (sg_name 5 fc.nd)
    (sss_one (ss_if (st_val (se_call hA.f__law_oh_whole fc.hr (fun z => by cases z) fc.tk (sa_cons (se_slot 5) sa_nil)))
    (sss_cons (ss_if (st_w (sw_or (st_not (st_chain os_le os_lt se_int (se_slot 5) (se_slot 1))) (sw_or1 (st_cmp (os_in fc.u65) (se_slot 5) (se_slot 3)))))
    (sss_one (ss_ret se_bl))
    sss_nil)
    (sss_one (ss_exp (se_met PySem.F.plainAttrs_list PySem.F.slot_list_append PySem.F.type_list_append ms_append (se_slot 3) (sa_cons (se_slot 5) sa_nil)))))
    (sss_one (ss_if (st_w (sw_or (st_not (st_val (se_call hA.f__law_oh_is_word fc.hr (fun z => by cases z) fc.tk (sa_cons (se_slot 5) sa_nil)))) (sw_or1 (st_cmp (os_ne fc.u64) (se_bi cs_len G.b_len bi_len (sa_cons (se_slot 5) sa_nil)) se_int))))
    (sss_one (ss_ret se_bl))
    sss_nil))))))))
    (sss_one (ss_ret se_bl)))))
abbrev st__law_is_head : Stmt := top 52
theorem sc__law_is_head : FnScope ["_law_thing", "_law_word"] ["_law_thing"] (defScope st__law_is_head) := C8.fnScope_by (by decide +kernel)
theorem ok__law_is_head (G : Gs K mg) (hA : Oks P w K mg T base (n + 2) C) (hL : Oks P w K mg T base n L) {f : Addr} {fd : FuncData} {cdv : Value} (F : FD K "_law_is_head" st__law_is_head f fd cdv) :
    FnQ false P w K mg base (n + 3) f fd ["_law_thing"] (spF K mg T 1 (runF 2 1 (b__law_is_head C L))) :=
  fn_ok (N := ["_law_thing", "_law_word"]) F sc__law_is_head fun A outer s H E fc => by
    exact (sss_cons (ss_if (st_w (sw_or (st_not (st_val (se_bi cs_isi G.b_isinstance bi_isinstance (sa_cons (se_slot 0) (sa_cons (se_bty G.b_tuple bt_tuple) sa_nil))))) (sw_or (st_cmp (os_ne fc.u64) (se_bi cs_len G.b_len bi_len (sa_cons (se_slot 0) sa_nil)) se_int) (sw_or (st_not (st_val (se_bi cs_isi G.b_isinstance bi_isinstance (sa_cons (se_sub fc.u1 (se_slot 0) se_int) (sa_cons (se_bty G.b_str bt_str) sa_nil))))) (sw_or1 (st_cmp (os_ne fc.u64) (se_sub fc.u1 (se_slot 0) se_int) se_str))))))
    (sss_one (ss_ret se_bl))
    sss_nil)
    (sss_cons (ss_if (st_w (sw_or (st_not (st_val (se_call hA.f__law_oh_is_word fc.hr (fun z => by cases z) fc.tk (sa_cons (se_sub fc.u1 (se_slot 0) se_int) sa_nil)))) (sw_or (st_not (st_chain os_le os_le se_int (se_bi cs_len G.b_len bi_len (sa_cons (se_sub fc.u1 (se_slot 0) se_int) sa_nil)) se_int)) (sw_or1 (st_cmp (os_ne fc.u64) (se_met PySem.F.plainAttrs_str PySem.F.slot_str_join PySem.F.type_str_join ms_join se_str (sa_cons (se_sortSet fc.calm G.b_sorted G.b_set (se_sub fc.u1 (se_slot 0) se_int)) sa_nil)) (se_sub fc.u1 (se_slot 0) se_int))))))
    (sss_one (ss_ret se_bl))
    sss_nil)
    (sss_cons (ss_if (st_w (sw_or (st_not (st_val (se_bi cs_isi G.b_isinstance bi_isinstance (sa_cons (se_sub fc.u1 (se_slot 0) se_int) (sa_cons (se_bty G.b_tuple bt_tuple) sa_nil))))) (sw_or1 (st_cmp (os_ne fc.u64) (se_lc [("_law_word", 1)] (t := (.nm 1)) (c := (mNot (mTst (mCall (C 31) [] (mCons (mSlot 1) mNil))))) (f := (mC (.int 1))) fc.calm_ fc.nd_ (si_val (se_sub fc.u1 (se_slot 0) se_int)) (blkOk_by (N := ["_law_thing", "_law_word"]) (sc := (defScope st__law_is_head)) (by decide +kernel)) (fun _ _ _ _ _ => (tg_nm 1 fc.nd_)) (fun _ _ _ _ _ => (sts_one (st_not (st_val (se_call hA.f__law_oh_is_word fc.hr (fun z => by cases z) takes0 (sa_cons (se_slot 1) sa_nil)))))) (fun _ _ _ _ _ => se_int)) (se_lst sa_nil)))))
    (sss_one (ss_ret se_bl))
    sss_nil)
    (sss_one (ss_ret (se_and (se_bi cs_isi G.b_isinstance bi_isinstance (sa_cons (se_sub fc.u1 (se_slot 0) se_int) (sa_cons (se_bty G.b_tuple bt_tuple) sa_nil))) (se_one (se_chain os_le os_le se_int (se_bi cs_len G.b_len bi_len (sa_cons (se_sub fc.u1 (se_slot 0) se_int) sa_nil)) se_int))))))))
abbrev st__law_judged : Stmt := top 53
theorem sc__law_judged : FnScope ["_law_thing", "_law_sizes", "_law_row", "_law_many", "_law_moves", "_law_out", "_law_move"] ["_law_thing"] (defScope st__law_judged) := C8.fnScope_by (by decide +kernel)
theorem ok__law_judged (G : Gs K mg) (hA : Oks P w K mg T base (n + 2) C) (hL : Oks P w K mg T base n L) {f : Addr} {fd : FuncData} {cdv : Value} (F : FD K "_law_judged" st__law_judged f fd cdv) :
    FnQ false P w K mg base (n + 3) f fd ["_law_thing"] (spF K mg T 1 (runF 7 1 (b__law_judged C L))) :=
  fn_ok (N := ["_law_thing", "_law_sizes", "_law_row", "_law_many", "_law_moves", "_law_out", "_law_move"]) F sc__law_judged fun A outer s H E fc => by
    exact (sss_cons (ss_if (st_not (st_val (se_call hA.f__law_is_head fc.hr (fun z => by cases z) fc.tk (sa_cons (se_slot 0) sa_nil))))
    (sss_one (ss_ret se_bl))
    sss_nil)
    (sss_cons (ss_set 1 fc.nd (se_lst sa_nil))
    (sss_cons (ss_for fc.po fc.calm (si_val (se_sub fc.u1 (se_slot 0) se_int)) (sg_name 2 fc.nd)
    (sss_cons (ss_if (st_w (sw_or (st_not (st_val (se_bi cs_isi G.b_isinstance bi_isinstance (sa_cons (se_slot 2) (sa_cons (se_bty G.b_tuple bt_tuple) sa_nil))))) (sw_or (st_cmp (os_ne fc.u64) (se_bi cs_len G.b_len bi_len (sa_cons (se_slot 2) sa_nil)) se_int) (sw_or (st_not (st_val (se_call hA.f__law_oh_whole fc.hr (fun z => by cases z) fc.tk (sa_cons (se_sub fc.u1 (se_slot 2) se_int) sa_nil)))) (sw_or1 (st_not (st_chain os_le os_le se_int (se_sub fc.u1 (se_slot 2) se_int) se_int)))))))
    (sss_one (ss_ret se_bl))
    sss_nil)
    (sss_cons (ss_if (st_w (sw_or (st_not (st_val (se_bi cs_isi G.b_isinstance bi_isinstance (sa_cons (se_sub fc.u1 (se_slot 2) se_int) (sa_cons (se_bty G.b_tuple bt_tuple) sa_nil))))) (sw_or1 (st_cmp (os_ne fc.u64) (se_bi cs_len G.b_len bi_len (sa_cons (se_sub fc.u1 (se_slot 2) se_int) sa_nil)) (se_bi cs_len G.b_len bi_len (sa_cons (se_sub fc.u1 (se_slot 0) se_int) sa_nil))))))
    (sss_one (ss_ret se_bl))
    sss_nil)
    (sss_one (ss_exp (se_met PySem.F.plainAttrs_list PySem.F.slot_list_append PySem.F.type_list_append ms_append (se_slot 1) (sa_cons (se_sub fc.u1 (se_slot 2) se_int) sa_nil)))))))
    (sss_cons (ss_if (st_cmp (os_ne fc.u64) (se_sub fc.u1 (se_slot 1) se_int) (se_bi cs_len G.b_len bi_len (sa_cons (se_sub fc.u1 (se_slot 0) se_int) sa_nil)))
    (sss_one (ss_ret se_bl))
    sss_nil)
    (sss_cons (ss_for fc.po fc.calm (si_val (se_sub fc.u1 (se_slot 0) se_int)) (sg_tup fc.calm (sgs_cons (sg_name 3 fc.nd) (sgs_cons (sg_name 4 fc.nd) (sgs_cons (sg_name 5 fc.nd) sgs_nil))))
    (sss_cons (ss_if (st_not (st_val (se_call hA.f__law_are_fills fc.hr (fun z => by cases z) fc.tk (sa_cons (se_tup (sa_cons (se_slot 5) sa_nil)) (sa_cons (se_slot 3) (sa_cons se_int sa_nil))))))
    (sss_one (ss_ret se_bl))
    sss_nil)
    (sss_one (ss_for fc.po fc.calm (si_val (se_slot 4)) (sg_name 6 fc.nd)
    (sss_cons (ss_if (st_w (sw_or (st_not (st_val (se_bi cs_isi G.b_isinstance bi_isinstance (sa_cons (se_slot 6) (sa_cons (se_bty G.b_tuple bt_tuple) sa_nil))))) (sw_or (st_cmp (os_ne fc.u64) (se_bi cs_len G.b_len bi_len (sa_cons (se_slot 6) sa_nil)) se_int) (sw_or1 (st_not (st_val (se_call hA.f__law_oh_whole fc.hr (fun z => by cases z) fc.tk (sa_cons (se_sub fc.u1 (se_slot 6) se_int) sa_nil))))))))
    (sss_one (ss_ret se_bl))
    sss_nil)
    (sss_one (ss_if (st_w (sw_or (st_not (st_chain os_le os_lt se_int (se_sub fc.u1 (se_slot 6) se_int) (se_bi cs_len G.b_len bi_len (sa_cons (se_slot 1) sa_nil)))) (sw_or1 (st_not (st_val (se_call hA.f__law_are_fills fc.hr (fun z => by cases z) fc.tk (sa_cons (se_sub fc.u1 (se_slot 6) se_int) (sa_cons (se_slot 3) (sa_cons (se_sub fc.u1 (se_slot 1) (se_sub fc.u1 (se_slot 6) se_int)) sa_nil)))))))))
    (sss_one (ss_ret se_bl))
    sss_nil)))))))
    (sss_one (ss_ret se_bl)))))))
abbrev st__law_doubled : Stmt := top 54
theorem sc__law_doubled : FnScope ["_law_state", "_law_boxes_here", "_law_row", "_law_rows", "_law_at"] ["_law_state", "_law_boxes_here"] (defScope st__law_doubled) := C8.fnScope_by (by decide +kernel)
theorem ok__law_doubled (G : Gs K mg) (hA : Oks P w K mg T base (n + 2) C) (hL : Oks P w K mg T base n L) {f : Addr} {fd : FuncData} {cdv : Value} (F : FD K "_law_doubled" st__law_doubled f fd cdv) :
    FnQ false P w K mg base (n + 3) f fd ["_law_state", "_law_boxes_here"] (spF K mg T 2 (runF 5 2 (b__law_doubled C L))) :=
  fn_ok (N := ["_law_state", "_law_boxes_here", "_law_row", "_law_rows", "_law_at"]) F sc__law_doubled fun A outer s H E fc => by
    exact (sss_cons (ss_par 3 4 fc.calm fc.nd (sa_cons (se_sub fc.u1 (se_slot 1) se_int) (sa_cons (se_call hA.f__law_draw fc.hr (fun z => by cases z) fc.tk (sa_cons (se_slot 0) (sa_cons (se_bi cs_len G.b_len bi_len (sa_cons (se_sub fc.u1 (se_slot 1) se_int) sa_nil)) sa_nil))) sa_nil)) (by rfl))
    (sss_cons (ss_if (st_cmp (os_eq fc.u64) (se_sub fc.u1 (se_sub fc.u1 (se_slot 3) (se_slot 4)) se_int) se_int)
    (sss_one (ss_ret (se_slot 1)))
    sss_nil)
    (sss_cons (ss_set 2 fc.nd (se_bin os_add (se_sl (se_sub fc.u1 (se_slot 3) (se_slot 4)) so_none (so_some se_int)) (se_tup (sa_cons (se_tup (sa_cons se_int (sa_cons se_str (sa_cons se_int sa_nil)))) sa_nil))))
    (sss_one (ss_ret (se_bin os_add (se_sl (se_slot 1) so_none (so_some se_int)) (se_tup (sa_cons (se_bin os_add (se_bin os_add (se_sl (se_slot 3) so_none (so_some (se_slot 4))) (se_tup (sa_cons (se_slot 2) sa_nil))) (se_sl (se_slot 3) (so_some (se_bin os_add (se_slot 4) se_int)) so_none)) sa_nil))))))))
abbrev st__law_edges_right : Stmt := top 55
theorem sc__law_edges_right : FnScope ["_law_state", "_law_wide", "_law_high", "_law_many", "_law_rows"] ["_law_state"] (defScope st__law_edges_right) := C8.fnScope_by (by decide +kernel)
theorem ok__law_edges_right (G : Gs K mg) (hA : Oks P w K mg T base (n + 2) C) (hL : Oks P w K mg T base n L) {f : Addr} {fd : FuncData} {cdv : Value} (F : FD K "_law_edges_right" st__law_edges_right f fd cdv) :
    FnQ false P w K mg base (n + 3) f fd ["_law_state"] (spF K mg T 1 (runF 5 1 (b__law_edges_right C L))) :=
  fn_ok (N := ["_law_state", "_law_wide", "_law_high", "_law_many", "_law_rows"]) F sc__law_edges_right fun A outer s H E fc => by
    exact (sss_cons (ss_par 3 4 fc.calm fc.nd (sa_cons (se_call hA.f__law_pick fc.hr (fun z => by cases z) fc.tk (sa_cons (se_slot 0) (sa_cons (se_lst (sa_cons se_int (sa_cons se_int (sa_cons se_int sa_nil)))) sa_nil))) (sa_cons (se_call hA.f__law_pick fc.hr (fun z => by cases z) fc.tk (sa_cons (se_slot 0) (sa_cons (se_lst (sa_cons se_int (sa_cons se_int (sa_cons se_int sa_nil)))) sa_nil))) sa_nil)) (by rfl))
    (sss_cons (ss_set 1 fc.nd (se_tup (sa_cons se_str (sa_cons se_str (sa_cons (se_bin os_mulT (se_tup (sa_cons se_str sa_nil)) (se_slot 3)) (sa_cons (se_tup (sa_cons (se_tup (sa_cons (se_slot 3) (sa_cons (se_tup (sa_cons (se_tup (sa_cons se_int (sa_cons (se_bin os_mulT (se_tup (sa_cons (se_tup sa_nil) sa_nil)) (se_slot 3)) sa_nil))) sa_nil)) (sa_cons (se_tup sa_nil) sa_nil)))) sa_nil)) sa_nil))))))
    (sss_cons (ss_set 2 fc.nd (se_tup (sa_cons se_str (sa_cons se_str (sa_cons (se_tup sa_nil) (sa_cons (se_bin os_mulT (se_tup (sa_cons (se_tup (sa_cons se_int (sa_cons (se_tup (sa_cons (se_tup (sa_cons se_int (sa_cons (se_tup sa_nil) sa_nil))) sa_nil)) (sa_cons (se_tup sa_nil) sa_nil)))) sa_nil)) (se_slot 4)) sa_nil))))))
    (sss_one (ss_ret (se_and (se_call hA.f__law_is_truth fc.hr (fun z => by cases z) fc.tk (sa_cons (se_call hA.f_is_boxes fc.hr (fun z => by cases z) fc.tk (sa_cons (se_slot 1) sa_nil)) (sa_cons (se_cmp os_le (se_slot 3) se_int) sa_nil))) (se_one (se_call hA.f__law_is_truth fc.hr (fun z => by cases z) fc.tk (sa_cons (se_call hA.f_is_boxes fc.hr (fun z => by cases z) fc.tk (sa_cons (se_slot 2) sa_nil)) (sa_cons (se_cmp os_le (se_slot 4) se_int) sa_nil))))))))))
abbrev st_law : Stmt := top 56
theorem sc_law : FnScope ["_law_script", "_law_state", "_law_turn", "_law_made_here", "_law_thing", "_law_word", "_law_bad", "_law_odd", "_law_task", "_law_due", "_law_found", "_law_lap"] ["_law_script"] (defScope st_law) := C8.fnScope_by (by decide +kernel)
theorem ok_law (G : Gs K mg) (hA : Oks P w K mg T base (n + 2) C) (hL : Oks P w K mg T base n L) {f : Addr} {fd : FuncData} {cdv : Value} (F : FD K "law" st_law f fd cdv) (mk : MkOf base mg T "law" cdv) :
    FnQ true P w K mg base (n + 3) f fd ["_law_script"] (spF K mg T 1 (runF 12 1 (b_law C L))) :=
  fn_ok (N := ["_law_script", "_law_state", "_law_turn", "_law_made_here", "_law_thing", "_law_word", "_law_bad", "_law_odd", "_law_task", "_law_due", "_law_found", "_law_lap"]) F sc_law fun A outer s H E fc => by
    have mk := mk.of A outer s H E (P := P) (w := w) (K := K) (N := ["_law_script", "_law_state", "_law_turn", "_law_made_here", "_law_thing", "_law_word", "_law_bad", "_law_odd", "_law_task", "_law_due", "_law_found", "_law_lap"]) (st := st_law) (f := f)
    exact (sss_cons (ss_set 1 fc.nd (se_call hA.f__law_begun fc.hr (fun z => by cases z) fc.tk (sa_cons (se_slot 0) sa_nil)))
    (sss_cons (ss_for fc.po fc.calm (si_rng1 G.b_range (sa_cons (se_bin os_add se_int (se_bi (cs_min2 fc.calm_) G.b_min bi_min (sa_cons (se_bi cs_len G.b_len bi_len (sa_cons (se_slot 0) sa_nil)) (sa_cons se_int sa_nil)))) sa_nil)) (sg_name 2 fc.nd)
    (sss_cons (ss_set 3 fc.nd (se_call hA.f__law_made fc.hr (fun z => by cases z) fc.tk (sa_cons (se_slot 1) sa_nil)))
    (sss_cons (ss_for fc.po fc.calm (si_val (se_bin os_add (se_lst (sa_cons (se_slot 3) (sa_cons (se_call hA.f__law_doubled fc.hr (fun z => by cases z) fc.tk (sa_cons (se_slot 1) (sa_cons (se_slot 3) sa_nil))) sa_nil))) (se_lc [("_law_lap", 11)] (t := (.nm 11)) (c := mTrue) (f := (mCall (C 28) [] (mCons (mSlot 1) (mCons (mSlot 3) mNil)))) fc.calm_ fc.nd_ (si_rng1 G.b_range (sa_cons se_int sa_nil)) (blkOk_by (N := ["_law_script", "_law_state", "_law_turn", "_law_made_here", "_law_thing", "_law_word", "_law_bad", "_law_odd", "_law_task", "_law_due", "_law_found", "_law_lap"]) (sc := (defScope st_law)) (by decide +kernel)) (fun _ _ _ _ _ => (tg_nm 11 fc.nd_)) (fun _ _ _ _ _ => sts_nil) (fun _ _ _ _ _ => (se_call hA.f__law_oh_bent fc.hr (fun z => by cases z) takes0 (sa_cons (se_slot 1) (sa_cons (se_slot 3) sa_nil))))))) (sg_name 4 fc.nd)
    (sss_one (ss_if (st_not (st_val (se_call hA.f__law_is_truth fc.hr (fun z => by cases z) fc.tk (sa_cons (se_callK hA.k_is_boxes_value fc.hr (fun z => by cases z) fc.tk (sk_cons (se_slot 4) sk_nil)) (sa_cons (se_call hA.f__law_judged fc.hr (fun z => by cases z) fc.tk (sa_cons (se_slot 4) sa_nil)) sa_nil)))))
    (sss_one (ss_ret se_bl))
    sss_nil)))
    (sss_cons (ss_for fc.po fc.calm (si_val (se_call hA.f__law_jn_some fc.hr (fun z => by cases z) fc.tk (sa_cons (se_slot 1) (sa_cons (se_sub fc.u1 (se_slot 3) se_int) (sa_cons se_int (sa_cons se_int sa_nil)))))) (sg_name 5 fc.nd)
    (sss_cons (ss_set 9 fc.nd (se_call hA.f__law_jn_contents fc.hr (fun z => by cases z) fc.tk (sa_cons (se_slot 3) (sa_cons (se_slot 5) sa_nil))))
    (sss_cons (ss_set 10 fc.nd (se_callKP hA.p_box_contents_1_text fc.hr (fun z => by cases z) fc.tk (sa_cons (se_slot 3) sa_nil) (sk_cons (se_slot 5) sk_nil)))
    (sss_cons (ss_if (st_w (sw_or (st_not (st_val (se_call hA.f__law_oh_same fc.hr fc.gd fc.tk (sa_cons (se_slot 10) (sa_cons (se_slot 9) sa_nil))))) (sw_or1 (st_not (st_val (se_call hA.f__law_oh_same fc.hr fc.gd fc.tk (sa_cons (se_call hA.f_box_text fc.hr (fun z => by cases z) fc.tk (sa_cons (se_slot 3) (sa_cons (se_slot 5) sa_nil))) (sa_cons (se_call hA.f__law_jn_written fc.hr (fun z => by cases z) fc.tk (sa_cons (se_slot 3) (sa_cons (se_slot 5) sa_nil))) sa_nil))))))))
    (sss_one (ss_ret se_bl))
    sss_nil)
    (sss_cons (ss_exp (se_met PySem.F.plainAttrs_list PySem.F.slot_list_append PySem.F.type_list_append ms_append (se_sub fc.u1 (se_slot 10) se_int) (sa_cons se_non sa_nil)))
    (sss_one (ss_if (st_not (st_val (se_call hA.f__law_oh_same fc.hr fc.gd fc.tk (sa_cons (se_callK hA.k_box_contents_text_boxes fc.hr (fun z => by cases z) fc.tk (sk_cons (se_slot 5) (sk_cons (se_slot 3) sk_nil))) (sa_cons (se_slot 9) sa_nil)))))
    (sss_one (ss_ret se_bl))
    sss_nil)))))))
    (sss_cons (ss_set 6 fc.nd (se_call hA.f__law_pick fc.hr (fun z => by cases z) fc.tk (sa_cons (se_slot 1) (sa_cons (se_lst (sa_cons se_non (sa_cons (se_sl (se_slot 3) so_none (so_some se_int)) (sa_cons (se_ty cs_list G.b_list bt_list (sa_cons (se_slot 3) sa_nil)) (sa_cons se_int (sa_cons (se_bin os_add (se_tup (sa_cons se_str sa_nil)) (se_sl (se_slot 3) (so_some se_int) so_none)) sa_nil)))))) sa_nil))))
    (sss_cons (ss_set 7 fc.nd (se_call hA.f__law_pick fc.hr (fun z => by cases z) fc.tk (sa_cons (se_slot 1) (sa_cons (se_lst (sa_cons se_non (sa_cons se_int (sa_cons se_str (sa_cons (se_lst (sa_cons se_str sa_nil)) (sa_cons se_str sa_nil)))))) sa_nil))))
    (sss_cons (ss_lamsL (i := 8) fc.po fc.calm mk fc.nd (lams_cons (LamX.lamS_by (sc := defScope st_law) (by decide +kernel)) (pss_one (ss_judge G.excs G.b_isinstance bi_isinstance rfl (by decide) (by decide) (pe_caughtN (k := n) G.caught fc.hr fc.nd (fun _ _ _ _ _ _ _ fc => (se_call hL.f_box_contents fc.hr (fun z => by cases z) fc.tk (sa_cons (se_slot 6) (sa_cons (se_slot 7) sa_nil)))) (LamX.lamS_by (sc := defScope st_law) (by decide +kernel)) rfl (.inl rfl)) (se_gl2 rfl G.v_BadBoxes) (sss_one (ss_ret se_bl)) rfl))
    (lams_cons (LamX.lamS_by (sc := defScope st_law) (by decide +kernel)) (pss_one (ss_judge G.excs G.b_isinstance bi_isinstance rfl (by decide) (by decide) (pe_caughtN (k := n) G.caught fc.hr fc.nd (fun _ _ _ _ _ _ _ fc => (se_call hL.f_box_text fc.hr (fun z => by cases z) fc.tk (sa_cons (se_slot 6) (sa_cons (se_slot 7) sa_nil)))) (LamX.lamS_by (sc := defScope st_law) (by decide +kernel)) rfl (.inl rfl)) (se_gl2 rfl G.v_BadBoxes) (sss_one (ss_ret se_bl)) rfl))
    lams_nil)) (by decide))
    (sss_one (ss_lamsL (i := 8) fc.po fc.calm mk fc.nd (lams_cons (LamX.lamS_by (sc := defScope st_law) (by decide +kernel)) (pss_one (ss_judge G.excs G.b_isinstance bi_isinstance rfl (by decide) (by decide) (pe_caughtN (k := n) G.caught fc.hr fc.nd (fun _ _ _ _ _ _ _ fc => (se_call hL.f_box_contents fc.hr (fun z => by cases z) fc.tk (sa_cons (se_slot 3) (sa_cons (se_slot 7) sa_nil)))) (LamX.lamS_by (sc := defScope st_law) (by decide +kernel)) rfl (.inl rfl)) (se_gl2 rfl G.v_BadText) (sss_one (ss_ret se_bl)) rfl))
    (lams_cons (LamX.lamS_by (sc := defScope st_law) (by decide +kernel)) (pss_one (ss_judge G.excs G.b_isinstance bi_isinstance rfl (by decide) (by decide) (pe_caughtN (k := n) G.caught fc.hr fc.nd (fun _ _ _ _ _ _ _ fc => (se_call hL.f_box_text fc.hr (fun z => by cases z) fc.tk (sa_cons (se_slot 3) (sa_cons (se_slot 7) sa_nil)))) (LamX.lamS_by (sc := defScope st_law) (by decide +kernel)) rfl (.inl rfl)) (se_gl2 rfl G.v_BadText) (sss_one (ss_ret se_bl)) rfl))
    lams_nil)) (by decide))))))))))
    (sss_one (ss_ret (se_call hA.f__law_edges_right fc.hr (fun z => by cases z) fc.tk (sa_cons (se_slot 1) sa_nil))))))
end
end G

set_option linter.all false
set_option maxRecDepth 100000
set_option maxHeartbeats 4000000
namespace G
open PySem PySem.Spec PyProof.Rows L2 Q
abbrev st__law_caught : Stmt := top 36
/-- the defs that the head tells -/
def fnl : List He.DefD := [dOf "is_whole" st_is_whole, dOf "is_text" st_is_text, dOf "is_letter" st_is_letter, dOf "is_number" st_is_number, dOf "are_letters" st_are_letters, dOf "boxes_in" st_boxes_in, dOf "are_pieces" st_are_pieces, dOf "are_fills" st_are_fills, dOf "is_move" st_is_move, dOf "has_row_form" st_has_row_form, dOf "is_boxes" st_is_boxes, dOf "need_boxes" st_need_boxes, dOf "filled" st_filled, dOf "moved_on" st_moved_on, dOf "contents_of" st_contents_of, dOf "need_box_text" st_need_box_text, dOf "box_contents" st_box_contents, dOf "text_of_boxes" st_text_of_boxes, dOf "box_text" st_box_text, dOf "_law_begun" st__law_begun, dOf "_law_blended" st__law_blended, dOf "_law_draw" st__law_draw, dOf "_law_pick" st__law_pick, dOf "_law_caught" st__law_caught, dOf "_law_is_truth" st__law_is_truth, dOf "_law_oh_same" st__law_oh_same, dOf "_law_oh_at" st__law_oh_at, dOf "_law_oh_put" st__law_oh_put, dOf "_law_oh_bent" st__law_oh_bent, dOf "_law_oh_spots" st__law_oh_spots, dOf "_law_oh_whole" st__law_oh_whole, dOf "_law_oh_is_word" st__law_oh_is_word, dOf "_law_jn_some" st__law_jn_some, dOf "_law_jn_filled" st__law_jn_filled, dOf "_law_jn_contents" st__law_jn_contents, dOf "_law_jn_written" st__law_jn_written, dOf "_law_pieces" st__law_pieces, dOf "_law_made" st__law_made, dOf "_law_are_fills" st__law_are_fills, dOf "_law_is_head" st__law_is_head, dOf "_law_judged" st__law_judged, dOf "_law_doubled" st__law_doubled, dOf "_law_edges_right" st__law_edges_right, dOf "law" st_law]
def glos0 : List Str := ["is_whole", "is_text", "is_letter", "is_number", "are_letters", "boxes_in", "are_pieces", "are_fills", "is_move", "has_row_form", "is_boxes", "need_boxes", "filled", "moved_on", "contents_of", "need_box_text", "box_contents", "text_of_boxes", "box_text", "_law_begun", "_law_blended", "_law_draw", "_law_pick", "_law_caught", "_law_is_truth", "_law_oh_same", "_law_oh_at", "_law_oh_put", "_law_oh_bent", "_law_oh_spots"]
def glos1 : List Str := ["_law_oh_whole", "_law_oh_is_word", "_law_jn_some", "_law_jn_filled", "_law_jn_contents", "_law_jn_written", "_law_pieces", "_law_made", "_law_are_fills", "_law_is_head", "_law_judged", "_law_doubled", "_law_edges_right", "law", "HeadError", "BadBoxes", "BadText"]
def glos : List Str := glos0 ++ glos1
def frees0 : List Str := ["abs", "all", "bool", "int", "isinstance", "len", "list", "min", "range", "repr", "set", "sorted", "str", "tuple"]
def frees : List Str := frees0
def exF (K : PySem.W.Frag) : Bool := glosB K glos && (freesB K frees && (exsB K excSub excs && ((He.Fa.exc "BadBoxes").ok K && ((He.Fa.exc "BadText").ok K && (exmB K excs "HeadError" && (csB K "LETTERS" k_LETTERS && (csB K "MOST_BOXES" k_MOST_BOXES && (csB K "MOST_LETTERS" k_MOST_LETTERS && (csB K "MOST_ROWS" k_MOST_ROWS)))))))))
def tfl : List He.Defn := [("law", none)]
def names0 : List Str := ["is_whole", "is_text", "is_letter", "is_number", "are_letters", "boxes_in", "are_pieces", "are_fills", "is_move", "has_row_form", "is_boxes", "need_boxes", "filled", "moved_on", "contents_of", "need_box_text", "box_contents", "text_of_boxes", "box_text", "_law_begun", "_law_blended", "_law_draw", "_law_pick", "_law_caught", "_law_is_truth", "_law_oh_same", "_law_oh_at", "_law_oh_put", "_law_oh_bent", "_law_oh_spots"]
def names1 : List Str := ["_law_oh_whole", "_law_oh_is_word", "_law_jn_some", "_law_jn_filled", "_law_jn_contents", "_law_jn_written", "_law_pieces", "_law_made", "_law_are_fills", "_law_is_head", "_law_judged", "_law_doubled", "_law_edges_right", "HeadError", "BadBoxes", "BadText", "LETTERS", "MOST_LETTERS", "MOST_ROWS", "MOST_BOXES"]
def names : List Str := names0 ++ names1
abbrev R : PySem.W.OpenRow := PySem.W.OpenLaw.row PySem.Challenge.rw_oneuseheads_k71_box_machines_judged_and
def tbs : List He.Tab := []
abbrev hk : PySem.W.Hook := He.hookX 5 [] fnl tbs tfl exF
def ob (s : PySem.W.SharedT) : He.AlX := He.obsX 5 [] fnl tbs tfl exF (HandSHeadRun.getT s)
theorem ob_eq (s : PySem.W.SharedT) : ob s = hk.obs s.abs := He.obsX_eq (HandSHeadRun.getT_eq s)
end G

set_option linter.all false
set_option maxRecDepth 100000
set_option maxHeartbeats 4000000
namespace G
open PySem PySem.Spec PyProof.Rows L2 Q
theorem run (w : World) : HandSHeadRun.RunEq R (PySem.W.view R.prog [56]) hk ob 20000 names w := by
  intro os
  kernel_rfl
end G

set_option linter.all false
set_option maxRecDepth 100000
set_option maxHeartbeats 4000000
namespace G
open PySem PySem.Spec PyProof.Rows L2 Q
section
variable {P : Program} {w : World} {K : PySem.W.Frag} {h : Heap} {mg : Str → Option Value} {T : Tb} {base : Heap}
structure Fds (K : PySem.W.Frag) : Prop where
  d_is_whole : ∃ fd cdv, FDx K "is_whole" st_is_whole fd cdv
  d_is_text : ∃ fd cdv, FDx K "is_text" st_is_text fd cdv
  d_is_letter : ∃ fd cdv, FDx K "is_letter" st_is_letter fd cdv
  d_is_number : ∃ fd cdv, FDx K "is_number" st_is_number fd cdv
  d_are_letters : ∃ fd cdv, FDx K "are_letters" st_are_letters fd cdv
  d_boxes_in : ∃ fd cdv, FDx K "boxes_in" st_boxes_in fd cdv
  d_are_pieces : ∃ fd cdv, FDx K "are_pieces" st_are_pieces fd cdv
  d_are_fills : ∃ fd cdv, FDx K "are_fills" st_are_fills fd cdv
  d_is_move : ∃ fd cdv, FDx K "is_move" st_is_move fd cdv
  d_has_row_form : ∃ fd cdv, FDx K "has_row_form" st_has_row_form fd cdv
  d_is_boxes : ∃ fd cdv, FDx K "is_boxes" st_is_boxes fd cdv
  d_need_boxes : ∃ fd cdv, FDx K "need_boxes" st_need_boxes fd cdv
  d_filled : ∃ fd cdv, FDx K "filled" st_filled fd cdv
  d_moved_on : ∃ fd cdv, FDx K "moved_on" st_moved_on fd cdv
  d_contents_of : ∃ fd cdv, FDx K "contents_of" st_contents_of fd cdv
  d_need_box_text : ∃ fd cdv, FDx K "need_box_text" st_need_box_text fd cdv
  d_box_contents : ∃ fd cdv, FDx K "box_contents" st_box_contents fd cdv
  d_text_of_boxes : ∃ fd cdv, FDx K "text_of_boxes" st_text_of_boxes fd cdv
  d_box_text : ∃ fd cdv, FDx K "box_text" st_box_text fd cdv
  d__law_begun : ∃ fd cdv, FDx K "_law_begun" st__law_begun fd cdv
  d__law_blended : ∃ fd cdv, FDx K "_law_blended" st__law_blended fd cdv
  d__law_draw : ∃ fd cdv, FDx K "_law_draw" st__law_draw fd cdv
  d__law_pick : ∃ fd cdv, FDx K "_law_pick" st__law_pick fd cdv
  d__law_caught : ∃ fd cdv, FDx K "_law_caught" st__law_caught fd cdv
  d__law_is_truth : ∃ fd cdv, FDx K "_law_is_truth" st__law_is_truth fd cdv
  d__law_oh_same : ∃ fd cdv, FDx K "_law_oh_same" st__law_oh_same fd cdv
  d__law_oh_at : ∃ fd cdv, FDx K "_law_oh_at" st__law_oh_at fd cdv
  d__law_oh_put : ∃ fd cdv, FDx K "_law_oh_put" st__law_oh_put fd cdv
  d__law_oh_bent : ∃ fd cdv, FDx K "_law_oh_bent" st__law_oh_bent fd cdv
  d__law_oh_spots : ∃ fd cdv, FDx K "_law_oh_spots" st__law_oh_spots fd cdv
  d__law_oh_whole : ∃ fd cdv, FDx K "_law_oh_whole" st__law_oh_whole fd cdv
  d__law_oh_is_word : ∃ fd cdv, FDx K "_law_oh_is_word" st__law_oh_is_word fd cdv
  d__law_jn_some : ∃ fd cdv, FDx K "_law_jn_some" st__law_jn_some fd cdv
  d__law_jn_filled : ∃ fd cdv, FDx K "_law_jn_filled" st__law_jn_filled fd cdv
  d__law_jn_contents : ∃ fd cdv, FDx K "_law_jn_contents" st__law_jn_contents fd cdv
  d__law_jn_written : ∃ fd cdv, FDx K "_law_jn_written" st__law_jn_written fd cdv
  d__law_pieces : ∃ fd cdv, FDx K "_law_pieces" st__law_pieces fd cdv
  d__law_made : ∃ fd cdv, FDx K "_law_made" st__law_made fd cdv
  d__law_are_fills : ∃ fd cdv, FDx K "_law_are_fills" st__law_are_fills fd cdv
  d__law_is_head : ∃ fd cdv, FDx K "_law_is_head" st__law_is_head fd cdv
  d__law_judged : ∃ fd cdv, FDx K "_law_judged" st__law_judged fd cdv
  d__law_doubled : ∃ fd cdv, FDx K "_law_doubled" st__law_doubled fd cdv
  d__law_edges_right : ∃ fd cdv, FDx K "_law_edges_right" st__law_edges_right fd cdv
  d_law : ∃ fd cdv, FDx K "law" st_law fd cdv
theorem fds_of (c : He.SaysD [] fnl K) (e : exF K = true) : Fds K where
  d_is_whole := fdx_of c (List.mem_iff_getElem?.mpr ⟨0, rfl⟩)
  d_is_text := fdx_of c (List.mem_iff_getElem?.mpr ⟨1, rfl⟩)
  d_is_letter := fdx_of c (List.mem_iff_getElem?.mpr ⟨2, rfl⟩)
  d_is_number := fdx_of c (List.mem_iff_getElem?.mpr ⟨3, rfl⟩)
  d_are_letters := fdx_of c (List.mem_iff_getElem?.mpr ⟨4, rfl⟩)
  d_boxes_in := fdx_of c (List.mem_iff_getElem?.mpr ⟨5, rfl⟩)
  d_are_pieces := fdx_of c (List.mem_iff_getElem?.mpr ⟨6, rfl⟩)
  d_are_fills := fdx_of c (List.mem_iff_getElem?.mpr ⟨7, rfl⟩)
  d_is_move := fdx_of c (List.mem_iff_getElem?.mpr ⟨8, rfl⟩)
  d_has_row_form := fdx_of c (List.mem_iff_getElem?.mpr ⟨9, rfl⟩)
  d_is_boxes := fdx_of c (List.mem_iff_getElem?.mpr ⟨10, rfl⟩)
  d_need_boxes := fdx_of c (List.mem_iff_getElem?.mpr ⟨11, rfl⟩)
  d_filled := fdx_of c (List.mem_iff_getElem?.mpr ⟨12, rfl⟩)
  d_moved_on := fdx_of c (List.mem_iff_getElem?.mpr ⟨13, rfl⟩)
  d_contents_of := fdx_of c (List.mem_iff_getElem?.mpr ⟨14, rfl⟩)
  d_need_box_text := fdx_of c (List.mem_iff_getElem?.mpr ⟨15, rfl⟩)
  d_box_contents := fdx_of c (List.mem_iff_getElem?.mpr ⟨16, rfl⟩)
  d_text_of_boxes := fdx_of c (List.mem_iff_getElem?.mpr ⟨17, rfl⟩)
  d_box_text := fdx_of c (List.mem_iff_getElem?.mpr ⟨18, rfl⟩)
  d__law_begun := fdx_of c (List.mem_iff_getElem?.mpr ⟨19, rfl⟩)
  d__law_blended := fdx_of c (List.mem_iff_getElem?.mpr ⟨20, rfl⟩)
  d__law_draw := fdx_of c (List.mem_iff_getElem?.mpr ⟨21, rfl⟩)
  d__law_pick := fdx_of c (List.mem_iff_getElem?.mpr ⟨22, rfl⟩)
  d__law_caught := fdx_of c (List.mem_iff_getElem?.mpr ⟨23, rfl⟩)
  d__law_is_truth := fdx_of c (List.mem_iff_getElem?.mpr ⟨24, rfl⟩)
  d__law_oh_same := fdx_of c (List.mem_iff_getElem?.mpr ⟨25, rfl⟩)
  d__law_oh_at := fdx_of c (List.mem_iff_getElem?.mpr ⟨26, rfl⟩)
  d__law_oh_put := fdx_of c (List.mem_iff_getElem?.mpr ⟨27, rfl⟩)
  d__law_oh_bent := fdx_of c (List.mem_iff_getElem?.mpr ⟨28, rfl⟩)
  d__law_oh_spots := fdx_of c (List.mem_iff_getElem?.mpr ⟨29, rfl⟩)
  d__law_oh_whole := fdx_of c (List.mem_iff_getElem?.mpr ⟨30, rfl⟩)
  d__law_oh_is_word := fdx_of c (List.mem_iff_getElem?.mpr ⟨31, rfl⟩)
  d__law_jn_some := fdx_of c (List.mem_iff_getElem?.mpr ⟨32, rfl⟩)
  d__law_jn_filled := fdx_of c (List.mem_iff_getElem?.mpr ⟨33, rfl⟩)
  d__law_jn_contents := fdx_of c (List.mem_iff_getElem?.mpr ⟨34, rfl⟩)
  d__law_jn_written := fdx_of c (List.mem_iff_getElem?.mpr ⟨35, rfl⟩)
  d__law_pieces := fdx_of c (List.mem_iff_getElem?.mpr ⟨36, rfl⟩)
  d__law_made := fdx_of c (List.mem_iff_getElem?.mpr ⟨37, rfl⟩)
  d__law_are_fills := fdx_of c (List.mem_iff_getElem?.mpr ⟨38, rfl⟩)
  d__law_is_head := fdx_of c (List.mem_iff_getElem?.mpr ⟨39, rfl⟩)
  d__law_judged := fdx_of c (List.mem_iff_getElem?.mpr ⟨40, rfl⟩)
  d__law_doubled := fdx_of c (List.mem_iff_getElem?.mpr ⟨41, rfl⟩)
  d__law_edges_right := fdx_of c (List.mem_iff_getElem?.mpr ⟨42, rfl⟩)
  d_law := fdx_of c (List.mem_iff_getElem?.mpr ⟨43, rfl⟩)
theorem oks_zero (D : Fds K) (hm : ∀ x ∈ glos, mg x = some (.ref (He.ga K x))) {k : Nat} : Oks P w K mg T base k zero := by
  constructor
  · obtain ⟨fd, cdv, F⟩ := D.d_is_whole
    exact F.cal (ps := ["value"]) (hm _ (by decide +kernel)) (fun _ _ _ _ _ us hl => match us, hl with | [_], _ => rfl) fn_zero (fun _ _ _ => rfl)
  · obtain ⟨fd, cdv, F⟩ := D.d_is_text
    exact F.cal (ps := ["value"]) (hm _ (by decide +kernel)) (fun _ _ _ _ _ us hl => match us, hl with | [_], _ => rfl) fn_zero (fun _ _ _ => rfl)
  · obtain ⟨fd, cdv, F⟩ := D.d_is_letter
    exact F.cal (ps := ["value"]) (hm _ (by decide +kernel)) (fun _ _ _ _ _ us hl => match us, hl with | [_], _ => rfl) fn_zero (fun _ _ _ => rfl)
  · obtain ⟨fd, cdv, F⟩ := D.d_is_number
    exact F.cal (ps := ["value", "end"]) (hm _ (by decide +kernel)) (fun _ _ _ _ _ us hl => match us, hl with | [_, _], _ => rfl) fn_zero (fun _ _ _ => rfl)
  · obtain ⟨fd, cdv, F⟩ := D.d_are_letters
    exact F.cal (ps := ["value"]) (hm _ (by decide +kernel)) (fun _ _ _ _ _ us hl => match us, hl with | [_], _ => rfl) fn_zero (fun _ _ _ => rfl)
  · obtain ⟨fd, cdv, F⟩ := D.d_boxes_in
    exact F.cal (ps := ["pieces"]) (hm _ (by decide +kernel)) (fun _ _ _ _ _ us hl => match us, hl with | [_], _ => rfl) fn_zero (fun _ _ _ => rfl)
  · obtain ⟨fd, cdv, F⟩ := D.d_are_pieces
    exact F.cal (ps := ["value", "many"]) (hm _ (by decide +kernel)) (fun _ _ _ _ _ us hl => match us, hl with | [_, _], _ => rfl) fn_zero (fun _ _ _ => rfl)
  · obtain ⟨fd, cdv, F⟩ := D.d_are_fills
    exact F.cal (ps := ["value", "many", "size"]) (hm _ (by decide +kernel)) (fun _ _ _ _ _ us hl => match us, hl with | [_, _, _], _ => rfl) fn_zero (fun _ _ _ => rfl)
  · obtain ⟨fd, cdv, F⟩ := D.d_is_move
    exact F.cal (ps := ["value", "many", "sizes"]) (hm _ (by decide +kernel)) (fun _ _ _ _ _ us hl => match us, hl with | [_, _, _], _ => rfl) fn_zero (fun _ _ _ => rfl)
  · obtain ⟨fd, cdv, F⟩ := D.d_has_row_form
    exact F.cal (ps := ["value", "letters"]) (hm _ (by decide +kernel)) (fun _ _ _ _ _ us hl => match us, hl with | [_, _], _ => rfl) fn_zero (fun _ _ _ => rfl)
  · obtain ⟨fd, cdv, F⟩ := D.d_is_boxes
    exact F.cal (ps := ["value"]) (hm _ (by decide +kernel)) (fun _ _ _ _ _ us hl => match us, hl with | [_], _ => rfl) fn_zero (fun _ _ _ => rfl)
  · obtain ⟨fd, cdv, F⟩ := D.d_is_boxes
    exact F.calK (ps := ["value"]) (hm _ (by decide +kernel)) (fun _ _ _ _ _ ws hl => match ws, hl with | [], h => absurd h (by simp [reord]) | _ :: _, _ => rfl) fn_zero (fun _ _ _ => rfl)
  · obtain ⟨fd, cdv, F⟩ := D.d_need_boxes
    exact F.cal (ps := ["boxes"]) (hm _ (by decide +kernel)) (fun _ _ _ _ _ us hl => match us, hl with | [_], _ => rfl) fn_zero (fun _ _ _ => rfl)
  · obtain ⟨fd, cdv, F⟩ := D.d_filled
    exact F.cal (ps := ["pieces", "texts"]) (hm _ (by decide +kernel)) (fun _ _ _ _ _ us hl => match us, hl with | [_, _], _ => rfl) fn_zero (fun _ _ _ => rfl)
  · obtain ⟨fd, cdv, F⟩ := D.d_moved_on
    exact F.cal (ps := ["boxes", "row", "texts", "letter"]) (hm _ (by decide +kernel)) (fun _ _ _ _ _ us hl => match us, hl with | [_, _, _, _], _ => rfl) fn_zero (fun _ _ _ => rfl)
  · obtain ⟨fd, cdv, F⟩ := D.d_contents_of
    exact F.cal (ps := ["boxes", "text"]) (hm _ (by decide +kernel)) (fun _ _ _ _ _ us hl => match us, hl with | [_, _], _ => rfl) fn_zero (fun _ _ _ => rfl)
  · obtain ⟨fd, cdv, F⟩ := D.d_need_box_text
    exact F.cal (ps := ["boxes", "text"]) (hm _ (by decide +kernel)) (fun _ _ _ _ _ us hl => match us, hl with | [_, _], _ => rfl) fn_zero (fun _ _ _ => rfl)
  · obtain ⟨fd, cdv, F⟩ := D.d_box_contents
    exact F.cal (ps := ["boxes", "text"]) (hm _ (by decide +kernel)) (fun _ _ _ _ _ us hl => match us, hl with | [_, _], _ => rfl) fn_zero (fun _ _ _ => rfl)
  · obtain ⟨fd, cdv, F⟩ := D.d_box_contents
    exact F.calKP (ps := ["boxes", "text"]) (hm _ (by decide +kernel)) (fun _ _ _ _ _ us ws hu hl => match ws, us, hu, hl with | [], [_], _, h => absurd h (by simp [reord]) | _ :: _, [_], _, _ => rfl) fn_zero (fun _ _ _ => rfl)
  · obtain ⟨fd, cdv, F⟩ := D.d_box_contents
    exact F.calK (ps := ["boxes", "text"]) (hm _ (by decide +kernel)) (fun _ _ _ _ _ ws hl => match ws, hl with | [], h => absurd h (by simp [reord]) | [_], h => absurd h (by simp [reord]) | _ :: _ :: _, _ => rfl) fn_zero (fun _ _ _ => rfl)
  · obtain ⟨fd, cdv, F⟩ := D.d_text_of_boxes
    exact F.cal (ps := ["boxes", "text"]) (hm _ (by decide +kernel)) (fun _ _ _ _ _ us hl => match us, hl with | [_, _], _ => rfl) fn_zero (fun _ _ _ => rfl)
  · obtain ⟨fd, cdv, F⟩ := D.d_box_text
    exact F.cal (ps := ["boxes", "text"]) (hm _ (by decide +kernel)) (fun _ _ _ _ _ us hl => match us, hl with | [_, _], _ => rfl) fn_zero (fun _ _ _ => rfl)
  · obtain ⟨fd, cdv, F⟩ := D.d__law_begun
    exact F.cal (ps := ["_law_script"]) (hm _ (by decide +kernel)) (fun _ _ _ _ _ us hl => match us, hl with | [_], _ => rfl) fn_zero (fun _ _ _ => rfl)
  · obtain ⟨fd, cdv, F⟩ := D.d__law_blended
    exact F.cal (ps := ["_law_state"]) (hm _ (by decide +kernel)) (fun _ _ _ _ _ us hl => match us, hl with | [_], _ => rfl) fn_zero (fun _ _ _ => rfl)
  · obtain ⟨fd, cdv, F⟩ := D.d__law_draw
    exact F.cal (ps := ["_law_state", "_law_room"]) (hm _ (by decide +kernel)) (fun _ _ _ _ _ us hl => match us, hl with | [_, _], _ => rfl) fn_zero (fun _ _ _ => rfl)
  · obtain ⟨fd, cdv, F⟩ := D.d__law_pick
    exact F.cal (ps := ["_law_state", "_law_some"]) (hm _ (by decide +kernel)) (fun _ _ _ _ _ us hl => match us, hl with | [_, _], _ => rfl) fn_zero (fun _ _ _ => rfl)
  · obtain ⟨fd, cdv, F⟩ := D.d__law_is_truth
    exact F.cal (ps := ["_law_found", "_law_due"]) (hm _ (by decide +kernel)) (fun _ _ _ _ _ us hl => match us, hl with | [_, _], _ => rfl) fn_zero (fun _ _ _ => rfl)
  · obtain ⟨fd, cdv, F⟩ := D.d__law_oh_same
    exact F.cal (ps := ["_law_found", "_law_due"]) (hm _ (by decide +kernel)) (fun _ _ _ _ _ us hl => match us, hl with | [_, _], _ => rfl) fn_zero (fun _ _ _ => rfl)
  · obtain ⟨fd, cdv, F⟩ := D.d__law_oh_at
    exact F.cal (ps := ["_law_thing", "_law_path"]) (hm _ (by decide +kernel)) (fun _ _ _ _ _ us hl => match us, hl with | [_, _], _ => rfl) fn_zero (fun _ _ _ => rfl)
  · obtain ⟨fd, cdv, F⟩ := D.d__law_oh_put
    exact F.cal (ps := ["_law_thing", "_law_path", "_law_part"]) (hm _ (by decide +kernel)) (fun _ _ _ _ _ us hl => match us, hl with | [_, _, _], _ => rfl) fn_zero (fun _ _ _ => rfl)
  · obtain ⟨fd, cdv, F⟩ := D.d__law_oh_bent
    exact F.cal (ps := ["_law_state", "_law_thing"]) (hm _ (by decide +kernel)) (fun _ _ _ _ _ us hl => match us, hl with | [_, _], _ => rfl) fn_zero (fun _ _ _ => rfl)
  · obtain ⟨fd, cdv, F⟩ := D.d__law_oh_spots
    exact F.cal (ps := ["_law_thing", "_law_path"]) (hm _ (by decide +kernel)) (fun _ _ _ _ _ us hl => match us, hl with | [_, _], _ => rfl) fn_zero (fun _ _ _ => rfl)
  · obtain ⟨fd, cdv, F⟩ := D.d__law_oh_whole
    exact F.cal (ps := ["_law_thing"]) (hm _ (by decide +kernel)) (fun _ _ _ _ _ us hl => match us, hl with | [_], _ => rfl) fn_zero (fun _ _ _ => rfl)
  · obtain ⟨fd, cdv, F⟩ := D.d__law_oh_is_word
    exact F.cal (ps := ["_law_thing"]) (hm _ (by decide +kernel)) (fun _ _ _ _ _ us hl => match us, hl with | [_], _ => rfl) fn_zero (fun _ _ _ => rfl)
  · obtain ⟨fd, cdv, F⟩ := D.d__law_jn_some
    exact F.cal (ps := ["_law_state", "_law_letters_here", "_law_many", "_law_most"]) (hm _ (by decide +kernel)) (fun _ _ _ _ _ us hl => match us, hl with | [_, _, _, _], _ => rfl) fn_zero (fun _ _ _ => rfl)
  · obtain ⟨fd, cdv, F⟩ := D.d__law_jn_filled
    exact F.cal (ps := ["_law_pieces_here", "_law_words"]) (hm _ (by decide +kernel)) (fun _ _ _ _ _ us hl => match us, hl with | [_, _], _ => rfl) fn_zero (fun _ _ _ => rfl)
  · obtain ⟨fd, cdv, F⟩ := D.d__law_jn_contents
    exact F.cal (ps := ["_law_boxes_here", "_law_word"]) (hm _ (by decide +kernel)) (fun _ _ _ _ _ us hl => match us, hl with | [_, _], _ => rfl) fn_zero (fun _ _ _ => rfl)
  · obtain ⟨fd, cdv, F⟩ := D.d__law_jn_written
    exact F.cal (ps := ["_law_boxes_here", "_law_word"]) (hm _ (by decide +kernel)) (fun _ _ _ _ _ us hl => match us, hl with | [_, _], _ => rfl) fn_zero (fun _ _ _ => rfl)
  · obtain ⟨fd, cdv, F⟩ := D.d__law_pieces
    exact F.cal (ps := ["_law_state", "_law_free", "_law_many"]) (hm _ (by decide +kernel)) (fun _ _ _ _ _ us hl => match us, hl with | [_, _, _], _ => rfl) fn_zero (fun _ _ _ => rfl)
  · obtain ⟨fd, cdv, F⟩ := D.d__law_made
    exact F.cal (ps := ["_law_state"]) (hm _ (by decide +kernel)) (fun _ _ _ _ _ us hl => match us, hl with | [_], _ => rfl) fn_zero (fun _ _ _ => rfl)
  · obtain ⟨fd, cdv, F⟩ := D.d__law_are_fills
    exact F.cal (ps := ["_law_thing", "_law_many", "_law_size"]) (hm _ (by decide +kernel)) (fun _ _ _ _ _ us hl => match us, hl with | [_, _, _], _ => rfl) fn_zero (fun _ _ _ => rfl)
  · obtain ⟨fd, cdv, F⟩ := D.d__law_is_head
    exact F.cal (ps := ["_law_thing"]) (hm _ (by decide +kernel)) (fun _ _ _ _ _ us hl => match us, hl with | [_], _ => rfl) fn_zero (fun _ _ _ => rfl)
  · obtain ⟨fd, cdv, F⟩ := D.d__law_judged
    exact F.cal (ps := ["_law_thing"]) (hm _ (by decide +kernel)) (fun _ _ _ _ _ us hl => match us, hl with | [_], _ => rfl) fn_zero (fun _ _ _ => rfl)
  · obtain ⟨fd, cdv, F⟩ := D.d__law_doubled
    exact F.cal (ps := ["_law_state", "_law_boxes_here"]) (hm _ (by decide +kernel)) (fun _ _ _ _ _ us hl => match us, hl with | [_, _], _ => rfl) fn_zero (fun _ _ _ => rfl)
  · obtain ⟨fd, cdv, F⟩ := D.d__law_edges_right
    exact F.cal (ps := ["_law_state"]) (hm _ (by decide +kernel)) (fun _ _ _ _ _ us hl => match us, hl with | [_], _ => rfl) fn_zero (fun _ _ _ => rfl)
  · obtain ⟨fd, cdv, F⟩ := D.d_law
    exact F.cal (ps := ["_law_script"]) (hm _ (by decide +kernel)) (fun _ _ _ _ _ us hl => match us, hl with | [_], _ => rfl) fn_zero (fun _ _ _ => rfl)
theorem oks_step (D : Fds K) (G : Gs K mg) (hm : ∀ x ∈ glos, mg x = some (.ref (He.ga K x))) (mk : ∀ cdv fd, FDx K "law" st_law fd cdv → MkOf base mg T "law" cdv) {n : Nat} {C L : Nat → List Vl → M Vl} (hA : Oks P w K mg T base (n + 2) C) (hL : Oks P w K mg T base n L) : Oks P w K mg T base (n + 3) (step C L) := by
  constructor
  · obtain ⟨fd, cdv, F⟩ := D.d_is_whole
    exact F.cal (ps := ["value"]) (hm _ (by decide +kernel)) (fun _ _ _ _ _ us hl => match us, hl with | [_], _ => rfl) (ok_is_whole G hA hL F.tx) runF_len
  · obtain ⟨fd, cdv, F⟩ := D.d_is_text
    exact F.cal (ps := ["value"]) (hm _ (by decide +kernel)) (fun _ _ _ _ _ us hl => match us, hl with | [_], _ => rfl) (ok_is_text G hA hL F.tx) runF_len
  · obtain ⟨fd, cdv, F⟩ := D.d_is_letter
    exact F.cal (ps := ["value"]) (hm _ (by decide +kernel)) (fun _ _ _ _ _ us hl => match us, hl with | [_], _ => rfl) (ok_is_letter G hA hL F.tx) runF_len
  · obtain ⟨fd, cdv, F⟩ := D.d_is_number
    exact F.cal (ps := ["value", "end"]) (hm _ (by decide +kernel)) (fun _ _ _ _ _ us hl => match us, hl with | [_, _], _ => rfl) (ok_is_number G hA hL F.tx) runF_len
  · obtain ⟨fd, cdv, F⟩ := D.d_are_letters
    exact F.cal (ps := ["value"]) (hm _ (by decide +kernel)) (fun _ _ _ _ _ us hl => match us, hl with | [_], _ => rfl) (ok_are_letters G hA hL F.tx) runF_len
  · obtain ⟨fd, cdv, F⟩ := D.d_boxes_in
    exact F.cal (ps := ["pieces"]) (hm _ (by decide +kernel)) (fun _ _ _ _ _ us hl => match us, hl with | [_], _ => rfl) (ok_boxes_in G hA hL F.tx) runF_len
  · obtain ⟨fd, cdv, F⟩ := D.d_are_pieces
    exact F.cal (ps := ["value", "many"]) (hm _ (by decide +kernel)) (fun _ _ _ _ _ us hl => match us, hl with | [_, _], _ => rfl) (ok_are_pieces G hA hL F.tx) runF_len
  · obtain ⟨fd, cdv, F⟩ := D.d_are_fills
    exact F.cal (ps := ["value", "many", "size"]) (hm _ (by decide +kernel)) (fun _ _ _ _ _ us hl => match us, hl with | [_, _, _], _ => rfl) (ok_are_fills G hA hL F.tx) runF_len
  · obtain ⟨fd, cdv, F⟩ := D.d_is_move
    exact F.cal (ps := ["value", "many", "sizes"]) (hm _ (by decide +kernel)) (fun _ _ _ _ _ us hl => match us, hl with | [_, _, _], _ => rfl) (ok_is_move G hA hL F.tx) runF_len
  · obtain ⟨fd, cdv, F⟩ := D.d_has_row_form
    exact F.cal (ps := ["value", "letters"]) (hm _ (by decide +kernel)) (fun _ _ _ _ _ us hl => match us, hl with | [_, _], _ => rfl) (ok_has_row_form G hA hL F.tx) runF_len
  · obtain ⟨fd, cdv, F⟩ := D.d_is_boxes
    exact F.cal (ps := ["value"]) (hm _ (by decide +kernel)) (fun _ _ _ _ _ us hl => match us, hl with | [_], _ => rfl) (ok_is_boxes G hA hL F.tx) runF_len
  · obtain ⟨fd, cdv, F⟩ := D.d_is_boxes
    exact F.calK (ps := ["value"]) (hm _ (by decide +kernel)) (fun _ _ _ _ _ ws hl => match ws, hl with | [], h => absurd h (by simp [reord]) | _ :: _, _ => rfl) (ok_is_boxes G hA hL F.tx) runF_len
  · obtain ⟨fd, cdv, F⟩ := D.d_need_boxes
    exact F.cal (ps := ["boxes"]) (hm _ (by decide +kernel)) (fun _ _ _ _ _ us hl => match us, hl with | [_], _ => rfl) (ok_need_boxes G hA hL F.tx) runF_len
  · obtain ⟨fd, cdv, F⟩ := D.d_filled
    exact F.cal (ps := ["pieces", "texts"]) (hm _ (by decide +kernel)) (fun _ _ _ _ _ us hl => match us, hl with | [_, _], _ => rfl) (ok_filled G hA hL F.tx) runF_len
  · obtain ⟨fd, cdv, F⟩ := D.d_moved_on
    exact F.cal (ps := ["boxes", "row", "texts", "letter"]) (hm _ (by decide +kernel)) (fun _ _ _ _ _ us hl => match us, hl with | [_, _, _, _], _ => rfl) (ok_moved_on G hA hL F.tx) runF_len
  · obtain ⟨fd, cdv, F⟩ := D.d_contents_of
    exact F.cal (ps := ["boxes", "text"]) (hm _ (by decide +kernel)) (fun _ _ _ _ _ us hl => match us, hl with | [_, _], _ => rfl) (ok_contents_of G hA hL F.tx) runF_len
  · obtain ⟨fd, cdv, F⟩ := D.d_need_box_text
    exact F.cal (ps := ["boxes", "text"]) (hm _ (by decide +kernel)) (fun _ _ _ _ _ us hl => match us, hl with | [_, _], _ => rfl) (ok_need_box_text G hA hL F.tx) runF_len
  · obtain ⟨fd, cdv, F⟩ := D.d_box_contents
    exact F.cal (ps := ["boxes", "text"]) (hm _ (by decide +kernel)) (fun _ _ _ _ _ us hl => match us, hl with | [_, _], _ => rfl) (ok_box_contents G hA hL F.tx) runF_len
  · obtain ⟨fd, cdv, F⟩ := D.d_box_contents
    exact F.calKP (ps := ["boxes", "text"]) (hm _ (by decide +kernel)) (fun _ _ _ _ _ us ws hu hl => match ws, us, hu, hl with | [], [_], _, h => absurd h (by simp [reord]) | _ :: _, [_], _, _ => rfl) (ok_box_contents G hA hL F.tx) runF_len
  · obtain ⟨fd, cdv, F⟩ := D.d_box_contents
    exact F.calK (ps := ["boxes", "text"]) (hm _ (by decide +kernel)) (fun _ _ _ _ _ ws hl => match ws, hl with | [], h => absurd h (by simp [reord]) | [_], h => absurd h (by simp [reord]) | _ :: _ :: _, _ => rfl) (ok_box_contents G hA hL F.tx) runF_len
  · obtain ⟨fd, cdv, F⟩ := D.d_text_of_boxes
    exact F.cal (ps := ["boxes", "text"]) (hm _ (by decide +kernel)) (fun _ _ _ _ _ us hl => match us, hl with | [_, _], _ => rfl) (ok_text_of_boxes G hA hL F.tx) runF_len
  · obtain ⟨fd, cdv, F⟩ := D.d_box_text
    exact F.cal (ps := ["boxes", "text"]) (hm _ (by decide +kernel)) (fun _ _ _ _ _ us hl => match us, hl with | [_, _], _ => rfl) (ok_box_text G hA hL F.tx) runF_len
  · obtain ⟨fd, cdv, F⟩ := D.d__law_begun
    exact F.cal (ps := ["_law_script"]) (hm _ (by decide +kernel)) (fun _ _ _ _ _ us hl => match us, hl with | [_], _ => rfl) (ok__law_begun G hA hL F.tx) runF_len
  · obtain ⟨fd, cdv, F⟩ := D.d__law_blended
    exact F.cal (ps := ["_law_state"]) (hm _ (by decide +kernel)) (fun _ _ _ _ _ us hl => match us, hl with | [_], _ => rfl) (ok__law_blended G hA hL F.tx) runF_len
  · obtain ⟨fd, cdv, F⟩ := D.d__law_draw
    exact F.cal (ps := ["_law_state", "_law_room"]) (hm _ (by decide +kernel)) (fun _ _ _ _ _ us hl => match us, hl with | [_, _], _ => rfl) (ok__law_draw G hA hL F.tx) runF_len
  · obtain ⟨fd, cdv, F⟩ := D.d__law_pick
    exact F.cal (ps := ["_law_state", "_law_some"]) (hm _ (by decide +kernel)) (fun _ _ _ _ _ us hl => match us, hl with | [_, _], _ => rfl) (ok__law_pick G hA hL F.tx) runF_len
  · obtain ⟨fd, cdv, F⟩ := D.d__law_is_truth
    exact F.cal (ps := ["_law_found", "_law_due"]) (hm _ (by decide +kernel)) (fun _ _ _ _ _ us hl => match us, hl with | [_, _], _ => rfl) (ok__law_is_truth G hA hL F.tx) runF_len
  · obtain ⟨fd, cdv, F⟩ := D.d__law_oh_same
    exact F.cal (ps := ["_law_found", "_law_due"]) (hm _ (by decide +kernel)) (fun _ _ _ _ _ us hl => match us, hl with | [_, _], _ => rfl) (ok__law_oh_same G hA hL F.tx) runF_len
  · obtain ⟨fd, cdv, F⟩ := D.d__law_oh_at
    exact F.cal (ps := ["_law_thing", "_law_path"]) (hm _ (by decide +kernel)) (fun _ _ _ _ _ us hl => match us, hl with | [_, _], _ => rfl) (ok__law_oh_at G hA hL F.tx) runF_len
  · obtain ⟨fd, cdv, F⟩ := D.d__law_oh_put
    exact F.cal (ps := ["_law_thing", "_law_path", "_law_part"]) (hm _ (by decide +kernel)) (fun _ _ _ _ _ us hl => match us, hl with | [_, _, _], _ => rfl) (ok__law_oh_put G hA hL F.tx) runF_len
  · obtain ⟨fd, cdv, F⟩ := D.d__law_oh_bent
    exact F.cal (ps := ["_law_state", "_law_thing"]) (hm _ (by decide +kernel)) (fun _ _ _ _ _ us hl => match us, hl with | [_, _], _ => rfl) (ok__law_oh_bent G hA hL F.tx) runF_len
  · obtain ⟨fd, cdv, F⟩ := D.d__law_oh_spots
    exact F.cal (ps := ["_law_thing", "_law_path"]) (hm _ (by decide +kernel)) (fun _ _ _ _ _ us hl => match us, hl with | [_, _], _ => rfl) (ok__law_oh_spots G hA hL F.tx) runF_len
  · obtain ⟨fd, cdv, F⟩ := D.d__law_oh_whole
    exact F.cal (ps := ["_law_thing"]) (hm _ (by decide +kernel)) (fun _ _ _ _ _ us hl => match us, hl with | [_], _ => rfl) (ok__law_oh_whole G hA hL F.tx) runF_len
  · obtain ⟨fd, cdv, F⟩ := D.d__law_oh_is_word
    exact F.cal (ps := ["_law_thing"]) (hm _ (by decide +kernel)) (fun _ _ _ _ _ us hl => match us, hl with | [_], _ => rfl) (ok__law_oh_is_word G hA hL F.tx) runF_len
  · obtain ⟨fd, cdv, F⟩ := D.d__law_jn_some
    exact F.cal (ps := ["_law_state", "_law_letters_here", "_law_many", "_law_most"]) (hm _ (by decide +kernel)) (fun _ _ _ _ _ us hl => match us, hl with | [_, _, _, _], _ => rfl) (ok__law_jn_some G hA hL F.tx) runF_len
  · obtain ⟨fd, cdv, F⟩ := D.d__law_jn_filled
    exact F.cal (ps := ["_law_pieces_here", "_law_words"]) (hm _ (by decide +kernel)) (fun _ _ _ _ _ us hl => match us, hl with | [_, _], _ => rfl) (ok__law_jn_filled G hA hL F.tx) runF_len
  · obtain ⟨fd, cdv, F⟩ := D.d__law_jn_contents
    exact F.cal (ps := ["_law_boxes_here", "_law_word"]) (hm _ (by decide +kernel)) (fun _ _ _ _ _ us hl => match us, hl with | [_, _], _ => rfl) (ok__law_jn_contents G hA hL F.tx) runF_len
  · obtain ⟨fd, cdv, F⟩ := D.d__law_jn_written
    exact F.cal (ps := ["_law_boxes_here", "_law_word"]) (hm _ (by decide +kernel)) (fun _ _ _ _ _ us hl => match us, hl with | [_, _], _ => rfl) (ok__law_jn_written G hA hL F.tx) runF_len
  · obtain ⟨fd, cdv, F⟩ := D.d__law_pieces
    exact F.cal (ps := ["_law_state", "_law_free", "_law_many"]) (hm _ (by decide +kernel)) (fun _ _ _ _ _ us hl => match us, hl with | [_, _, _], _ => rfl) (ok__law_pieces G hA hL F.tx) runF_len
  · obtain ⟨fd, cdv, F⟩ := D.d__law_made
    exact F.cal (ps := ["_law_state"]) (hm _ (by decide +kernel)) (fun _ _ _ _ _ us hl => match us, hl with | [_], _ => rfl) (ok__law_made G hA hL F.tx) runF_len
  · obtain ⟨fd, cdv, F⟩ := D.d__law_are_fills
    exact F.cal (ps := ["_law_thing", "_law_many", "_law_size"]) (hm _ (by decide +kernel)) (fun _ _ _ _ _ us hl => match us, hl with | [_, _, _], _ => rfl) (ok__law_are_fills G hA hL F.tx) runF_len
  · obtain ⟨fd, cdv, F⟩ := D.d__law_is_head
    exact F.cal (ps := ["_law_thing"]) (hm _ (by decide +kernel)) (fun _ _ _ _ _ us hl => match us, hl with | [_], _ => rfl) (ok__law_is_head G hA hL F.tx) runF_len
  · obtain ⟨fd, cdv, F⟩ := D.d__law_judged
    exact F.cal (ps := ["_law_thing"]) (hm _ (by decide +kernel)) (fun _ _ _ _ _ us hl => match us, hl with | [_], _ => rfl) (ok__law_judged G hA hL F.tx) runF_len
  · obtain ⟨fd, cdv, F⟩ := D.d__law_doubled
    exact F.cal (ps := ["_law_state", "_law_boxes_here"]) (hm _ (by decide +kernel)) (fun _ _ _ _ _ us hl => match us, hl with | [_, _], _ => rfl) (ok__law_doubled G hA hL F.tx) runF_len
  · obtain ⟨fd, cdv, F⟩ := D.d__law_edges_right
    exact F.cal (ps := ["_law_state"]) (hm _ (by decide +kernel)) (fun _ _ _ _ _ us hl => match us, hl with | [_], _ => rfl) (ok__law_edges_right G hA hL F.tx) runF_len
  · obtain ⟨fd, cdv, F⟩ := D.d_law
    exact F.cal (ps := ["_law_script"]) (hm _ (by decide +kernel)) (fun _ _ _ _ _ us hl => match us, hl with | [_], _ => rfl) (ok_law G hA hL F.tx (mk cdv fd F)) runF_len
theorem oks_lev (D : Fds K) (G : Gs K mg) (hm : ∀ x ∈ glos, mg x = some (.ref (He.ga K x))) (mk : ∀ cdv fd, FDx K "law" st_law fd cdv → MkOf base mg T "law" cdv) : ∀ n, Oks P w K mg T base (n + 2) (lev n).1 ∧ Oks P w K mg T base (n + 1) (lev n).2.1 ∧ Oks P w K mg T base n (lev n).2.2
  | 0 => ⟨oks_zero D hm, oks_zero D hm, oks_zero D hm⟩
  | n + 1 => have ih := oks_lev D G hm mk n
    ⟨oks_step D G hm mk ih.1 ih.2.2, ih.1, ih.2.1⟩
theorem gs_of (X : K.In h) (N : h.Ns mainGlobals mg) (D : Fds K) (e : exF K = true) : Gs K mg := by
  unfold exF at e
  obtain ⟨e0, e⟩ := bb e
  obtain ⟨e1, e⟩ := bb e
  obtain ⟨e2, e⟩ := bb e
  obtain ⟨e3, e⟩ := bb e
  obtain ⟨e4, e⟩ := bb e
  obtain ⟨e5, e⟩ := bb e
  obtain ⟨e6, e⟩ := bb e
  obtain ⟨e7, e⟩ := bb e
  obtain ⟨e8, e⟩ := bb e
  have e9 := e
  constructor
  · exact free_at X N e1 (by decide +kernel)
  · exact free_at X N e1 (by decide +kernel)
  · exact free_at X N e1 (by decide +kernel)
  · exact free_at X N e1 (by decide +kernel)
  · exact free_at X N e1 (by decide +kernel)
  · exact free_at X N e1 (by decide +kernel)
  · exact free_at X N e1 (by decide +kernel)
  · exact free_at X N e1 (by decide +kernel)
  · exact free_at X N e1 (by decide +kernel)
  · exact free_at X N e1 (by decide +kernel)
  · exact free_at X N e1 (by decide +kernel)
  · exact free_at X N e1 (by decide +kernel)
  · exact free_at X N e1 (by decide +kernel)
  · exact free_at X N e1 (by decide +kernel)
  · exact cst_of X N e6
  · exact cst_of X N e7
  · exact cst_of X N e8
  · exact cst_of X N e9
  · exact ⟨_, glo_at X N e0 (by decide +kernel)⟩
  · exact ⟨_, glo_at X N e0 (by decide +kernel)⟩
  · exact excS_of X N e0 (by decide +kernel) e3
  · exact excS_of X N e0 (by decide +kernel) e4
  · obtain ⟨fd, cdv, F⟩ := D.d__law_caught
    exact caught_of X N e0 F (a := "_law_action") (r := "_law_found") (e := "error") (y := "HeadError") (by decide +kernel) (by decide +kernel) (by decide +kernel) e5 rfl (fun _ _ _ _ _ _ us hl => match us, hl with | [_], _ => rfl) (C8.fnScope_by (by decide +kernel)) (Or.inl rfl) (by decide +kernel) rfl rfl rfl (by decide +kernel) (by decide +kernel) (by decide +kernel) (by decide +kernel) (by decide +kernel) (by decide +kernel) (by decide +kernel) (by decide +kernel)
  · exact exs_of X N e0 (by decide +kernel) e2
end
end G

set_option linter.all false
set_option maxRecDepth 100000
set_option maxHeartbeats 4000000
namespace G
open PySem PySem.Spec PyProof.Rows L2 Q
abbrev NN : Nat := 229
/-- the plain law: what the law computes, of every script -/
def Plain : Prop := ∀ ns : List Int, ns.length ≤ 63 → (∀ z ∈ ns, Builtin.Int.intBits z ≤ 1048576) → ∃ S', (lev NN).1 43 [.ref 0] (S0 ns) = some (.ok (.bl true), S')
theorem law_at (pl : Plain) (l : PySem.W.OpenLaw) (w : World) (mg : Str → Option Value) (fa : Addr) (h : Heap) (Y : hk.says w h) (N : h.Ns mainGlobals mg) (hmg : mg "law" = some (.ref fa)) : ∃ K : PySem.W.Frag, K.In h ∧ LawG l w K (NN + 2) 63 "_law_script" mg fa h := by
  obtain ⟨K, X, c⟩ := Y
  have D : Fds K := fds_of c.t.d c.more
  have e0 := (bb (show (glosB K glos && _) = true from c.more)).1
  have hm : ∀ x ∈ glos, mg x = some (.ref (He.ga K x)) := fun x hx => glo_at X N e0 hx
  have G := gs_of (mg := mg) X N D c.more
  have ea : fa = He.ga K "law" := by
    rw [hm "law" (by decide +kernel)] at hmg
    exact (Value.ref.inj (Option.some.inj hmg)).symm
  subst ea
  obtain ⟨fd, cdv, F⟩ := D.d_law
  refine ⟨K, X, fd, [He.cT K ("law", none)], spF K mg [((He.cT K ("law", none)).2, lamQ "law")] 1 ((lev NN).1 43), ?_, ?_, ?_, fun s u => ?_, fun H a ns h1 h2 h3 h4 => ?_, fun base hK hN hT => ?_⟩
  · intro p hp
    obtain rfl := List.mem_singleton.mp hp
    exact c.empty _ (by exact List.mem_singleton.mpr rfl)
  · intro p hp
    obtain rfl := List.mem_singleton.mp hp
    exact c.out _ (by exact List.mem_singleton.mpr rfl)
  · intro p hp
    obtain rfl := List.mem_singleton.mp hp
    exact PySem.W.codeHd_of_K X (c.hd _ (by exact List.mem_singleton.mpr rfl))
  · obtain ⟨oc, od, kV, doc, pm, an, ct, osl, rfl, lk, hcd⟩ := F.ex
    exact .of_eq rfl
  · refine law_sp (fun p hp => ?_) h4 (pl ns h1 h2)
    obtain rfl := List.mem_singleton.mp hp
    exact LamX.TabS.nil (h3 _ (List.mem_singleton.mpr rfl))
  · have mk : ∀ cdv fd, FDx K "law" st_law fd cdv → MkOf base mg [((He.cT K ("law", none)).2, lamQ "law")] "law" cdv := fun cdv fd F => by
      obtain ⟨cc, rfl, ec⟩ := F.code
      have hT := hT _ (List.mem_singleton.mpr rfl)
      refine ⟨cc, _, rfl, ?_, List.mem_singleton.mpr rfl, fun p hp _ => ?_⟩
      · have e2 : (He.cT K ("law", none)).1 = cc := ec
        rw [e2] at hT
        exact hT
      · obtain rfl := List.mem_singleton.mp hp
        rfl
    have ok := oks_lev (P := l.prog) (w := w) (base := base) (T := [((He.cT K ("law", none)).2, lamQ "law")]) D G hm mk (NN - 1)
    exact (ok_law G ok.1 ok.2.2 F.tx (mk cdv fd F))
end G
open PySem PySem.W PySem.Calls PyProof.Rows in
theorem G.holds (pl : G.Plain) : PySem.Challenge.rw_oneuseheads_k71_box_machines_judged_and.Holds := by
  w_on; o_law
  refine HandSHeadRun.head_any (r := G.R) (q := view G.R.prog [56]) (H := G.hk) (ob := G.ob) (M := 20000) (loose := G.names) (d := HandSHeadRun.topDef G.R.prog 56) (kwd := []) G.ob_eq
    (by kernel_rfl) (fun s => by kernel_rfl) G.run (by kernel_rfl) (by kernel_rfl) (by kernel_rfl) (by rfl) (by first | assumption | decide +kernel) (by decide +kernel) ⟨rfl, rfl, rfl, rfl, rfl, by decide +kernel⟩ ?hw ?hc
  case hw => w_witness2
  case hc =>
    refine Q.walk_g (l := PySem.Challenge.rw_oneuseheads_k71_box_machines_judged_and) (n := 63) (k := G.NN + 2) (x := "_law_script") rfl (by decide) (by kernel_rfl) ⟨rfl, by decide, by decide⟩ ?_
    intro w mg fa h Y N hmg
    have hmg : mg ("law" : PySem.Str) = some (.ref fa) := by
      have e : (HandSHeadRun.topDef G.R.prog 56).name = ("law" : PySem.Str) := by kernel_rfl
      rw [← e]
      exact hmg
    exact G.law_at pl _ w mg fa h Y N hmg
set_option linter.all false
set_option maxRecDepth 100000
set_option maxHeartbeats 4000000
namespace G
open PySem PySem.Spec PyProof.Rows L2 Q

theorem sz1 : (1 : Nat) ≤ sizeLine := by decide
abbrev bigT : Nat := 2 ^ 40
theorem cmulL {i j : Int} (h1 : -(2 ^ 64) < i) (h2 : i < 2 ^ 64) : CMul i j := .inl ⟨h1, h2⟩
theorem cmulR {i j : Int} (h1 : -(2 ^ 64) < j) (h2 : j < 2 ^ 64) : CMul i j := .inr ⟨h1, h2⟩
def primes : List Int := [2147483579, 2147483629, 2147483563]
theorem prime_of {i : Nat} {x : Vl} (h : (primes.map Vl.int)[i]? = some x) : ∃ p : Int, x = .int p ∧ 2147483563 ≤ p ∧ p ≤ 2147483629 := by
  rw [List.getElem?_map] at h
  cases e : primes[i]? with
  | none => rw [e] at h; cases h
  | some p =>
    rw [e] at h; cases h
    refine ⟨p, rfl, ?_⟩
    have := List.mem_of_getElem? e
    simp [primes] at this
    omega
theorem blended_w {n lo d g c T : Nat} {S : Sto} (s : St lo d g c T S) (hT : T < bigT) : wpe ((lev (n + 1)).1 20 [.ref d] S) noE fun r S' => ∃ i : Int, r = .int i ∧ St lo d g c (T + 1) S' ∧ Gr lo S S' ∧ S'.at_ g = S.at_ g := by
  obtain ⟨r0, t, hd, ht0, htT⟩ := s.d_
  have hT' : (t : Int) < 2 ^ 40 := by have : (T : Int) < 2 ^ 40 := by exact_mod_cast hT
                                      omega
  rw [lv__law_blended]
  refine w_run rfl ?_
  unfold b__law_blended
  simp only [w_lst, w_tup, s_aug, w_caught, w_slot, w_c, w_nil, w_cons, w_bin, w_bi, w_tst, w_not, w_and, w_or, w_ite, w_andV, w_orV, w_call, w_callK, w_met, w_ok, wo_some, wo_if, w_if, s_seq, s_if, s_ret, s_exp, s_skip, s_cont, s_break, s_raise, s_set, s_par, startE, List.map_cons, List.map_nil, List.length_cons, List.length_nil, List.replicate, List.cons_append, List.nil_append, List.getElem?_cons_zero, List.getElem?_cons_succ, List.set_cons_zero, List.set_cons_succ, Option.some.injEq, exists_eq_left', exists_eq_left, true_and, and_true, Nat.zero_le, List.zip_cons_cons, List.zip_nil_right, List.foldl_cons, List.foldl_nil, o_get hd get_turn, o_add, s_key, set_key hd, put_turn]
  have s1 : St lo d g c (T + 1) (S.set d (.dic false (stD g c r0 (t + 1)))) := s.setD (by omega) (by push_cast; omega)
  have g1 : Gr lo S (S.set d (.dic false (stD g c r0 (t + 1)))) := Gr.refl.set_low s.dl
  have k1 : (S.set d (.dic false (stD g c r0 (t + 1)))).at_ g = S.at_ g := set_ne (Ne.symm s.dg)
  refine s_for ?_
  simp only [w_it, w_lst, w_tup, s_aug, w_caught, w_slot, w_c, w_nil, w_cons, w_bin, w_bi, w_tst, w_not, w_and, w_or, w_ite, w_andV, w_orV, w_call, w_callK, w_met, w_ok, wo_some, wo_if, w_if, s_seq, s_if, s_ret, s_exp, s_skip, s_cont, s_break, s_raise, s_set, s_par, startE, List.map_cons, List.map_nil, List.length_cons, List.length_nil, List.replicate, List.cons_append, List.nil_append, List.getElem?_cons_zero, List.getElem?_cons_succ, List.set_cons_zero, List.set_cons_succ, Option.some.injEq, exists_eq_left', exists_eq_left, true_and, and_true, Nat.zero_le, List.zip_cons_cons, List.zip_nil_right, List.foldl_cons, List.foldl_nil]
  refine ⟨by decide, .inr (.inl ⟨_, _, rfl, getR_l push_same, primes.map Vl.int, fun i ρ S2 => ∃ (f : Int) (a b e : Option Vl), ρ = [some (.ref d), a, some (.int (t + 1)), some (.int f), b, e] ∧ St lo d g c (T + 1) S2 ∧ Gr lo S S2 ∧ S2.at_ g = S.at_ g ∧ Gr 0 ((S.set d (.dic false (stD g c r0 (t + 1)))).push (.lst [.int 2147483579, .int 2147483629, .int 2147483563])) S2,
    ⟨0, none, none, none, rfl, s1.gr Gr.push, g1.trans Gr.push, ?_, Gr.refl⟩, fun i ρ S2 _ ⟨_, _, _, _, _, _, _, _, gg⟩ => nxL_at (getR_l ((gg.at_ _ (Nat.zero_le _) (Nat.lt_succ_self _)).trans push_same)), ?_, ?_⟩)⟩
  · rw [push_lt (by show g < S.n; have := s.gl; have := s.ln; omega)]; exact k1
  · rintro i x ρ S2 hx ⟨f, a, b, e, rfl, s2, g2, k2, gg⟩
    obtain ⟨p, rfl, hp1, hp2⟩ := prime_of hx
    simp only [gNm, w_lst, w_tup, s_aug, w_caught, w_slot, w_c, w_nil, w_cons, w_bin, w_bi, w_tst, w_not, w_and, w_or, w_ite, w_andV, w_orV, w_call, w_callK, w_met, w_ok, wo_some, wo_if, w_if, s_seq, s_if, s_ret, s_exp, s_skip, s_cont, s_break, s_raise, s_set, s_par, startE, List.map_cons, List.map_nil, List.length_cons, List.length_nil, List.replicate, List.cons_append, List.nil_append, List.getElem?_cons_zero, List.getElem?_cons_succ, List.set_cons_zero, List.set_cons_succ, Option.some.injEq, exists_eq_left', exists_eq_left, true_and, and_true, Nat.zero_le, List.zip_cons_cons, List.zip_nil_right, List.foldl_cons, List.foldl_nil]
    rw [o_mul (cmulL (by decide) (by decide)), o_div ⟨by decide, by decide⟩]
    simp only [o_add]
    have hd2 := s2.d_
    obtain ⟨r2, t2, hd2, _, _⟩ := s2.d_
    obtain ⟨cs, hc2⟩ := s2.c_
    have hb0 : 0 ≤ 48271 * (t + 1) + p / 53 ∧ 48271 * (t + 1) + p / 53 < 2 ^ 60 := by
      have h1 : 0 ≤ p / 53 := Int.ediv_nonneg (by omega) (by decide)
      have h2 : p / 53 ≤ p := Int.ediv_le_self _ (by omega)
      constructor <;> omega
    refine s_for ?_
    simp only [w_it, w_lst, w_tup, s_aug, w_caught, w_slot, w_c, w_nil, w_cons, w_bin, w_bi, w_tst, w_not, w_and, w_or, w_ite, w_andV, w_orV, w_call, w_callK, w_met, w_ok, wo_some, wo_if, w_if, s_seq, s_if, s_ret, s_exp, s_skip, s_cont, s_break, s_raise, s_set, s_par, startE, List.map_cons, List.map_nil, List.length_cons, List.length_nil, List.replicate, List.cons_append, List.nil_append, List.getElem?_cons_zero, List.getElem?_cons_succ, List.set_cons_zero, List.set_cons_succ, Option.some.injEq, exists_eq_left', exists_eq_left, true_and, and_true, Nat.zero_le, List.zip_cons_cons, List.zip_nil_right, List.foldl_cons, List.foldl_nil, o_get hd2 get_cells]
    refine .inr (.inl ⟨_, _, rfl, getR_l hc2, cs.map Vl.int, fun i ρ S3 => ∃ (bl : Int) (e : Option Vl), ρ = [some (.ref d), some (.int p), some (.int (t + 1)), some (.int f), some (.int bl), e] ∧ S3 = S2 ∧ 0 ≤ bl ∧ bl < 2 ^ 60, ⟨_, e, rfl, rfl, hb0.1, hb0.2⟩, fun i ρ S3 _ ⟨_, _, _, z, _, _⟩ => by rw [z]; exact nxL_at (getR_l hc2), ?_, ?_⟩)
    · rintro j y ρ S3 hy ⟨bl, e, rfl, rfl, h1, h2⟩
      rw [List.getElem?_map] at hy
      cases ey : cs[j]? with
      | none => rw [ey] at hy; cases hy
      | some z =>
        rw [ey] at hy; cases hy
        simp only [gNm, w_lst, w_tup, s_aug, w_caught, w_slot, w_c, w_nil, w_cons, w_bin, w_bi, w_tst, w_not, w_and, w_or, w_ite, w_andV, w_orV, w_call, w_callK, w_met, w_ok, wo_some, wo_if, w_if, s_seq, s_if, s_ret, s_exp, s_skip, s_cont, s_break, s_raise, s_set, s_par, startE, List.map_cons, List.map_nil, List.length_cons, List.length_nil, List.replicate, List.cons_append, List.nil_append, List.getElem?_cons_zero, List.getElem?_cons_succ, List.set_cons_zero, List.set_cons_succ, Option.some.injEq, exists_eq_left', exists_eq_left, true_and, and_true, Nat.zero_le, List.zip_cons_cons, List.zip_nil_right, List.foldl_cons, List.foldl_nil]
        rw [o_mul (cmulR (by decide) (by decide))]
        simp only [o_add, o_int]
        rw [o_mod (by omega)]
        have h3 := Int.emod_nonneg (bl * 69621 + z + (t + 1)) (show p ≠ 0 by omega)
        have h4 := Int.emod_lt_of_pos (bl * 69621 + z + (t + 1)) (show 0 < p by omega)
        exact ⟨_, some (.int z), rfl, rfl, h3, by omega⟩
    · rintro ρ S3 ⟨bl, e, rfl, rfl, h1, h2⟩
      simp only [w_lst, w_tup, s_aug, w_caught, w_slot, w_c, w_nil, w_cons, w_bin, w_bi, w_tst, w_not, w_and, w_or, w_ite, w_andV, w_orV, w_call, w_callK, w_met, w_ok, wo_some, wo_if, w_if, s_seq, s_if, s_ret, s_exp, s_skip, s_cont, s_break, s_raise, s_set, s_par, startE, List.map_cons, List.map_nil, List.length_cons, List.length_nil, List.replicate, List.cons_append, List.nil_append, List.getElem?_cons_zero, List.getElem?_cons_succ, List.set_cons_zero, List.set_cons_succ, Option.some.injEq, exists_eq_left', exists_eq_left, true_and, and_true, Nat.zero_le, List.zip_cons_cons, List.zip_nil_right, List.foldl_cons, List.foldl_nil]
      rw [o_mul (cmulR (by decide) (by decide)), o_pow ⟨by decide, by decide, by omega⟩]
      simp only [o_int]
      rw [o_mod (by omega)]
      simp only [o_add]
      exact ⟨_, _, _, _, rfl, s2, g2, k2, gg⟩
  · rintro ρ S2 ⟨f, a, b, e, rfl, s2, g2, k2, _⟩
    simp only [w_lst, w_tup, s_aug, w_caught, w_slot, w_c, w_nil, w_cons, w_bin, w_bi, w_tst, w_not, w_and, w_or, w_ite, w_andV, w_orV, w_call, w_callK, w_met, w_ok, wo_some, wo_if, w_if, s_seq, s_if, s_ret, s_exp, s_skip, s_cont, s_break, s_raise, s_set, s_par, startE, List.map_cons, List.map_nil, List.length_cons, List.length_nil, List.replicate, List.cons_append, List.nil_append, List.getElem?_cons_zero, List.getElem?_cons_succ, List.set_cons_zero, List.set_cons_succ, Option.some.injEq, exists_eq_left', exists_eq_left, true_and, and_true, Nat.zero_le, List.zip_cons_cons, List.zip_nil_right, List.foldl_cons, List.foldl_nil]
    exact ⟨_, rfl, s2, g2, k2⟩
theorem draw_w {n lo d g c T : Nat} {S : Sto} {room : Int} (s : St lo d g c T S) (hT : T < bigT) (h1 : 0 < room) (h2 : room < 1073741824) :
    wpe ((lev (n + 2)).1 21 [.ref d, .int room] S) noE fun r S' => ∃ k : Nat, r = .int k ∧ (k : Int) < room ∧ St lo d g c (T + 1) S' ∧ Gr lo S S' := by
  obtain ⟨r0, t, hd, ht0, htT⟩ := s.d_
  rw [lv__law_draw]
  refine w_run rfl ?_
  unfold b__law_draw
  have tail : ∀ S1, St lo d g c (T + 1) S1 → Gr lo S S1 → wps (sSeq (sAsg (mBin bMod (mBi bInt (mCons (mBin bSub' (mSlot 0) (mC (.str "rest"))) mNil)) (mSlot 1)) (gNm 2))
    (sSeq (sAsg (mBin bDiv (mBin bSub' (mSlot 0) (mC (.str "rest"))) (mSlot 1)) (gSb (mSlot 0) (mC (.str "rest"))))
    (sRet (mSlot 2))) [some (.ref d), some (.int room), none] S1) ⟨fun _ S1 => ∃ k : Nat, Vl.non = .int k ∧ (k : Int) < room ∧ St lo d g c (T + 1) S1 ∧ Gr lo S S1, fun _ _ => False, fun _ _ => False, fun r S' => ∃ k : Nat, r = .int k ∧ (k : Int) < room ∧ St lo d g c (T + 1) S' ∧ Gr lo S S', noE⟩ := fun S1 s1 g1 => by
    obtain ⟨r1, t1, hd1, h3, h4⟩ := s1.d_
    simp only [w_lst, w_tup, s_aug, w_caught, w_slot, w_c, w_nil, w_cons, w_bin, w_bi, w_tst, w_not, w_and, w_or, w_ite, w_andV, w_orV, w_call, w_callK, w_met, w_ok, wo_some, wo_if, w_if, s_seq, s_if, s_ret, s_exp, s_skip, s_cont, s_break, s_raise, s_set, s_par, startE, List.map_cons, List.map_nil, List.length_cons, List.length_nil, List.replicate, List.cons_append, List.nil_append, List.getElem?_cons_zero, List.getElem?_cons_succ, List.set_cons_zero, List.set_cons_succ, Option.some.injEq, exists_eq_left', exists_eq_left, true_and, and_true, Nat.zero_le, List.zip_cons_cons, List.zip_nil_right, List.foldl_cons, List.foldl_nil, o_get hd1 get_rest, o_int]
    rw [o_mod h1]
    simp only [s_key, w_lst, w_tup, s_aug, w_caught, w_slot, w_c, w_nil, w_cons, w_bin, w_bi, w_tst, w_not, w_and, w_or, w_ite, w_andV, w_orV, w_call, w_callK, w_met, w_ok, wo_some, wo_if, w_if, s_seq, s_if, s_ret, s_exp, s_skip, s_cont, s_break, s_raise, s_set, s_par, startE, List.map_cons, List.map_nil, List.length_cons, List.length_nil, List.replicate, List.cons_append, List.nil_append, List.getElem?_cons_zero, List.getElem?_cons_succ, List.set_cons_zero, List.set_cons_succ, Option.some.injEq, exists_eq_left', exists_eq_left, true_and, and_true, Nat.zero_le, List.zip_cons_cons, List.zip_nil_right, List.foldl_cons, List.foldl_nil, o_get hd1 get_rest]
    rw [o_div ⟨h1, h2⟩]
    simp only [set_key hd1, put_rest]
    have q1 := Int.emod_nonneg r1 (show room ≠ 0 by omega)
    have q2 := Int.emod_lt_of_pos r1 h1
    exact ⟨(r1 % room).toNat, by rw [Int.toNat_of_nonneg q1], by rw [Int.toNat_of_nonneg q1]; exact q2, s1.setD h3 h4, g1.set_low s1.dl⟩
  rw [s_seq]
  simp only [w_lst, w_tup, s_aug, w_caught, w_slot, w_c, w_nil, w_cons, w_bin, w_bi, w_tst, w_not, w_and, w_or, w_ite, w_andV, w_orV, w_call, w_callK, w_met, w_ok, wo_some, wo_if, w_if, s_seq, s_if, s_ret, s_exp, s_skip, s_cont, s_break, s_raise, s_set, s_par, startE, List.map_cons, List.map_nil, List.length_cons, List.length_nil, List.replicate, List.cons_append, List.nil_append, List.getElem?_cons_zero, List.getElem?_cons_succ, List.set_cons_zero, List.set_cons_succ, Option.some.injEq, exists_eq_left', exists_eq_left, true_and, and_true, Nat.zero_le, List.zip_cons_cons, List.zip_nil_right, List.foldl_cons, List.foldl_nil, o_get hd get_rest, o_eqi]
  refine ⟨_, rfl, ?_⟩
  by_cases hz : (r0 == 0) = true
  · rw [hz]
    simp only [if_true, s_key, w_lst, w_tup, s_aug, w_caught, w_slot, w_c, w_nil, w_cons, w_bin, w_bi, w_tst, w_not, w_and, w_or, w_ite, w_andV, w_orV, w_call, w_callK, w_met, w_ok, wo_some, wo_if, w_if, s_seq, s_if, s_ret, s_exp, s_skip, s_cont, s_break, s_raise, s_set, s_par, startE, List.map_cons, List.map_nil, List.length_cons, List.length_nil, List.replicate, List.cons_append, List.nil_append, List.getElem?_cons_zero, List.getElem?_cons_succ, List.set_cons_zero, List.set_cons_succ, Option.some.injEq, exists_eq_left', exists_eq_left, true_and, and_true, Nat.zero_le, List.zip_cons_cons, List.zip_nil_right, List.foldl_cons, List.foldl_nil, o_get hd get_great]
    obtain ⟨gs, hg⟩ := s.g_
    have hgl : g < S.n := Nat.lt_of_lt_of_le s.gl s.ln
    rw [o_neNil (lo := 0) (xs := gs.map Vl.int) (by rw [push_lt hgl]; exact hg) dat_ints push_same]
    refine ⟨_, rfl, ?_⟩
    have sp : St lo d g c T (S.push (.lst [])) := s.gr Gr.push
    have hdp : (S.push (.lst [])).at_ d = .dic false (stD g c r0 t) := (push_lt (Nat.lt_of_lt_of_le s.dl s.ln)).trans hd
    have hgp : (S.push (.lst [])).at_ g = .lst (gs.map Vl.int) := (push_lt hgl).trans hg
    cases gs with
    | nil =>
      simp only [List.map_nil, List.isEmpty_nil, Bool.not_true, Bool.false_eq_true, if_false]
      refine wpe_mono (blended_w sp hT) ?_ (fun _ _ _ _ z => z.elim)
      rintro _ S1 ⟨i, rfl, s1, g1, _⟩
      obtain ⟨r1, t1, hd1, h3, h4⟩ := s1.d_
      simp only [set_key hd1, put_rest]
      have z := tail _ (s1.setD (r := i) h3 h4) ((Gr.push.trans g1).set_low s1.dl)
      simp only [w_lst, w_tup, s_aug, w_caught, w_slot, w_c, w_nil, w_cons, w_bin, w_bi, w_tst, w_not, w_and, w_or, w_ite, w_andV, w_orV, w_call, w_callK, w_met, w_ok, wo_some, wo_if, w_if, s_seq, s_if, s_ret, s_exp, s_skip, s_cont, s_break, s_raise, s_set, s_par, startE, List.map_cons, List.map_nil, List.length_cons, List.length_nil, List.replicate, List.cons_append, List.nil_append, List.getElem?_cons_zero, List.getElem?_cons_succ, List.set_cons_zero, List.set_cons_succ, Option.some.injEq, exists_eq_left', exists_eq_left, true_and, and_true, Nat.zero_le, List.zip_cons_cons, List.zip_nil_right, List.foldl_cons, List.foldl_nil, s_key] at z
      exact z
    | cons x xs =>
      simp only [List.map_cons, List.isEmpty_cons, Bool.not_false, if_true, o_get hdp get_great, o_tyl hgp, true_and]
      rw [o_pop0 hgp]
      have s1 := sp.setG (gs := xs)
      obtain ⟨r1, t1, hd1, h3, h4⟩ := s1.d_
      simp only [set_key hd1, put_rest]
      have z := tail _ (s1.setD (r := x) h3 (by omega)) ((Gr.push.set_low s.gl).set_low s.dl)
      simp only [w_lst, w_tup, s_aug, w_caught, w_slot, w_c, w_nil, w_cons, w_bin, w_bi, w_tst, w_not, w_and, w_or, w_ite, w_andV, w_orV, w_call, w_callK, w_met, w_ok, wo_some, wo_if, w_if, s_seq, s_if, s_ret, s_exp, s_skip, s_cont, s_break, s_raise, s_set, s_par, startE, List.map_cons, List.map_nil, List.length_cons, List.length_nil, List.replicate, List.cons_append, List.nil_append, List.getElem?_cons_zero, List.getElem?_cons_succ, List.set_cons_zero, List.set_cons_succ, Option.some.injEq, exists_eq_left', exists_eq_left, true_and, and_true, Nat.zero_le, List.zip_cons_cons, List.zip_nil_right, List.foldl_cons, List.foldl_nil, s_key] at z
      exact z
  · rw [Bool.not_eq_true] at hz
    rw [hz]
    simp only [Bool.false_eq_true, if_false]
    have z := tail S (s.mono (Nat.le_succ _)) Gr.refl
    simp only [w_lst, w_tup, s_aug, w_caught, w_slot, w_c, w_nil, w_cons, w_bin, w_bi, w_tst, w_not, w_and, w_or, w_ite, w_andV, w_orV, w_call, w_callK, w_met, w_ok, wo_some, wo_if, w_if, s_seq, s_if, s_ret, s_exp, s_skip, s_cont, s_break, s_raise, s_set, s_par, startE, List.map_cons, List.map_nil, List.length_cons, List.length_nil, List.replicate, List.cons_append, List.nil_append, List.getElem?_cons_zero, List.getElem?_cons_succ, List.set_cons_zero, List.set_cons_succ, Option.some.injEq, exists_eq_left', exists_eq_left, true_and, and_true, Nat.zero_le, List.zip_cons_cons, List.zip_nil_right, List.foldl_cons, List.foldl_nil, s_key, o_get hd get_rest] at z ⊢
    exact z
/-! ### picks, kinds drawn -/
theorem pick_w {n lo d g c T : Nat} {S : Sto} {r : Nat} {xs : List Vl} (s : St lo d g c T S) (hT : T < bigT) (hr : S.at_ r = .lst xs) (hl : lo ≤ r) (hn : r < S.n) (h1 : xs ≠ []) (h2 : xs.length < 1000000) :
    wpe ((lev (n + 3)).1 22 [.ref d, .ref r] S) noE fun v S' => v ∈ xs ∧ St lo d g c (T + 1) S' ∧ Gr lo S S' := by
  rw [lv__law_pick]
  refine w_run rfl ?_
  unfold b__law_pick
  simp only [w_lst, w_tup, s_aug, w_caught, w_slot, w_c, w_nil, w_cons, w_bin, w_bi, w_tst, w_not, w_and, w_or, w_ite, w_andV, w_orV, w_call, w_callK, w_met, w_ok, wo_some, wo_if, w_if, s_seq, s_if, s_ret, s_exp, s_skip, s_cont, s_break, s_raise, s_set, s_par, startE, List.map_cons, List.map_nil, List.length_cons, List.length_nil, List.replicate, List.cons_append, List.nil_append, List.getElem?_cons_zero, List.getElem?_cons_succ, List.set_cons_zero, List.set_cons_succ, Option.some.injEq, exists_eq_left', exists_eq_left, true_and, and_true, Nat.zero_le, List.zip_cons_cons, List.zip_nil_right, List.foldl_cons, List.foldl_nil, o_lenl hr]
  have hpos : 0 < xs.length := List.length_pos_iff.mpr h1
  refine wpe_mono (draw_w s hT (by omega) (by omega)) ?_ (fun _ _ _ _ z => z.elim)
  rintro _ S1 ⟨k, rfl, hk, s1, g1⟩
  have hr1 : S1.at_ r = .lst xs := (g1.at_ _ hl hn).trans hr
  have hk : k < xs.length := by exact_mod_cast hk
  rw [o_atl (getR_l hr1) (List.getElem?_eq_getElem hk) (by omega) (by unfold getD; rw [hr1])]
  exact ⟨List.getElem_mem _, s1, g1⟩
theorem is_truth_w {n : Nat} {S : Sto} {a b : Bool} : wpe ((lev (n + 1)).1 24 [.bl a, .bl b] S) noE fun r S' => r = .bl (decide (a = b)) ∧ S' = S := by
  rw [lv__law_is_truth]
  refine w_run rfl ?_
  unfold b__law_is_truth
  simp only [w_lst, w_tup, s_aug, w_caught, w_slot, w_c, w_nil, w_cons, w_bin, w_bi, w_tst, w_not, w_and, w_or, w_ite, w_andV, w_orV, w_call, w_callK, w_met, w_ok, wo_some, wo_if, w_if, s_seq, s_if, s_ret, s_exp, s_skip, s_cont, s_break, s_raise, s_set, s_par, startE, List.map_cons, List.map_nil, List.length_cons, List.length_nil, List.replicate, List.cons_append, List.nil_append, List.getElem?_cons_zero, List.getElem?_cons_succ, List.set_cons_zero, List.set_cons_succ, Option.some.injEq, exists_eq_left', exists_eq_left, true_and, and_true, Nat.zero_le, List.zip_cons_cons, List.zip_nil_right, List.foldl_cons, List.foldl_nil]
  refine ⟨_, rfl, ?_⟩
  cases a <;> cases b <;> simp [o_isbl]
theorem begun_w {n : Nat} {ns : List Int} (hl : ns.length ≤ 63) : wpe ((lev (n + 1)).1 19 [.ref 0] (S0 ns)) noE fun r S' => r = .ref 2 ∧ St 4 2 1 3 0 S' ∧ S'.at_ 0 = .ro (ns.map Vl.int) := by
  rw [lv__law_begun]
  refine w_run rfl ?_
  unfold b__law_begun
  simp only [w_lst, w_tup, s_aug, w_caught, w_slot, w_c, w_nil, w_cons, w_bin, w_bi, w_tst, w_not, w_and, w_or, w_ite, w_andV, w_orV, w_call, w_callK, w_met, w_ok, wo_some, wo_if, w_if, s_seq, s_if, s_ret, s_exp, s_skip, s_cont, s_break, s_raise, s_set, s_par, startE, List.map_cons, List.map_nil, List.length_cons, List.length_nil, List.replicate, List.cons_append, List.nil_append, List.getElem?_cons_zero, List.getElem?_cons_succ, List.set_cons_zero, List.set_cons_succ, Option.some.injEq, exists_eq_left', exists_eq_left, true_and, and_true, Nat.zero_le, List.zip_cons_cons, List.zip_nil_right, List.foldl_cons, List.foldl_nil]
  refine w_lc ?_
  simp only [w_it, w_lst, w_tup, s_aug, w_caught, w_slot, w_c, w_nil, w_cons, w_bin, w_bi, w_tst, w_not, w_and, w_or, w_ite, w_andV, w_orV, w_call, w_callK, w_met, w_ok, wo_some, wo_if, w_if, s_seq, s_if, s_ret, s_exp, s_skip, s_cont, s_break, s_raise, s_set, s_par, startE, List.map_cons, List.map_nil, List.length_cons, List.length_nil, List.replicate, List.cons_append, List.nil_append, List.getElem?_cons_zero, List.getElem?_cons_succ, List.set_cons_zero, List.set_cons_succ, Option.some.injEq, exists_eq_left', exists_eq_left, true_and, and_true, Nat.zero_le, List.zip_cons_cons, List.zip_nil_right, List.foldl_cons, List.foldl_nil]
  refine .inr (.inl ⟨0, ns.map Vl.int, rfl, rfl, ns.map Vl.int, fun i acc S2 => (∃ gs : List Int, acc = gs.map Vl.int ∧ gs.length ≤ i) ∧ S2.at_ 1 = .lst acc ∧ S2.n = 2 ∧ S2.at_ 0 = .ro (ns.map Vl.int), ⟨⟨[], rfl, Nat.le_refl _⟩, push_same, rfl, rfl⟩, fun i acc S2 _ h => nxL_at (getR_r h.2.2.2), ?_, ?_⟩)
  · rintro i x acc S2 hx ⟨⟨gs, rfl, hg⟩, h1, h2, h3⟩
    have hi : i < ns.length := by
      rw [List.getElem?_eq_some_iff] at hx; simpa using hx.1
    rw [List.getElem?_map, List.getElem?_eq_getElem hi] at hx
    cases hx
    refine ⟨_, rfl, ?_⟩
    simp only [w_lst, w_tup, s_aug, w_caught, w_slot, w_c, w_nil, w_cons, w_bin, w_bi, w_tst, w_not, w_and, w_or, w_ite, w_andV, w_orV, w_call, w_callK, w_met, w_ok, wo_some, wo_if, w_if, s_seq, s_if, s_ret, s_exp, s_skip, s_cont, s_break, s_raise, s_set, s_par, startE, List.map_cons, List.map_nil, List.length_cons, List.length_nil, List.replicate, List.cons_append, List.nil_append, List.getElem?_cons_zero, List.getElem?_cons_succ, List.set_cons_zero, List.set_cons_succ, Option.some.injEq, exists_eq_left', exists_eq_left, true_and, and_true, Nat.zero_le, List.zip_cons_cons, List.zip_nil_right, List.foldl_cons, List.foldl_nil, wipeE, o_abs]
    rw [o_pow ⟨by decide, by decide, by decide⟩]
    simp only [o_ge]
    refine ⟨_, rfl, ?_⟩
    by_cases hc : (10 : Int) ^ (18 : Int).toNat ≤ (if ns[i] < 0 then -ns[i] else ns[i])
    · rw [decide_eq_true hc]
      simp only [if_true]
      rw [o_pow ⟨by decide, by decide, by decide⟩]
      simp only [o_sub]
      refine ⟨h1, ?_, ⟨gs ++ [_], by rw [List.map_append]; rfl, by rw [List.length_append]; simp only [List.length_cons, List.length_nil]; omega⟩, set_same, h2, (set_ne (by show (0 : Nat) ≠ 1; decide)).trans h3⟩
      rw [List.length_map, show sizeLine = 16777216 from rfl]; omega
    · rw [decide_eq_false hc]
      simp only [Bool.false_eq_true, if_false]
      exact ⟨⟨gs, rfl, by omega⟩, h1, h2, h3⟩
  · rintro acc S2 ⟨⟨gs, rfl, hg⟩, h1, h2, h3⟩
    refine w_disp ?_
    simp only [w_pairs, w_pairs0, w_lst, w_tup, s_aug, w_caught, w_slot, w_c, w_nil, w_cons, w_bin, w_bi, w_tst, w_not, w_and, w_or, w_ite, w_andV, w_orV, w_call, w_callK, w_met, w_ok, wo_some, wo_if, w_if, s_seq, s_if, s_ret, s_exp, s_skip, s_cont, s_break, s_raise, s_set, s_par, startE, List.map_cons, List.map_nil, List.length_cons, List.length_nil, List.replicate, List.cons_append, List.nil_append, List.getElem?_cons_zero, List.getElem?_cons_succ, List.set_cons_zero, List.set_cons_succ, Option.some.injEq, exists_eq_left', exists_eq_left, true_and, and_true, Nat.zero_le, List.zip_cons_cons, List.zip_nil_right, List.foldl_cons, List.foldl_nil]
    refine w_lcmap ?_
    simp only [w_it, w_lst, w_tup, s_aug, w_caught, w_slot, w_c, w_nil, w_cons, w_bin, w_bi, w_tst, w_not, w_and, w_or, w_ite, w_andV, w_orV, w_call, w_callK, w_met, w_ok, wo_some, wo_if, w_if, s_seq, s_if, s_ret, s_exp, s_skip, s_cont, s_break, s_raise, s_set, s_par, startE, List.map_cons, List.map_nil, List.length_cons, List.length_nil, List.replicate, List.cons_append, List.nil_append, List.getElem?_cons_zero, List.getElem?_cons_succ, List.set_cons_zero, List.set_cons_succ, Option.some.injEq, exists_eq_left', exists_eq_left, true_and, and_true, Nat.zero_le, List.zip_cons_cons, List.zip_nil_right, List.foldl_cons, List.foldl_nil]
    have hn : (S2.push (.dic false [])).n = 3 := by show S2.n + 1 = 3; omega
    have a0 : (S2.push (.dic false [])).at_ 0 = .ro (ns.map Vl.int) := (push_lt (by omega)).trans h3
    refine .inr (.inl ⟨0, ns.map Vl.int, rfl, getR_r a0, ns.map Vl.int, ns.map fun z => .int (if z < 0 then -z else z), by rw [List.length_map, List.length_map], by rw [List.length_map]; omega, fun i S3 _ g => nxL_at (getR_r ((g.at_ 0 (Nat.zero_le _) (by omega)).trans a0)), ?_, ?_⟩)
    · rintro i x y S3 hx hy g
      rw [List.getElem?_map] at hx hy
      cases e : ns[i]? with
      | none => rw [e] at hx; cases hx
      | some z =>
        rw [e] at hx hy; cases hx; cases hy
        refine ⟨_, rfl, ?_⟩
        simp only [w_true, true_and, w_lst, w_tup, s_aug, w_caught, w_slot, w_c, w_nil, w_cons, w_bin, w_bi, w_tst, w_not, w_and, w_or, w_ite, w_andV, w_orV, w_call, w_callK, w_met, w_ok, wo_some, wo_if, w_if, s_seq, s_if, s_ret, s_exp, s_skip, s_cont, s_break, s_raise, s_set, s_par, startE, List.map_cons, List.map_nil, List.length_cons, List.length_nil, List.replicate, List.cons_append, List.nil_append, List.getElem?_cons_zero, List.getElem?_cons_succ, List.set_cons_zero, List.set_cons_succ, Option.some.injEq, exists_eq_left', exists_eq_left, true_and, and_true, Nat.zero_le, List.zip_cons_cons, List.zip_nil_right, List.foldl_cons, List.foldl_nil, wipeE, o_abs]
        first | exact ⟨Gr.refl, Gr.refl⟩ | exact Gr.refl
    · intro S3 g hn3 hs3
      have hdd : (S2.push (.dic false [])).at_ S2.n = .dic false [] := push_same
      have e1 : S3.at_ S2.n = .dic false [] := (g.at_ _ (Nat.zero_le _) (Nat.lt_succ_self _)).trans hdd
      refine ⟨e1, by decide, rfl, ?_, ?_, ?_⟩
      · rw [h2]
      · rw [stD_merge, h2, hn]
        rw [hn] at hs3 hn3
        have g1 : S3.at_ 1 = .lst (gs.map Vl.int) := (g.at_ 1 (Nat.zero_le _) (by omega)).trans ((push_lt (by omega)).trans h1)
        exact ⟨⟨0, 0, set_same, by decide, by decide⟩, ⟨gs, (set_ne (by decide)).trans g1⟩, ⟨ns.map fun z => if z < 0 then -z else z, by rw [set_ne (by decide), hs3, List.map_map]; rfl⟩, by decide, by decide, by decide, by decide, by decide, by decide, by show 4 ≤ S3.n; omega⟩
      · rw [h2, set_ne (by decide)]
        exact (g.at_ 0 (Nat.zero_le _) (by omega)).trans a0
theorem s_cut {a b : MS} {ρ : En} {S : Sto} {D : End_} (Mid : En → Sto → Prop) (h1 : wps (a ρ S) ⟨Mid, D.bk, D.ct, D.rt, D.ex⟩) (h2 : ∀ ρ1 S1, Mid ρ1 S1 → wps (b ρ1 S1) D) : wps (sSeq a b ρ S) D := by
  rw [s_seq]
  exact wps_mono h1 h2 (fun _ _ z => z) (fun _ _ z => z) (fun _ _ z => z) (fun _ _ _ _ z => z)
/-! ### parts and places -/
def atP : Vl → List Nat → Option Vl
  | v, [] => some v
  | .tup xs, i :: q => match xs[i]? with | some x => atP x q | none => none
  | _, _ :: _ => none
def pv (q : List Nat) : Vl := .tup (q.map fun (i : Nat) => Vl.int (i : Int))
theorem atP_len {xs : List Vl} {i : Nat} {q : List Nat} {w : Vl} (h : atP (.tup xs) (i :: q) = some w) : ∃ x, xs[i]? = some x ∧ atP x q = some w := by
  unfold atP at h
  cases e : xs[i]? with
  | none => rw [e] at h; cases h
  | some x => rw [e] at h; exact ⟨x, rfl, h⟩
theorem at_w {n : Nat} {S : Sto} {v w : Vl} {q : List Nat} (h : atP v q = some w) (hq : ∀ i ∈ q, i < 1000) : wpe ((lev (n + 1)).1 26 [v, pv q] S) noE fun r S' => r = w ∧ S' = S := by
  rw [lv__law_oh_at]
  refine w_run rfl ?_
  unfold b__law_oh_at
  simp only [w_lst, w_tup, s_aug, w_caught, w_slot, w_c, w_nil, w_cons, w_bin, w_bi, w_tst, w_not, w_and, w_or, w_ite, w_andV, w_orV, w_call, w_callK, w_met, w_ok, wo_some, wo_if, w_if, s_seq, s_if, s_ret, s_exp, s_skip, s_cont, s_break, s_raise, s_set, s_par, startE, List.map_cons, List.map_nil, List.length_cons, List.length_nil, List.replicate, List.cons_append, List.nil_append, List.getElem?_cons_zero, List.getElem?_cons_succ, List.set_cons_zero, List.set_cons_succ, Option.some.injEq, exists_eq_left', exists_eq_left, true_and, and_true, Nat.zero_le, List.zip_cons_cons, List.zip_nil_right, List.foldl_cons, List.foldl_nil]
  refine s_for ?_
  simp only [w_it, w_lst, w_tup, s_aug, w_caught, w_slot, w_c, w_nil, w_cons, w_bin, w_bi, w_tst, w_not, w_and, w_or, w_ite, w_andV, w_orV, w_call, w_callK, w_met, w_ok, wo_some, wo_if, w_if, s_seq, s_if, s_ret, s_exp, s_skip, s_cont, s_break, s_raise, s_set, s_par, startE, List.map_cons, List.map_nil, List.length_cons, List.length_nil, List.replicate, List.cons_append, List.nil_append, List.getElem?_cons_zero, List.getElem?_cons_succ, List.set_cons_zero, List.set_cons_succ, Option.some.injEq, exists_eq_left', exists_eq_left, true_and, and_true, Nat.zero_le, List.zip_cons_cons, List.zip_nil_right, List.foldl_cons, List.foldl_nil]
  refine .inl ⟨_, rfl, q.map fun (i : Nat) => Vl.int (i : Int), fun i ρ S2 => ∃ (u : Vl) (e : Option Vl), ρ = [some u, some (pv q), e] ∧ atP u (q.drop i) = some w ∧ S2 = S, ⟨v, none, rfl, h, rfl⟩, fun i ρ S2 _ _ => rfl, ?_, ?_⟩
  · rintro i x ρ S2 hx ⟨u, e, rfl, hu, rfl⟩
    rw [List.getElem?_map] at hx
    cases ek : q[i]? with
    | none => rw [ek] at hx; cases hx
    | some k =>
      rw [ek] at hx; cases hx
      have hi : i < q.length := by rw [List.getElem?_eq_some_iff] at ek; exact ek.1
      have ed : q.drop i = k :: q.drop (i + 1) := by
        rw [List.drop_eq_getElem_cons hi]
        rw [List.getElem?_eq_getElem hi] at ek
        rw [Option.some.inj ek]
      rw [ed] at hu
      cases u with
      | tup xs =>
        obtain ⟨x, hx, hu⟩ := atP_len hu
        have hk := hq k (List.mem_of_getElem? ek)
        simp only [gNm, w_lst, w_tup, s_aug, w_caught, w_slot, w_c, w_nil, w_cons, w_bin, w_bi, w_tst, w_not, w_and, w_or, w_ite, w_andV, w_orV, w_call, w_callK, w_met, w_ok, wo_some, wo_if, w_if, s_seq, s_if, s_ret, s_exp, s_skip, s_cont, s_break, s_raise, s_set, s_par, startE, List.map_cons, List.map_nil, List.length_cons, List.length_nil, List.replicate, List.cons_append, List.nil_append, List.getElem?_cons_zero, List.getElem?_cons_succ, List.set_cons_zero, List.set_cons_succ, Option.some.injEq, exists_eq_left', exists_eq_left, true_and, and_true, Nat.zero_le, List.zip_cons_cons, List.zip_nil_right, List.foldl_cons, List.foldl_nil]
        rw [o_at hx (by omega)]
        exact ⟨x, some (.int k), rfl, hu, rfl⟩
      | _ => cases hu
  · rintro ρ S2 ⟨u, e, rfl, hu, rfl⟩
    rw [List.length_map, List.drop_length] at hu
    simp only [w_lst, w_tup, s_aug, w_caught, w_slot, w_c, w_nil, w_cons, w_bin, w_bi, w_tst, w_not, w_and, w_or, w_ite, w_andV, w_orV, w_call, w_callK, w_met, w_ok, wo_some, wo_if, w_if, s_seq, s_if, s_ret, s_exp, s_skip, s_cont, s_break, s_raise, s_set, s_par, startE, List.map_cons, List.map_nil, List.length_cons, List.length_nil, List.replicate, List.cons_append, List.nil_append, List.getElem?_cons_zero, List.getElem?_cons_succ, List.set_cons_zero, List.set_cons_succ, Option.some.injEq, exists_eq_left', exists_eq_left, true_and, and_true, Nat.zero_le, List.zip_cons_cons, List.zip_nil_right, List.foldl_cons, List.foldl_nil]
    exact (Option.some.inj hu)
theorem dat_pv {lo k : Nat} {S : Sto} (q : List Nat) : ∃ d, Dat lo S k (pv q) d := by
  obtain ⟨ds, h⟩ := datAll_of (lo := lo) (S := S) (k := k) (xs := q.map fun (i : Nat) => Vl.int (i : Int)) fun x hx => by
    obtain ⟨i, _, rfl⟩ := List.mem_map.mp hx
    exact ⟨_, .int i⟩
  exact ⟨_, .tup h⟩
theorem cut_take {α : Type} {xs : List α} {i : Nat} (h : i ≤ xs.length) : cutL xs none (some (i : Int)) = xs.take i := by
  unfold cutL
  rw [HT.sIx_none, HT.sIx_nat, Nat.min_eq_left h, List.drop_zero, Nat.sub_zero]
theorem cut_drop {α : Type} {xs : List α} {i : Nat} (h : i ≤ xs.length) : cutL xs (some (i : Int)) none = xs.drop i := by
  unfold cutL
  rw [HT.sIx_none, HT.sIx_nat, Nat.min_eq_left h, List.take_of_length_le (by rw [List.length_drop]; omega)]
theorem dat_tup {lo k : Nat} {S : Sto} {xs : List Vl} (h : ∀ x ∈ xs, ∃ d, Dat lo S k x d) : ∃ d, Dat lo S k (.tup xs) d := let ⟨ds, q⟩ := datAll_of h; ⟨_, .tup q⟩
theorem dat_mem {lo k : Nat} {S : Sto} {xs : List Vl} (h : ∃ d, Dat lo S k (.tup xs) d) : ∀ x ∈ xs, ∃ d, Dat lo S k x d := by
  obtain ⟨d, h⟩ := h
  cases h with
  | tup h => exact h.mem
theorem o_mull {S : Sto} {n : Nat} {xs : List Vl} {Z : Vl → Sto → Prop} (h : S.at_ n = .lst xs) : wpo (bMul (.ref n) (.int 2) S) Z = (xs.length * 2 ≤ sizeLine ∧ Z (.ref S.n) (S.push (.lst (xs ++ xs)))) := by
  have e : (List.replicate 2 xs).flatten = xs ++ xs := by simp [List.replicate]
  by_cases hc : xs.length * 2 ≤ sizeLine
  · have hs : bMul (.ref n) (.int 2) S = some (.ref S.n, S.push (.lst (xs ++ xs))) := by
      simp only [bMul, h]
      rw [if_pos ⟨by decide, by decide, hc⟩]
      show some (Vl.ref S.n, S.push (.lst (List.replicate 2 xs).flatten)) = _
      rw [e]
    rw [hs]; exact propext ⟨fun z => ⟨hc, z⟩, fun z => z.2⟩
  · have hs : bMul (.ref n) (.int 2) S = none := by
      simp only [bMul, h]
      rw [if_neg (fun z => hc z.2.2)]
    rw [hs]; exact propext ⟨fun z => z.elim, fun z => (hc z.1).elim⟩
theorem o_upper {S : Sto} {z : Str} {Z : Vl → Sto → Prop} (h : z.length ≤ 5592405) : wpo (mtUpper (.str z) [] S) Z = Z (.str (Txt.upper z)) S := by
  simp only [mtUpper, if_pos h]; rfl
theorem o_sls {S : Sto} {z : Str} {lo hi : Option Int} {Z : Vl → Sto → Prop} (h : z.length ≤ sizeLine) : wpo (bSl (.str z) lo hi S) Z = Z (.str (cutS z lo hi)) S := by
  simp only [bSl, if_pos h]; rfl
theorem cutL_mem {α : Type} {xs : List α} {lo hi : Option Int} {x : α} (h : x ∈ cutL xs lo hi) : x ∈ xs := by
  unfold cutL at h
  first
  | exact List.mem_of_mem_drop (List.mem_of_mem_take h)
  | exact List.mem_of_mem_take (List.mem_of_mem_drop h)
theorem cutL_len {α : Type} (xs : List α) (lo hi : Option Int) : (cutL xs lo hi).length ≤ xs.length := by
  unfold cutL; simp only [List.length_take, List.length_drop]; omega
theorem six {P : Vl → Prop} {a b c d e f : Vl} (h1 : P a) (h2 : P b) (h3 : P c) (h4 : P d) (h5 : P e) (h6 : P f) : ∀ x ∈ [a, b, c, d, e, f], P x := by
  intro x hx
  simp only [List.mem_cons, List.not_mem_nil, or_false] at hx
  rcases hx with rfl | rfl | rfl | rfl | rfl | rfl <;> assumption
theorem six_up {P : Vl → Prop} {a b c d e f : Vl} (h : ∀ x ∈ [a, b, c, d, e, f], P x) : ∀ x ∈ [a, b, c, d, e, f] ++ [a, b, c, d, e, f], P x := fun x hx => h x (by rcases List.mem_append.mp hx with z | z <;> exact z)
end G

set_option linter.all false
set_option maxRecDepth 100000
set_option maxHeartbeats 4000000
namespace G
open PySem PySem.Spec PyProof.Rows L2 Q

/-! ### values without lists, small; one part exchanged -/
def okZ (z : Str) : Bool := z.cps.all (· < 0x110000)
/-- a text that may be bent -/
def upOk (z : Str) : Bool := decide (z.length ≤ 500) && okZ z && okZ (z ++ "a") && decide ((z ++ "a").length ≤ 1000) && okZ (cutS z (some 1) none) && decide ((cutS z (some 1) none).length ≤ 1000) && okZ (Txt.upper z) && decide ((Txt.upper z).length ≤ 1000)
/-- so deep: small ints, small texts, small tuples of such -/
def Pl : Nat → Vl → Prop
  | _, .int i => 0 ≤ i ∧ i < 100
  | _, .str z => upOk z = true
  | k + 1, .tup xs => xs.length ≤ 30 ∧ ∀ x ∈ xs, Pl k x
  | _, _ => False
mutual
def nds : Vl → Nat
  | .tup xs => 1 + ndsL xs
  | _ => 1
def ndsL : List Vl → Nat
  | [] => 0
  | x :: xs => nds x + ndsL xs
end
mutual
/-- nothing long within -/
def bnd1 : Vl → Bool
  | .str z => decide (z.length ≤ 1000)
  | .tup xs => decide (xs.length ≤ 61) && bnd1s xs
  | _ => true
def bnd1s : List Vl → Bool
  | [] => true
  | x :: r => bnd1 x && bnd1s r
end
theorem bnd1s_iff : ∀ {xs : List Vl}, bnd1s xs = true ↔ ∀ x ∈ xs, bnd1 x = true
  | [] => by simp [bnd1s]
  | y :: r => by
    have ih := @bnd1s_iff r
    rw [show bnd1s (y :: r) = (bnd1 y && bnd1s r) by rw [bnd1s], Bool.and_eq_true, ih]
    simp
theorem bnd1_tup {xs : List Vl} : bnd1 (.tup xs) = true ↔ xs.length ≤ 61 ∧ ∀ x ∈ xs, bnd1 x = true := by
  rw [show bnd1 (.tup xs) = (decide (xs.length ≤ 61) && bnd1s xs) by rw [bnd1], Bool.and_eq_true, bnd1s_iff, decide_eq_true_iff]
theorem ndsL_take : ∀ (xs : List Vl) (i : Nat) (h : i < xs.length), ndsL (xs.take i) + nds xs[i] = ndsL (xs.take (i + 1))
  | x :: xs, 0, _ => by simp [ndsL]
  | x :: xs, i + 1, h => by
    have ih := ndsL_take xs i (by simpa using h)
    simp only [List.take_succ_cons, List.getElem_cons_succ, ndsL] at ih ⊢
    omega
theorem Pl.ty {k : Nat} {v : Vl} (h : Pl k v) : (∃ i, v = .int i ∧ 0 ≤ i ∧ i < 100) ∨ (∃ z, v = .str z ∧ upOk z = true) ∨ ∃ xs k', v = .tup xs ∧ k = k' + 1 ∧ xs.length ≤ 30 ∧ ∀ x ∈ xs, Pl k' x := by
  cases v with
  | int i => cases k <;> exact .inl ⟨i, rfl, h⟩
  | str z => cases k <;> exact .inr (.inl ⟨z, rfl, h⟩)
  | tup xs =>
    cases k with
    | zero => exact h.elim
    | succ k => exact .inr (.inr ⟨xs, k, rfl, rfl, h.1, h.2⟩)
  | _ => cases k <;> exact h.elim
theorem Pl.bnd {k : Nat} : ∀ {v : Vl}, Pl k v → bnd1 v = true := by
  induction k with
  | zero =>
    intro v h
    rcases h.ty with ⟨i, rfl, _⟩ | ⟨z, rfl, hz⟩ | ⟨xs, k', rfl, e, _⟩
    · rfl
    · rw [bnd1]; unfold upOk at hz; simp only [Bool.and_eq_true, decide_eq_true_eq] at hz; exact decide_eq_true (by omega)
    · cases e
  | succ k ih =>
    intro v h
    rcases h.ty with ⟨i, rfl, _⟩ | ⟨z, rfl, hz⟩ | ⟨xs, k', rfl, e, h1, h2⟩
    · rfl
    · rw [bnd1]; unfold upOk at hz; simp only [Bool.and_eq_true, decide_eq_true_eq] at hz; exact decide_eq_true (by omega)
    · cases e
      exact bnd1_tup.mpr ⟨by omega, fun x hx => ih (h2 x hx)⟩
theorem Pl.dat {k : Nat} {lo m : Nat} {S : Sto} : ∀ {v : Vl}, Pl k v → ∃ d, Dat lo S m v d := by
  induction k with
  | zero =>
    intro v h
    rcases h.ty with ⟨i, rfl, _⟩ | ⟨z, rfl, hz⟩ | ⟨xs, k', rfl, e, _⟩
    · exact ⟨_, .int i⟩
    · unfold upOk at hz; simp only [Bool.and_eq_true, decide_eq_true_eq] at hz; exact ⟨_, .str z hz.1.1.1.1.1.1.2⟩
    · cases e
  | succ k ih =>
    intro v h
    rcases h.ty with ⟨i, rfl, _⟩ | ⟨z, rfl, hz⟩ | ⟨xs, k', rfl, e, h1, h2⟩
    · exact ⟨_, .int i⟩
    · unfold upOk at hz; simp only [Bool.and_eq_true, decide_eq_true_eq] at hz; exact ⟨_, .str z hz.1.1.1.1.1.1.2⟩
    · cases e
      exact dat_tup fun x hx => ih (h2 x hx)
theorem Pl.tyN {k : Nat} {v : Vl} (h : Pl k v) : ∃ t, ∀ S, tyN S v = some t := by
  rcases h.ty with ⟨i, rfl, _⟩ | ⟨z, rfl, hz⟩ | ⟨xs, k', rfl, e, _⟩
  · exact ⟨"int", fun _ => rfl⟩
  · exact ⟨"str", fun _ => rfl⟩
  · exact ⟨"tuple", fun _ => rfl⟩
theorem Pl.at_ {k : Nat} : ∀ {q : List Nat} {v w : Vl}, Pl k v → atP v q = some w → (∃ k', Pl k' w) ∧ q.length ≤ k ∧ ∀ i ∈ q, i < 1000 := by
  induction k with
  | zero =>
    intro q v w h e
    cases q with
    | nil => rw [show atP v [] = some v by cases v <;> rfl] at e; cases e; exact ⟨⟨_, h⟩, Nat.le_refl _, by simp⟩
    | cons i q =>
      rcases h.ty with ⟨i, rfl, _⟩ | ⟨z, rfl, hz⟩ | ⟨xs, k', rfl, e2, _⟩
      · cases e
      · cases e
      · cases e2
  | succ k ih =>
    intro q v w h e
    cases q with
    | nil => rw [show atP v [] = some v by cases v <;> rfl] at e; cases e; exact ⟨⟨_, h⟩, Nat.zero_le _, by simp⟩
    | cons i q =>
      rcases h.ty with ⟨i, rfl, _⟩ | ⟨z, rfl, hz⟩ | ⟨xs, k', rfl, e2, h1, h2⟩
      · cases e
      · cases e
      · cases e2
        obtain ⟨x, hx, e⟩ := atP_len e
        obtain ⟨q1, q2, q3⟩ := ih (h2 x (List.mem_of_getElem? hx)) e
        refine ⟨q1, by simpa using q2, fun j hj => ?_⟩
        rcases List.mem_cons.mp hj with z | z
        · have := (List.getElem?_eq_some_iff.mp hx).1
          omega
        · exact q3 j z
theorem atP_nil (v : Vl) : atP v [] = some v := by cases v <;> rfl
/-- the places in v, told behind p -/
def Res (v : Vl) (p : List Nat) (B : Nat) (S : Sto) : Vl → Sto → Prop := fun r S' => ∃ (n : Nat) (rs : List (List Nat)), r = .ref n ∧ S'.at_ n = .lst ((p :: rs.map (p ++ ·)).map pv) ∧ S.n ≤ n ∧ n < S'.n ∧ Gr 0 S S' ∧ rs.length + 1 ≤ B ∧
  (∀ q ∈ rs, q ≠ [] ∧ ∃ w, atP v q = some w) ∧ (∀ x xs, v = .tup (x :: xs) → rs ≠ [])
theorem spots_leaf {m : Nat} {S : Sto} {v : Vl} {p : List Nat} (hv : ∃ t, ∀ S, tyN S v = some t) (ht : isTup v = false) : wpe ((lev (m + 1)).1 29 [v, pv p] S) noE (Res v p 1 S) := by
  obtain ⟨t, hv⟩ := hv
  rw [lv__law_oh_spots]
  refine w_run rfl ?_
  unfold b__law_oh_spots
  simp only [w_lst, w_tup, s_aug, w_caught, w_slot, w_c, w_nil, w_cons, w_bin, w_bi, w_tst, w_not, w_and, w_or, w_ite, w_andV, w_orV, w_call, w_callK, w_met, w_ok, wo_some, wo_if, w_if, s_seq, s_if, s_ret, s_exp, s_skip, s_cont, s_break, s_raise, s_set, s_par, startE, List.map_cons, List.map_nil, List.length_cons, List.length_nil, List.replicate, List.cons_append, List.nil_append, List.getElem?_cons_zero, List.getElem?_cons_succ, List.set_cons_zero, List.set_cons_succ, Option.some.injEq, exists_eq_left', exists_eq_left, true_and, and_true, Nat.zero_le, List.zip_cons_cons, List.zip_nil_right, List.foldl_cons, List.foldl_nil]
  refine ⟨sz1, ?_⟩
  refine s_for ?_
  have hv2 : tyN (S.push (.lst [pv p])) v = some t := hv _
  simp only [w_itR1, w_lst, w_tup, s_aug, w_caught, w_slot, w_c, w_nil, w_cons, w_bin, w_bi, w_tst, w_not, w_and, w_or, w_ite, w_andV, w_orV, w_call, w_callK, w_met, w_ok, wo_some, wo_if, w_if, s_seq, s_if, s_ret, s_exp, s_skip, s_cont, s_break, s_raise, s_set, s_par, startE, List.map_cons, List.map_nil, List.length_cons, List.length_nil, List.replicate, List.cons_append, List.nil_append, List.getElem?_cons_zero, List.getElem?_cons_succ, List.set_cons_zero, List.set_cons_succ, Option.some.injEq, exists_eq_left', exists_eq_left, true_and, and_true, Nat.zero_le, List.zip_cons_cons, List.zip_nil_right, List.foldl_cons, List.foldl_nil, o_isTup hv2]
  refine ⟨_, rfl, ?_⟩
  rw [ht]
  simp only [Bool.false_eq_true, if_false]
  refine ⟨0, rfl, by decide, by decide, [], fun i ρ S2 => ρ = [some v, some (pv p), some (.ref S.n), none] ∧ S2 = S.push (.lst [pv p]), ⟨rfl, rfl⟩, fun i ρ S2 hi _ => (by rw [show i = 0 from Nat.le_zero.mp hi]; rfl), fun i x ρ S2 hx _ => (by cases hx), ?_⟩
  rintro ρ S2 ⟨rfl, rfl⟩
  simp only [w_lst, w_tup, s_aug, w_caught, w_slot, w_c, w_nil, w_cons, w_bin, w_bi, w_tst, w_not, w_and, w_or, w_ite, w_andV, w_orV, w_call, w_callK, w_met, w_ok, wo_some, wo_if, w_if, s_seq, s_if, s_ret, s_exp, s_skip, s_cont, s_break, s_raise, s_set, s_par, startE, List.map_cons, List.map_nil, List.length_cons, List.length_nil, List.replicate, List.cons_append, List.nil_append, List.getElem?_cons_zero, List.getElem?_cons_succ, List.set_cons_zero, List.set_cons_succ, Option.some.injEq, exists_eq_left', exists_eq_left, true_and, and_true, Nat.zero_le, List.zip_cons_cons, List.zip_nil_right, List.foldl_cons, List.foldl_nil]
  refine ⟨S.n, [], rfl, push_same, Nat.le_refl _, Nat.lt_succ_self _, Gr.push, by decide, (fun q hq => absurd hq List.not_mem_nil), (fun x xs e => by rw [e] at ht; cases ht)⟩
theorem spots_tup {m B : Nat} {S : Sto} {v : Vl} {xs : List Vl} (hv : v = .tup xs) {p : List Nat} {b s : Nat → Nat} (h3 : xs.length ≤ 30) (hs : ∀ i, i < xs.length → s i + b i ≤ s (i + 1)) (hB : 1 + s xs.length ≤ B) (hB2 : ∀ i, i ≤ xs.length → s i ≤ 100000)
    (ih : ∀ (i : Nat) (x : Vl) (q : List Nat) (S : Sto), xs[i]? = some x → q.length = p.length + 1 → wpe ((lev m).1 29 [x, pv q] S) noE (Res x q (b i) S)) (hp : p.length ≤ 1000) : wpe ((lev (m + 1)).1 29 [v, pv p] S) noE (Res v p B S) := by
  rw [lv__law_oh_spots]
  refine w_run rfl ?_
  unfold b__law_oh_spots
  simp only [w_lst, w_tup, s_aug, w_caught, w_slot, w_c, w_nil, w_cons, w_bin, w_bi, w_tst, w_not, w_and, w_or, w_ite, w_andV, w_orV, w_call, w_callK, w_met, w_ok, wo_some, wo_if, w_if, s_seq, s_if, s_ret, s_exp, s_skip, s_cont, s_break, s_raise, s_set, s_par, startE, List.map_cons, List.map_nil, List.length_cons, List.length_nil, List.replicate, List.cons_append, List.nil_append, List.getElem?_cons_zero, List.getElem?_cons_succ, List.set_cons_zero, List.set_cons_succ, Option.some.injEq, exists_eq_left', exists_eq_left, true_and, and_true, Nat.zero_le, List.zip_cons_cons, List.zip_nil_right, List.foldl_cons, List.foldl_nil]
  refine ⟨sz1, ?_⟩
  refine s_for ?_
  have hv2 : tyN (S.push (.lst [pv p])) v = some "tuple" := by rw [hv]; rfl
  simp only [w_itR1, w_lst, w_tup, s_aug, w_caught, w_slot, w_c, w_nil, w_cons, w_bin, w_bi, w_tst, w_not, w_and, w_or, w_ite, w_andV, w_orV, w_call, w_callK, w_met, w_ok, wo_some, wo_if, w_if, s_seq, s_if, s_ret, s_exp, s_skip, s_cont, s_break, s_raise, s_set, s_par, startE, List.map_cons, List.map_nil, List.length_cons, List.length_nil, List.replicate, List.cons_append, List.nil_append, List.getElem?_cons_zero, List.getElem?_cons_succ, List.set_cons_zero, List.set_cons_succ, Option.some.injEq, exists_eq_left', exists_eq_left, true_and, and_true, Nat.zero_le, List.zip_cons_cons, List.zip_nil_right, List.foldl_cons, List.foldl_nil, o_isTup hv2]
  have hv3 : isTup v = true := by rw [hv]; rfl
  refine ⟨_, rfl, ?_⟩
  rw [hv3]
  simp only [if_true]
  rw [show wpo (bLen [v] (S.push (.lst [pv p]))) = fun Z => Z (.int xs.length) (S.push (.lst [pv p])) from by funext Z; rw [hv]; rfl]
  refine ⟨_, rfl, by omega, by omega, rng xs.length, fun i ρ S2 => ∃ (n : Nat) (rs : List (List Nat)) (last : Option Vl), ρ = [some v, some (pv p), some (.ref n), last] ∧ S2.at_ n = .lst ((p :: rs.map (p ++ ·)).map pv) ∧ S.n ≤ n ∧ n < S2.n ∧ Gr 0 S S2 ∧ rs.length ≤ s i ∧
    (∀ q ∈ rs, q ≠ [] ∧ ∃ w, atP v q = some w) ∧ (0 < i → rs ≠ []), ⟨S.n, [], none, rfl, push_same, Nat.le_refl _, Nat.lt_succ_self _, Gr.push, Nat.zero_le _, (fun q hq => absurd hq List.not_mem_nil), fun h => absurd h (Nat.lt_irrefl 0)⟩, fun i ρ S2 _ _ => by rw [Int.toNat_natCast]; exact rng_at, ?_, ?_⟩
  · rintro i x ρ S2 hx ⟨n, rs, last, rfl, h1, h2, h4, h5, h6, h7, h8⟩
    obtain ⟨rfl, hi⟩ := rng_get hx
    simp only [gNm, w_lst, w_tup, s_aug, w_caught, w_slot, w_c, w_nil, w_cons, w_bin, w_bi, w_tst, w_not, w_and, w_or, w_ite, w_andV, w_orV, w_call, w_callK, w_met, w_ok, wo_some, wo_if, w_if, s_seq, s_if, s_ret, s_exp, s_skip, s_cont, s_break, s_raise, s_set, s_par, startE, List.map_cons, List.map_nil, List.length_cons, List.length_nil, List.replicate, List.cons_append, List.nil_append, List.getElem?_cons_zero, List.getElem?_cons_succ, List.set_cons_zero, List.set_cons_succ, Option.some.injEq, exists_eq_left', exists_eq_left, true_and, and_true, Nat.zero_le, List.zip_cons_cons, List.zip_nil_right, List.foldl_cons, List.foldl_nil]
    rw [show ∀ Z : Vl → Sto → Prop, wpo (bSub' v (.int (i : Int)) S2) Z = Z xs[i] S2 from fun Z => by rw [hv]; exact o_at (List.getElem?_eq_getElem hi) (by omega)]
    refine ⟨by decide, ?_⟩
    show wpo (bAdd (.tup _) (.tup _) S2) _
    rw [o_addt]
    refine ⟨by simp only [List.length_map, List.length_cons, List.length_nil]; rw [show sizeLine = 16777216 from rfl]; omega, ?_⟩
    have e1 : Vl.tup (p.map (fun (i : Nat) => Vl.int (i : Int)) ++ [Vl.int (i : Int)]) = pv (p ++ [i]) := by unfold pv; rw [List.map_append]; rfl
    rw [e1]
    refine wpe_mono (ih i _ (p ++ [i]) S2 (List.getElem?_eq_getElem hi) (by simp)) ?_ (fun _ _ _ _ z => z.elim)
    rintro _ S3 ⟨n3, rs3, rfl, k1, k2, k4, k5, k6, k7, k8⟩
    have h1' : S3.at_ n = .lst ((p :: rs.map (p ++ ·)).map pv) := (k5.at_ n (Nat.zero_le _) h4).trans h1
    rw [o_addl h1' k1]
    have q1 := hs i hi
    have q2 := hB2 (i + 1) hi
    refine ⟨?_, _, rs ++ ([] :: rs3).map (i :: ·), some (.int i), rfl, ?_, Nat.le_trans (Nat.le_trans h2 (Nat.le_of_lt h4)) k5.n, Nat.lt_succ_self _, (h5.trans k5).trans Gr.push, ?_, ?_, fun _ => by simp⟩
    · simp only [List.length_map, List.length_cons]
      rw [show sizeLine = 16777216 from rfl]
      have := hB2 i (Nat.le_of_lt hi)
      omega
    · rw [push_same]
      congr 1
      simp [List.map_append, List.append_assoc]
    · simp only [List.length_append, List.length_map, List.length_cons]
      omega
    · intro q hq
      rcases List.mem_append.mp hq with hq | hq
      · exact h7 q hq
      · obtain ⟨q3, hq3, rfl⟩ := List.mem_map.mp hq
        have hat : ∀ w, atP xs[i] q3 = some w → atP v (i :: q3) = some w := fun w h => by
          rw [hv]
          show (match xs[i]? with | some x => atP x q3 | none => none) = some w
          rw [List.getElem?_eq_getElem hi]
          exact h
        rcases List.mem_cons.mp hq3 with rfl | hq3
        · exact ⟨List.cons_ne_nil _ _, ⟨_, hat _ (atP_nil _)⟩⟩
        · obtain ⟨_, ⟨w, hw⟩⟩ := k7 q3 hq3
          exact ⟨List.cons_ne_nil _ _, ⟨w, hat w hw⟩⟩
  · rintro ρ S2 ⟨n, rs, last, rfl, h1, h2, h4, h5, h6, h7, h8⟩
    rw [rng_len] at h6 h8
    simp only [w_lst, w_tup, s_aug, w_caught, w_slot, w_c, w_nil, w_cons, w_bin, w_bi, w_tst, w_not, w_and, w_or, w_ite, w_andV, w_orV, w_call, w_callK, w_met, w_ok, wo_some, wo_if, w_if, s_seq, s_if, s_ret, s_exp, s_skip, s_cont, s_break, s_raise, s_set, s_par, startE, List.map_cons, List.map_nil, List.length_cons, List.length_nil, List.replicate, List.cons_append, List.nil_append, List.getElem?_cons_zero, List.getElem?_cons_succ, List.set_cons_zero, List.set_cons_succ, Option.some.injEq, exists_eq_left', exists_eq_left, true_and, and_true, Nat.zero_le, List.zip_cons_cons, List.zip_nil_right, List.foldl_cons, List.foldl_nil]
    exact ⟨n, rs, rfl, h1, h2, h4, h5, by omega, h7, fun x ys e => by rw [hv] at e; cases e; exact h8 (Nat.succ_pos _)⟩
theorem spots_w : ∀ (k : Nat) {v : Vl} {m : Nat} {S : Sto} {p : List Nat}, Pl k v → nds v ≤ 100000 → k + 1 ≤ m → p.length + k ≤ 900 → wpe ((lev m).1 29 [v, pv p] S) noE (Res v p (nds v) S) := by
  intro k
  induction k with
  | zero =>
    intro v m S p h hn hm hp
    obtain ⟨m, rfl⟩ : ∃ m', m = m' + 1 := ⟨m - 1, by omega⟩
    have e1 : isTup v = false ∧ nds v = 1 := by
      rcases h.ty with ⟨i, rfl, _⟩ | ⟨z, rfl, hz⟩ | ⟨xs, k', rfl, e, _⟩
      · exact ⟨rfl, by rw [nds]; intro _ z; cases z⟩
      · exact ⟨rfl, by rw [nds]; intro _ z; cases z⟩
      · cases e
    rw [e1.2]
    exact spots_leaf h.tyN e1.1
  | succ k ih =>
    intro v m S p h hn hm hp
    obtain ⟨m, rfl⟩ : ∃ m', m = m' + 1 := ⟨m - 1, by omega⟩
    rcases h.ty with ⟨i, e, _⟩ | ⟨z, e, hz⟩ | ⟨xs, k', e, e2, h1, h2⟩
    · have : nds v = 1 := by rw [e, nds]; intro _ z; cases z
      rw [this]; exact spots_leaf h.tyN (by rw [e]; rfl)
    · have : nds v = 1 := by rw [e, nds]; intro _ z; cases z
      rw [this]; exact spots_leaf h.tyN (by rw [e]; rfl)
    · cases e2
      have e3 : nds v = 1 + ndsL xs := by rw [e, nds]
      have mono : ∀ i, i ≤ xs.length → ndsL (xs.take i) ≤ ndsL xs := by
        intro i hi
        have key : ∀ (ys : List Vl) (i : Nat), ndsL (ys.take i) ≤ ndsL ys := by
          intro ys
          induction ys with
          | nil => intro i; simp [ndsL]
          | cons y ys ih => intro i; cases i with
            | zero => simp [ndsL]
            | succ i => simp only [List.take_succ_cons, ndsL]; have := ih i; omega
        exact key xs i
      refine spots_tup (m := m) e (b := fun i => nds (xs[i]?.getD .non)) (s := fun i => ndsL (xs.take i)) h1 (fun i hi => ?_) ?_ (fun i hi => ?_) (fun i x q S hx hq => ?_) (by omega)
      · rw [List.getElem?_eq_getElem hi]
        exact Nat.le_of_eq (ndsL_take xs i hi)
      · rw [List.take_length, e3]
        exact Nat.le_refl _
      · have := mono i hi
        show ndsL (xs.take i) ≤ 100000
        omega
      · have hi := (List.getElem?_eq_some_iff.mp hx)
        obtain ⟨hi, hxe⟩ := hi
        have q1 := ndsL_take xs i hi
        have q2 := mono (i + 1) hi
        rw [hx]
        refine ih (h2 x (List.mem_of_getElem? hx)) ?_ (by omega) (by omega)
        show nds x ≤ _
        rw [hxe] at q1
        omega
/-! putting a part -/
def putP : Vl → List Nat → Vl → Vl
  | _, [], x => x
  | .tup xs, i :: q, x => .tup (xs.take i ++ [putP (xs[i]?.getD .non) q x] ++ xs.drop (i + 1))
  | v, _ :: _, _ => v
theorem put_w : ∀ (q : List Nat) {m : Nat} {S : Sto} {v part w : Vl}, atP v q = some w → (∀ i ∈ q, i < 1000) → q.length + 1 ≤ m → bnd1 v = true →
    wpe ((lev m).1 27 [v, pv q, part] S) noE fun r S' => S' = S ∧ r = putP v q part
  | [], m, S, v, part, w, h, hq, hm, hb => by
    obtain ⟨m, rfl⟩ : ∃ m', m = m' + 1 := ⟨m - 1, by omega⟩
    rw [lv__law_oh_put]
    refine w_run rfl ?_
    unfold b__law_oh_put
    simp only [w_lst, w_tup, s_aug, w_caught, w_slot, w_c, w_nil, w_cons, w_bin, w_bi, w_tst, w_not, w_and, w_or, w_ite, w_andV, w_orV, w_call, w_callK, w_met, w_ok, wo_some, wo_if, w_if, s_seq, s_if, s_ret, s_exp, s_skip, s_cont, s_break, s_raise, s_set, s_par, startE, List.map_cons, List.map_nil, List.length_cons, List.length_nil, List.replicate, List.cons_append, List.nil_append, List.getElem?_cons_zero, List.getElem?_cons_succ, List.set_cons_zero, List.set_cons_succ, Option.some.injEq, exists_eq_left', exists_eq_left, true_and, and_true, Nat.zero_le, List.zip_cons_cons, List.zip_nil_right, List.foldl_cons, List.foldl_nil]
    obtain ⟨d, hd⟩ := dat_pv (lo := 0) (S := S) (k := 6) []
    have hd' : Dat 0 S 6 (.tup []) d := hd
    show wpo (bEq (.tup []) (.tup []) S) _
    rw [o_eqUnit hd']
    refine ⟨_, rfl, ?_⟩
    simp only [List.isEmpty_nil, if_true]
    exact ⟨trivial, by cases v <;> rfl⟩
  | i :: q, m, S, v, part, w, h, hq, hm, hb => by
    obtain ⟨m, rfl⟩ : ∃ m', m = m' + 1 := ⟨m - 1, by omega⟩
    cases v with
    | tup xs =>
      obtain ⟨x, hx, hw⟩ := atP_len h
      have hi : i < xs.length := by rw [List.getElem?_eq_some_iff] at hx; exact hx.1
      obtain ⟨hl, hbs⟩ := bnd1_tup.mp hb
      rw [lv__law_oh_put]
      refine w_run rfl ?_
      unfold b__law_oh_put
      simp only [w_lst, w_tup, s_aug, w_caught, w_slot, w_c, w_nil, w_cons, w_bin, w_bi, w_tst, w_not, w_and, w_or, w_ite, w_andV, w_orV, w_call, w_callK, w_met, w_ok, wo_some, wo_if, w_if, s_seq, s_if, s_ret, s_exp, s_skip, s_cont, s_break, s_raise, s_set, s_par, startE, List.map_cons, List.map_nil, List.length_cons, List.length_nil, List.replicate, List.cons_append, List.nil_append, List.getElem?_cons_zero, List.getElem?_cons_succ, List.set_cons_zero, List.set_cons_succ, Option.some.injEq, exists_eq_left', exists_eq_left, true_and, and_true, Nat.zero_le, List.zip_cons_cons, List.zip_nil_right, List.foldl_cons, List.foldl_nil, w_sl, w_none', w_some']
      obtain ⟨d, hd⟩ := dat_pv (lo := 0) (S := S) (k := 6) (i :: q)
      show wpo (bEq (.tup _) (.tup []) S) _
      rw [o_eqUnit hd]
      refine ⟨_, rfl, ?_⟩
      have e0 : ((i :: q).map fun (i : Nat) => Vl.int (i : Int)).isEmpty = false := rfl
      rw [e0]
      simp only [Bool.false_eq_true, if_false, pv, List.map_cons, o_at0]
      refine ⟨_, rfl, ?_⟩
      simp only [o_slt, cut_take (Nat.le_of_lt hi)]
      rw [o_at hx (by omega)]
      refine ⟨1, rfl, ?_⟩
      have e1 : cutL (Vl.int (i : Int) :: q.map fun (i : Nat) => Vl.int (i : Int)) (some ((1 : Nat) : Int)) none = q.map fun (i : Nat) => Vl.int (i : Int) := by rw [cut_drop (by simp)]; rfl
      have e1' : cutL (Vl.int (i : Int) :: q.map fun (i : Nat) => Vl.int (i : Int)) (some (1 : Int)) none = q.map fun (i : Nat) => Vl.int (i : Int) := e1
      rw [e1']
      refine wpe_mono (put_w q hw (fun j hj => hq j (List.mem_cons_of_mem _ hj)) (by simp at hm; omega) (hbs x (List.mem_of_getElem? hx))) ?_ (fun _ _ _ _ z => z.elim)
      rintro r S1 ⟨rfl, hr⟩
      refine ⟨by decide, ?_⟩
      rw [o_addt]
      refine ⟨by rw [List.length_take, show sizeLine = 16777216 from rfl]; simp only [List.length_cons, List.length_nil]; omega, ?_⟩
      simp only [o_add]
      refine ⟨_, rfl, ?_⟩
      have e2 : ((i : Int) + 1) = ((i + 1 : Nat) : Int) := by push_cast; rfl
      rw [e2, cut_drop (by omega), o_addt]
      have hlen : (xs.take i ++ [r]).length = i + 1 := by rw [List.length_append, List.length_take]; simp only [List.length_cons, List.length_nil]; omega
      refine ⟨by rw [hlen, List.length_drop, show sizeLine = 16777216 from rfl]; omega, rfl, ?_⟩
      rw [hr]
      show _ = Vl.tup (xs.take i ++ [putP (xs[i]?.getD .non) q part] ++ xs.drop (i + 1))
      rw [hx]
      rfl
    | _ => cases h
theorem put_ok {lo : Nat} {S : Sto} {x : Vl} (hx : ∃ d, Dat lo S 5 x d) (hb : bnd1 x = true) : ∀ (q : List Nat) {v w : Vl}, atP v q = some w → (∃ d, Dat lo S 5 v d) → bnd1 v = true → (∃ d, Dat lo S 5 (putP v q x) d) ∧ bnd1 (putP v q x) = true
  | [], v, w, _, _, _ => by
    have e : putP v [] x = x := by cases v <;> rfl
    rw [e]; exact ⟨hx, hb⟩
  | i :: q, v, w, h, hd, hv => by
    cases v with
    | tup xs =>
      obtain ⟨y, hy, hw⟩ := atP_len h
      have hi : i < xs.length := by rw [List.getElem?_eq_some_iff] at hy; exact hy.1
      obtain ⟨hl, hbs⟩ := bnd1_tup.mp hv
      have hm := List.mem_of_getElem? hy
      obtain ⟨i1, i2⟩ := put_ok hx hb q hw (dat_mem hd y hm) (hbs y hm)
      have e : putP (.tup xs) (i :: q) x = .tup (xs.take i ++ [putP y q x] ++ xs.drop (i + 1)) := by
        show Vl.tup (xs.take i ++ [putP (xs[i]?.getD .non) q x] ++ xs.drop (i + 1)) = _
        rw [hy]; rfl
      rw [e]
      refine ⟨dat_tup fun z hz => ?_, bnd1_tup.mpr ⟨?_, fun z hz => ?_⟩⟩
      · rcases List.mem_append.mp hz with hz | hz
        · rcases List.mem_append.mp hz with hz | hz
          · exact dat_mem hd z (List.mem_of_mem_take hz)
          · rw [List.mem_singleton.mp hz]; exact i1
        · exact dat_mem hd z (List.mem_of_mem_drop hz)
      · simp only [List.length_append, List.length_take, List.length_drop, List.length_cons, List.length_nil]; omega
      · rcases List.mem_append.mp hz with hz | hz
        · rcases List.mem_append.mp hz with hz | hz
          · exact hbs z (List.mem_of_mem_take hz)
          · rw [List.mem_singleton.mp hz]; exact i2
        · exact hbs z (List.mem_of_mem_drop hz)
    | _ => cases h
end G

set_option linter.all false
set_option maxRecDepth 100000
set_option maxHeartbeats 4000000
namespace G
open PySem PySem.Spec PyProof.Rows L2 Q

/-! ### a tuple with one part exchanged -/
/-- what may be put -/
def Good (lo : Nat) (S : Sto) (x : Vl) : Prop := (∃ e, Dat lo S 5 x e) ∧ bnd1 x = true
theorem Good.gr {lo : Nat} {S S' : Sto} {x : Vl} (h : Good lo S x) (g : Gr lo S S') : Good lo S' x := ⟨let ⟨e, he⟩ := h.1; ⟨e, he.gr g⟩, h.2⟩
theorem Pl.good {k lo : Nat} {S : Sto} {v : Vl} (h : Pl k v) : Good lo S v := ⟨h.dat, h.bnd⟩
theorem good_int {lo : Nat} {S : Sto} (i : Int) : Good lo S (.int i) := ⟨⟨_, .int i⟩, rfl⟩
theorem good_non {lo : Nat} {S : Sto} : Good lo S .non := ⟨⟨_, .non⟩, rfl⟩
theorem good_bl {lo : Nat} {S : Sto} (b : Bool) : Good lo S (.bl b) := ⟨⟨_, .bl b⟩, rfl⟩
theorem good_str {lo : Nat} {S : Sto} {z : Str} (h : okZ z = true) (l : z.length ≤ 1000) : Good lo S (.str z) := ⟨⟨_, .str z h⟩, by rw [bnd1]; exact decide_eq_true l⟩
theorem good_tup {lo : Nat} {S : Sto} {xs : List Vl} (h : ∀ x ∈ xs, Good lo S x) (l : xs.length ≤ 61) : Good lo S (.tup xs) := ⟨dat_tup fun x hx => (h x hx).1, bnd1_tup.mpr ⟨l, fun x hx => (h x hx).2⟩⟩
/-- the list of the things to put, in the sixth slot -/
def SomeL (N lo d g c T : Nat) (S1 : Sto) (v : Vl) (n : Nat) (q : List Nat) (w : Vl) : En → Sto → Prop := fun ρ S2 => ∃ n5 xs, ρ = [some (.ref d), some v, some (.ref n), some (pv q), some w, some (.ref n5)] ∧ S2.at_ n5 = .lst xs ∧ lo ≤ n5 ∧ n5 < S2.n ∧ xs ≠ [] ∧ xs.length < N ∧ (∀ x ∈ xs, Good lo S2 x) ∧ St lo d g c T S2 ∧ Gr lo S1 S2
theorem bent_a {m lo d g c T k : Nat} {S : Sto} {v : Vl} {D : End_} {rest : MS} (hv : Pl k v) (hvt : ∃ x xs, v = .tup (x :: xs)) (hn : nds v ≤ 100000) (s : St lo d g c T S) (hT : T + 10 < bigT) (hk : k ≤ 60) (hm : k + 10 ≤ m)
    (h : ∀ n q w S1 (rs : List (List Nat)), q ≠ [] → atP v q = some w → S1.at_ n = .lst (([] :: rs).map pv) → lo ≤ n → n < S1.n → rs.length ≤ 100000 → (∀ q ∈ rs, ∃ w, atP v q = some w) → St lo d g c (T + 1) S1 → Gr lo S S1 →
      wps (rest [some (.ref d), some v, some (.ref n), some (pv q), some w, none] S1) D) :
    wps (sSeq (sAsg (mCall ((lev m).1 29) [] (mCons (mSlot 1) (mCons (mTup mNil) mNil))) (gNm 2))
      (sSeq (sAsg (mCall ((lev m).1 22) [] (mCons (mSlot 0) (mCons (mSl (mSlot 2) (oSome (mC (.int 1))) oNone) mNil))) (gNm 3))
      (sSeq (sAsg (mCall ((lev m).1 26) [] (mCons (mSlot 1) (mCons (mSlot 3) mNil))) (gNm 4)) rest)) [some (.ref d), some v, none, none, none, none] S) D := by
  obtain ⟨m, rfl⟩ : ∃ m', m = m' + 3 := ⟨m - 3, by omega⟩
  refine s_cut (fun ρ1 S1 => ∃ (n : Nat) (rs : List (List Nat)), ρ1 = [some (.ref d), some v, some (.ref n), none, none, none] ∧ S1.at_ n = .lst (([] :: rs).map pv) ∧ lo ≤ n ∧ n < S1.n ∧ St lo d g c T S1 ∧ Gr lo S S1 ∧ rs.length ≤ 100000 ∧ (∀ q ∈ rs, q ≠ [] ∧ ∃ w, atP v q = some w) ∧ rs ≠ []) ?_ ?_
  · simp only [w_lst, w_tup, s_aug, w_caught, w_slot, w_c, w_nil, w_cons, w_bin, w_bi, w_tst, w_not, w_and, w_or, w_ite, w_andV, w_orV, w_call, w_callK, w_met, w_ok, wo_some, wo_if, w_if, s_seq, s_if, s_ret, s_exp, s_skip, s_cont, s_break, s_raise, s_set, s_par, startE, List.map_cons, List.map_nil, List.length_cons, List.length_nil, List.replicate, List.cons_append, List.nil_append, List.getElem?_cons_zero, List.getElem?_cons_succ, List.set_cons_zero, List.set_cons_succ, Option.some.injEq, exists_eq_left', exists_eq_left, true_and, and_true, Nat.zero_le, List.zip_cons_cons, List.zip_nil_right, List.foldl_cons, List.foldl_nil]
    refine wpe_mono (show wpe ((lev (m + 3)).1 29 [v, pv []] S) noE _ from spots_w k hv hn (by omega) (by show 0 + k ≤ 900; omega)) ?_ (fun _ _ _ _ z => z.elim)
    rintro _ S1 ⟨n, rs, rfl, h1, h2, h3, h4, h5, h6, h7⟩
    have e1 : rs.map (([] : List Nat) ++ ·) = rs := by simp
    rw [e1] at h1
    obtain ⟨x, xs, ev⟩ := hvt
    exact ⟨n, rs, rfl, h1, Nat.le_trans s.ln h2, h3, s.gr h4, h4.up (Nat.zero_le _), by omega, h6, h7 _ _ ev⟩
  · rintro _ S1 ⟨n, rs, rfl, h1, h2, h3, s1, g1, h5, h6, h7⟩
    refine s_cut (fun ρ1 S2 => ∃ q, q ∈ rs ∧ ρ1 = [some (.ref d), some v, some (.ref n), some (pv q), none, none] ∧ S2.at_ n = .lst (([] :: rs).map pv) ∧ n < S2.n ∧ St lo d g c (T + 1) S2 ∧ Gr lo S S2) ?_ ?_
    · simp only [w_lst, w_tup, s_aug, w_caught, w_slot, w_c, w_nil, w_cons, w_bin, w_bi, w_tst, w_not, w_and, w_or, w_ite, w_andV, w_orV, w_call, w_callK, w_met, w_ok, wo_some, wo_if, w_if, s_seq, s_if, s_ret, s_exp, s_skip, s_cont, s_break, s_raise, s_set, s_par, startE, List.map_cons, List.map_nil, List.length_cons, List.length_nil, List.replicate, List.cons_append, List.nil_append, List.getElem?_cons_zero, List.getElem?_cons_succ, List.set_cons_zero, List.set_cons_succ, Option.some.injEq, exists_eq_left', exists_eq_left, true_and, and_true, Nat.zero_le, List.zip_cons_cons, List.zip_nil_right, List.foldl_cons, List.foldl_nil, w_sl, w_none', w_some']
      refine ⟨1, rfl, ?_⟩
      rw [o_sll (getR_l h1)]
      have e1 : cutL (([] :: rs).map pv) (some (1 : Int)) none = rs.map pv := (cut_drop (i := 1) (by simp)).trans rfl
      rw [e1]
      refine wpe_mono (pick_w (lo := lo) (s1.gr Gr.push) (by omega) push_same s1.ln (Nat.lt_succ_self _) (by simpa using h7) (by rw [List.length_map]; omega)) ?_ (fun _ _ _ _ z => z.elim)
      rintro x S2 ⟨hx, s2, g2⟩
      obtain ⟨q, hq, rfl⟩ := List.mem_map.mp hx
      exact ⟨q, hq, rfl, ((Gr.push.trans g2).at_ n h2 h3).trans h1, Nat.lt_of_lt_of_le h3 (Gr.push.trans g2).n, s2, (g1.trans Gr.push).trans g2⟩
    · rintro _ S2 ⟨q, hq, rfl, k1, k2, s2, g2⟩
      obtain ⟨q1, ⟨w, hw⟩⟩ := h6 q hq
      refine s_cut (fun ρ1 S3 => ρ1 = [some (.ref d), some v, some (.ref n), some (pv q), some w, none] ∧ S3 = S2) ?_ ?_
      · simp only [w_lst, w_tup, s_aug, w_caught, w_slot, w_c, w_nil, w_cons, w_bin, w_bi, w_tst, w_not, w_and, w_or, w_ite, w_andV, w_orV, w_call, w_callK, w_met, w_ok, wo_some, wo_if, w_if, s_seq, s_if, s_ret, s_exp, s_skip, s_cont, s_break, s_raise, s_set, s_par, startE, List.map_cons, List.map_nil, List.length_cons, List.length_nil, List.replicate, List.cons_append, List.nil_append, List.getElem?_cons_zero, List.getElem?_cons_succ, List.set_cons_zero, List.set_cons_succ, Option.some.injEq, exists_eq_left', exists_eq_left, true_and, and_true, Nat.zero_le, List.zip_cons_cons, List.zip_nil_right, List.foldl_cons, List.foldl_nil]
        refine wpe_mono (at_w hw (hv.at_ hw).2.2) ?_ (fun _ _ _ _ z => z.elim)
        rintro _ S3 ⟨rfl, rfl⟩
        exact ⟨rfl, rfl⟩
      · rintro _ _ ⟨rfl, rfl⟩
        exact h n q w _ rs q1 hw k1 h2 k2 h5 (fun q hq => (h6 q hq).2) s2 g2
theorem bent_some {m lo d g c T n k : Nat} {S : Sto} {v w : Vl} {q : List Nat} {rs : List (List Nat)} {D : End_} (hv : Pl k v) (s : St lo d g c T S) (hT : T < bigT) (hm : 10 ≤ m)
    (h1 : S.at_ n = .lst (([] :: rs).map pv)) (h2 : lo ≤ n) (h3 : n < S.n) (h4 : rs.length ≤ 100000) (h5 : ∀ q ∈ rs, ∃ w, atP v q = some w) :
    wps (sAsg (mLst (mCons (mC .non) (mCons (mTup mNil) (mCons (mC (.int 0)) (mCons (mC (.int 1)) (mCons (mC (.bl true)) (mCons (mC (.str "name")) (mCons (mTup (mCons (mC (.str "text")) mNil)) (mCons (mTup (mCons (mC (.str "end")) mNil)) (mCons (mC (.str "ab")) (mCons (mLst mNil) (mCons (mCall ((lev m).1 26) [] (mCons (mSlot 1) (mCons (mCall ((lev m).1 22) [] (mCons (mSlot 0) (mCons (mSlot 2) mNil))) mNil))) mNil)))))))))))) (gNm 5) [some (.ref d), some v, some (.ref n), some (pv q), some w, none] S) ⟨SomeL 60 lo d g c (T + 1) S v n q w, D.bk, D.ct, D.rt, D.ex⟩ := by
  obtain ⟨m, rfl⟩ : ∃ m', m = m' + 3 := ⟨m - 3, by omega⟩
  simp only [w_lst, w_tup, s_aug, w_caught, w_slot, w_c, w_nil, w_cons, w_bin, w_bi, w_tst, w_not, w_and, w_or, w_ite, w_andV, w_orV, w_call, w_callK, w_met, w_ok, wo_some, wo_if, w_if, s_seq, s_if, s_ret, s_exp, s_skip, s_cont, s_break, s_raise, s_set, s_par, startE, List.map_cons, List.map_nil, List.length_cons, List.length_nil, List.replicate, List.cons_append, List.nil_append, List.getElem?_cons_zero, List.getElem?_cons_succ, List.set_cons_zero, List.set_cons_succ, Option.some.injEq, exists_eq_left', exists_eq_left, true_and, and_true, Nat.zero_le, List.zip_cons_cons, List.zip_nil_right, List.foldl_cons, List.foldl_nil]
  refine ⟨by decide, by decide, ?_⟩
  refine wpe_mono (pick_w (lo := lo) (s.gr Gr.push) hT ((push_lt h3).trans h1) h2 (Nat.lt_succ_of_lt h3) (by simp) (by rw [List.length_map, List.length_cons]; omega)) ?_ (fun _ _ _ _ z => z.elim)
  rintro x S2 ⟨hx, s2, g2⟩
  obtain ⟨q2, hq2, rfl⟩ := List.mem_map.mp hx
  have hq3 : ∃ w, atP v q2 = some w := by
    rcases List.mem_cons.mp hq2 with rfl | hq2
    · exact ⟨v, by cases v <;> rfl⟩
    · exact h5 q2 hq2
  obtain ⟨w2, hw2⟩ := hq3
  obtain ⟨⟨k2, pw⟩, _, hq4⟩ := hv.at_ hw2
  refine wpe_mono (at_w hw2 hq4) ?_ (fun _ _ _ _ z => z.elim)
  rintro _ S3 ⟨rfl, rfl⟩
  refine ⟨by decide, S3.n, _, rfl, push_same, Nat.le_trans s.ln (Nat.le_trans (Nat.le_succ _) g2.n), Nat.lt_succ_self _, by simp, by show 11 < 60; decide, ?_, s2.gr Gr.push, (Gr.push.trans g2).trans Gr.push⟩
  intro x hx
  simp only [List.mem_cons, List.not_mem_nil, or_false] at hx
  rcases hx with rfl | rfl | rfl | rfl | rfl | rfl | rfl | rfl | rfl | rfl | rfl
  · exact good_non
  · exact good_tup (by simp) (by decide)
  · exact good_int 0
  · exact good_int 1
  · exact good_bl true
  · exact good_str (by decide +kernel) (by decide)
  · exact good_tup (fun x hx => by rw [List.mem_singleton.mp hx]; exact good_str (by decide +kernel) (by decide)) (by decide)
  · exact good_tup (fun x hx => by rw [List.mem_singleton.mp hx]; exact good_str (by decide +kernel) (by decide)) (by decide)
  · exact good_str (by decide +kernel) (by decide)
  · exact ⟨⟨_, .lst (n := S.n) s.ln (Nat.lt_succ_of_lt (Nat.lt_of_lt_of_le (Nat.lt_succ_self _) g2.n)) ((push_lt (Nat.lt_of_lt_of_le (Nat.lt_succ_self _) g2.n)).trans ((g2.at_ S.n s.ln (Nat.lt_succ_self _)).trans push_same)) .nil⟩, rfl⟩
  · exact pw.good
abbrev bentIf : MS := (sIf (mTst (mBi bIsi (mCons (mSlot 4) (mCons (mC (.ty "int")) mNil))))
    (sAsg (mLst (mCons (mBin bAdd (mSlot 4) (mC (.int 1))) (mCons (mBin bSub (mSlot 4) (mC (.int 1))) (mCons (mBi bStr (mCons (mSlot 4) mNil)) (mCons (mC .non) (mCons (mBin bSub (mC (.int 0)) (mSlot 4)) (mCons (mC (.bl true)) mNil))))))) (gNm 5))
    (sIf (mTst (mBi bIsi (mCons (mSlot 4) (mCons (mC (.ty "str")) mNil))))
    (sAsg (mBin bAdd (mSlot 5) (mLst (mCons (mBin bAdd (mSlot 4) (mC (.str "a"))) (mCons (mSl (mSlot 4) (oSome (mC (.int 1))) oNone) (mCons (mMet "str" mtUpper (mSlot 4) mNil) (mCons (mC (.str "fun")) (mCons (mC (.str "x")) (mCons (mC (.str "call")) mNil)))))))) (gNm 5))
    (sIf (mAnd (mTst (mBi bIsi (mCons (mSlot 4) (mCons (mC (.ty "tuple")) mNil)))) (mTst (mBin bNe (mSlot 4) (mTup mNil))))
    (sAsg (mBin bAdd (mSlot 5) (mBin bMul (mLst (mCons (mSl (mSlot 4) (oSome (mC (.int 1))) oNone) (mCons (mSl (mSlot 4) oNone (oSome (mNeg (mC (.int 1))))) (mCons (mRev (mSlot 4)) (mCons (mBin bAdd (mSlot 4) (mSl (mSlot 4) (oSome (mNeg (mC (.int 1)))) oNone)) (mCons (mBi bList (mCons (mSlot 4) mNil)) (mCons (mBin bAdd (mSlot 4) (mTup (mCons (mC .non) mNil))) mNil))))))) (mC (.int 2)))) (gNm 5))
    sSkip)))
theorem str_small : ∀ i : Fin 100, okZ (toString ((i : Nat) : Int)) = true ∧ ((toString ((i : Nat) : Int) : String) : Str).length ≤ 3 := by decide +kernel
theorem some_push {lo d g c T n n5 : Nat} {S1 S : Sto} {v w : Vl} {q : List Nat} {xs ys : List Vl} (h1 : S.at_ n5 = .lst xs) (h2 : lo ≤ n5) (h3 : n5 < S.n) (h5 : xs.length < 60) (h4 : xs ++ ys ≠ []) (h7 : ys.length < 40)
    (h6 : ∀ x ∈ xs, Good lo S x) (h8 : ∀ x ∈ ys, Good lo S x) (s : St lo d g c T S) (g1 : Gr lo S1 S) :
    SomeL 100 lo d g c T S1 v n q w [some (.ref d), some v, some (.ref n), some (pv q), some w, some (.ref S.n)] (S.push (.lst (xs ++ ys))) := by
  refine ⟨S.n, _, rfl, push_same, s.ln, Nat.lt_succ_self _, h4, by rw [List.length_append]; omega, ?_, s.gr Gr.push, g1.trans Gr.push⟩
  intro x hx
  rcases List.mem_append.mp hx with hx | hx
  · exact (h6 x hx).gr Gr.push
  · exact (h8 x hx).gr Gr.push
theorem bent_int {lo d g c T n : Nat} {S1 S : Sto} {v w : Vl} {j : Int} {q : List Nat} {ρ : En} {D : End_} (hw : w = .int j) (j0 : 0 ≤ j) (j1 : j < 100) (h : SomeL 60 lo d g c T S1 v n q w ρ S) : wps (bentIf ρ S) ⟨SomeL 100 lo d g c T S1 v n q w, D.bk, D.ct, D.rt, D.ex⟩ := by
  obtain ⟨n5, xs, rfl, h1, h2, h3, h4, h5, h6, s, g1⟩ := h
  subst hw
  unfold bentIf
  simp only [w_lst, w_tup, s_aug, w_caught, w_slot, w_c, w_nil, w_cons, w_bin, w_bi, w_tst, w_not, w_and, w_or, w_ite, w_andV, w_orV, w_call, w_callK, w_met, w_ok, wo_some, wo_if, w_if, s_seq, s_if, s_ret, s_exp, s_skip, s_cont, s_break, s_raise, s_set, s_par, startE, List.map_cons, List.map_nil, List.length_cons, List.length_nil, List.replicate, List.cons_append, List.nil_append, List.getElem?_cons_zero, List.getElem?_cons_succ, List.set_cons_zero, List.set_cons_succ, Option.some.injEq, exists_eq_left', exists_eq_left, true_and, and_true, Nat.zero_le, List.zip_cons_cons, List.zip_nil_right, List.foldl_cons, List.foldl_nil]
  rw [o_isInt (t := "int") rfl]
  simp only [w_lst, w_tup, s_aug, w_caught, w_slot, w_c, w_nil, w_cons, w_bin, w_bi, w_tst, w_not, w_and, w_or, w_ite, w_andV, w_orV, w_call, w_callK, w_met, w_ok, wo_some, wo_if, w_if, s_seq, s_if, s_ret, s_exp, s_skip, s_cont, s_break, s_raise, s_set, s_par, startE, List.map_cons, List.map_nil, List.length_cons, List.length_nil, List.replicate, List.cons_append, List.nil_append, List.getElem?_cons_zero, List.getElem?_cons_succ, List.set_cons_zero, List.set_cons_succ, Option.some.injEq, exists_eq_left', exists_eq_left, true_and, and_true, Nat.zero_le, List.zip_cons_cons, List.zip_nil_right, List.foldl_cons, List.foldl_nil, isIntV, if_true, o_add, o_sub]
  refine ⟨_, rfl, ?_⟩
  obtain ⟨k, rfl⟩ : ∃ k : Nat, j = k := ⟨j.toNat, (Int.toNat_of_nonneg j0).symm⟩
  have hk : k < 100 := by omega
  have hs := str_small ⟨k, hk⟩
  have hl : wpo (bStr [.int (k : Int)] S) = fun Z => Z (.str (toString ((k : Nat) : Int))) S := by
    have lg : ∀ k : Fin 100, ((k : Nat) : Int).natAbs.log2 < 1920 := by decide
    have e : bStr [.int (k : Int)] S = some (.str (toString ((k : Nat) : Int)), S) := by
      show (if (((k : Nat) : Int).natAbs.log2 < 1920) then some (Vl.str (toString ((k : Nat) : Int)), S) else none) = _
      rw [if_pos (lg ⟨k, hk⟩)]
    rw [e]; rfl
  rw [if_pos rfl, hl]
  refine ⟨by decide, S.n, _, rfl, push_same, s.ln, Nat.lt_succ_self _, by simp, by show 6 < 100; decide, ?_, s.gr Gr.push, g1.trans Gr.push⟩
  exact six (good_int _) (good_int _) (good_str hs.1 (Nat.le_trans hs.2 (by decide))) good_non (good_int _) (good_bl true)
theorem bent_str {lo d g c T n : Nat} {S1 S : Sto} {v w : Vl} {z : Str} {q : List Nat} {ρ : En} {D : End_} (hz : upOk z = true) (hw : w = .str z) (h : SomeL 60 lo d g c T S1 v n q w ρ S) : wps (bentIf ρ S) ⟨SomeL 100 lo d g c T S1 v n q w, D.bk, D.ct, D.rt, D.ex⟩ := by
  obtain ⟨n5, xs, rfl, h1, h2, h3, h4, h5, h6, s, g1⟩ := h
  subst hw
  unfold upOk at hz
  simp only [Bool.and_eq_true, decide_eq_true_eq] at hz
  obtain ⟨⟨⟨⟨⟨⟨⟨hl, z1⟩, z2⟩, z3⟩, z4⟩, z5⟩, z6⟩, z7⟩ := hz
  unfold bentIf
  simp only [w_lst, w_tup, s_aug, w_caught, w_slot, w_c, w_nil, w_cons, w_bin, w_bi, w_tst, w_not, w_and, w_or, w_ite, w_andV, w_orV, w_call, w_callK, w_met, w_ok, wo_some, wo_if, w_if, s_seq, s_if, s_ret, s_exp, s_skip, s_cont, s_break, s_raise, s_set, s_par, startE, List.map_cons, List.map_nil, List.length_cons, List.length_nil, List.replicate, List.cons_append, List.nil_append, List.getElem?_cons_zero, List.getElem?_cons_succ, List.set_cons_zero, List.set_cons_succ, Option.some.injEq, exists_eq_left', exists_eq_left, true_and, and_true, Nat.zero_le, List.zip_cons_cons, List.zip_nil_right, List.foldl_cons, List.foldl_nil]
  rw [o_isInt (t := "str") rfl]
  simp only [w_lst, w_tup, s_aug, w_caught, w_slot, w_c, w_nil, w_cons, w_bin, w_bi, w_tst, w_not, w_and, w_or, w_ite, w_andV, w_orV, w_call, w_callK, w_met, w_ok, wo_some, wo_if, w_if, s_seq, s_if, s_ret, s_exp, s_skip, s_cont, s_break, s_raise, s_set, s_par, startE, List.map_cons, List.map_nil, List.length_cons, List.length_nil, List.replicate, List.cons_append, List.nil_append, List.getElem?_cons_zero, List.getElem?_cons_succ, List.set_cons_zero, List.set_cons_succ, Option.some.injEq, exists_eq_left', exists_eq_left, true_and, and_true, Nat.zero_le, List.zip_cons_cons, List.zip_nil_right, List.foldl_cons, List.foldl_nil, isIntV]
  rw [o_isStr (t := "str") rfl]
  simp only [w_lst, w_tup, s_aug, w_caught, w_slot, w_c, w_nil, w_cons, w_bin, w_bi, w_tst, w_not, w_and, w_or, w_ite, w_andV, w_orV, w_call, w_callK, w_met, w_ok, wo_some, wo_if, w_if, s_seq, s_if, s_ret, s_exp, s_skip, s_cont, s_break, s_raise, s_set, s_par, startE, List.map_cons, List.map_nil, List.length_cons, List.length_nil, List.replicate, List.cons_append, List.nil_append, List.getElem?_cons_zero, List.getElem?_cons_succ, List.set_cons_zero, List.set_cons_succ, Option.some.injEq, exists_eq_left', exists_eq_left, true_and, and_true, Nat.zero_le, List.zip_cons_cons, List.zip_nil_right, List.foldl_cons, List.foldl_nil, isStr, if_true, o_adds, w_sl, w_none', w_some', o_sls (show z.length ≤ sizeLine from Nat.le_trans hl (by decide)), o_upper (Nat.le_trans hl (by decide))]
  refine ⟨_, rfl, ?_⟩
  rw [if_neg (by decide)]
  refine ⟨_, rfl, ?_⟩
  rw [if_pos rfl]
  refine ⟨Nat.le_trans (Nat.add_le_add hl (show ("a" : Str).length ≤ 1 from by decide)) (by decide), 1, rfl, rfl, by decide, ?_⟩
  rw [o_addl ((push_lt h3).trans h1) push_same]
  refine ⟨by show xs.length + 6 ≤ _; exact Nat.le_trans (by omega : _ ≤ 100) (by decide), ?_⟩
  refine some_push ((push_lt h3).trans h1) h2 (Nat.lt_succ_of_lt h3) h5 (by simp) (by show 6 < 40; decide) (fun x hx => (h6 x hx).gr Gr.push) ?_ (s.gr Gr.push) (g1.trans Gr.push)
  exact six (good_str z2 z3) (good_str z4 z5) (good_str z6 z7) (good_str (by decide +kernel) (by decide)) (good_str (by decide +kernel) (by decide)) (good_str (by decide +kernel) (by decide))
theorem bent_tup {lo d g c T n k : Nat} {S1 S : Sto} {v w : Vl} {ys : List Vl} {q : List Nat} {ρ : En} {D : End_} (hw : w = .tup ys) (hy : ys ≠ []) (hl : ys.length ≤ 30) (hd : ∀ x ∈ ys, Pl k x) (h : SomeL 60 lo d g c T S1 v n q w ρ S) : wps (bentIf ρ S) ⟨SomeL 100 lo d g c T S1 v n q w, D.bk, D.ct, D.rt, D.ex⟩ := by
  obtain ⟨n5, xs, rfl, h1, h2, h3, h4, h5, h6, s, g1⟩ := h
  unfold bentIf
  simp only [w_lst, w_tup, s_aug, w_caught, w_slot, w_c, w_nil, w_cons, w_bin, w_bi, w_tst, w_not, w_and, w_or, w_ite, w_andV, w_orV, w_call, w_callK, w_met, w_ok, wo_some, wo_if, w_if, s_seq, s_if, s_ret, s_exp, s_skip, s_cont, s_break, s_raise, s_set, s_par, startE, List.map_cons, List.map_nil, List.length_cons, List.length_nil, List.replicate, List.cons_append, List.nil_append, List.getElem?_cons_zero, List.getElem?_cons_succ, List.set_cons_zero, List.set_cons_succ, Option.some.injEq, exists_eq_left', exists_eq_left, true_and, and_true, Nat.zero_le, List.zip_cons_cons, List.zip_nil_right, List.foldl_cons, List.foldl_nil]
  rw [o_isInt (t := "tuple") (by rw [hw]; rfl)]
  have e1 : isIntV w = false := by rw [hw]; rfl
  have e2 : isStr w = false := by rw [hw]; rfl
  have e3 : isTup w = true := by rw [hw]; rfl
  simp only [w_lst, w_tup, s_aug, w_caught, w_slot, w_c, w_nil, w_cons, w_bin, w_bi, w_tst, w_not, w_and, w_or, w_ite, w_andV, w_orV, w_call, w_callK, w_met, w_ok, wo_some, wo_if, w_if, s_seq, s_if, s_ret, s_exp, s_skip, s_cont, s_break, s_raise, s_set, s_par, startE, List.map_cons, List.map_nil, List.length_cons, List.length_nil, List.replicate, List.cons_append, List.nil_append, List.getElem?_cons_zero, List.getElem?_cons_succ, List.set_cons_zero, List.set_cons_succ, Option.some.injEq, exists_eq_left', exists_eq_left, true_and, and_true, Nat.zero_le, List.zip_cons_cons, List.zip_nil_right, List.foldl_cons, List.foldl_nil, e1]
  rw [o_isStr (t := "tuple") (by rw [hw]; rfl)]
  simp only [w_lst, w_tup, s_aug, w_caught, w_slot, w_c, w_nil, w_cons, w_bin, w_bi, w_tst, w_not, w_and, w_or, w_ite, w_andV, w_orV, w_call, w_callK, w_met, w_ok, wo_some, wo_if, w_if, s_seq, s_if, s_ret, s_exp, s_skip, s_cont, s_break, s_raise, s_set, s_par, startE, List.map_cons, List.map_nil, List.length_cons, List.length_nil, List.replicate, List.cons_append, List.nil_append, List.getElem?_cons_zero, List.getElem?_cons_succ, List.set_cons_zero, List.set_cons_succ, Option.some.injEq, exists_eq_left', exists_eq_left, true_and, and_true, Nat.zero_le, List.zip_cons_cons, List.zip_nil_right, List.foldl_cons, List.foldl_nil, e2]
  rw [o_isTup (t := "tuple") (by rw [hw]; rfl)]
  simp only [w_lst, w_tup, s_aug, w_caught, w_slot, w_c, w_nil, w_cons, w_bin, w_bi, w_tst, w_not, w_and, w_or, w_ite, w_andV, w_orV, w_call, w_callK, w_met, w_ok, wo_some, wo_if, w_if, s_seq, s_if, s_ret, s_exp, s_skip, s_cont, s_break, s_raise, s_set, s_par, startE, List.map_cons, List.map_nil, List.length_cons, List.length_nil, List.replicate, List.cons_append, List.nil_append, List.getElem?_cons_zero, List.getElem?_cons_succ, List.set_cons_zero, List.set_cons_succ, Option.some.injEq, exists_eq_left', exists_eq_left, true_and, and_true, Nat.zero_le, List.zip_cons_cons, List.zip_nil_right, List.foldl_cons, List.foldl_nil, e3, if_true, w_sl, w_none', w_some', w_neg, Q.w_rev]
  obtain ⟨dy, hdy⟩ := datAll_of (lo := lo) (S := S) (k := 6) fun x hx => (hd x hx).dat
  refine ⟨_, rfl, ?_⟩
  rw [if_neg (by decide)]
  refine ⟨_, rfl, ?_⟩
  rw [if_neg (by decide)]
  refine ⟨_, rfl, ?_⟩
  rw [if_pos rfl]
  subst hw
  rw [o_neUnit (.tup hdy)]
  have hye : (!ys.isEmpty) = true := by cases ys with | nil => exact (hy rfl).elim | cons _ _ => rfl
  refine ⟨_, rfl, ?_⟩
  rw [hye, if_pos rfl]
  refine ⟨1, rfl, ?_⟩
  rw [o_slt]
  refine ⟨1, rfl, -1, rfl, ?_⟩
  rw [o_slt, o_revt]
  refine ⟨1, rfl, -1, rfl, ?_⟩
  rw [o_slt, o_addt]
  have hcl : ∀ lo hi, (cutL ys lo hi).length ≤ 30 := fun lo hi => Nat.le_trans (cutL_len ys lo hi) hl
  refine ⟨Nat.le_trans (Nat.add_le_add hl (hcl _ _)) (by decide), ?_⟩
  rw [o_listt]
  refine ⟨by decide, ?_⟩
  rw [o_addt]
  refine ⟨Nat.le_trans (Nat.add_le_add hl (Nat.le_refl _)) (by decide), by decide, ?_⟩
  rw [o_mull push_same]
  refine ⟨by show 6 * 2 ≤ sizeLine; decide, ?_⟩
  rw [o_addl ((push_lt (Nat.lt_succ_of_lt (Nat.lt_succ_of_lt h3))).trans ((push_lt (Nat.lt_succ_of_lt h3)).trans ((push_lt h3).trans h1))) push_same]
  refine ⟨by show xs.length + 12 ≤ _; exact Nat.le_trans (by omega : _ ≤ 100) (by decide), ?_⟩
  generalize hE : (((S.push (.lst ys)).push _).push _ : Sto) = E
  have gE0 : Gr 0 S E := by rw [← hE]; exact (Gr.push.trans Gr.push).trans Gr.push
  have gE : Gr lo S E := gE0.up (Nat.zero_le _)
  have eE : E.at_ S.n = .lst ys := by rw [← hE]; exact (push_lt (Nat.lt_succ_of_lt (Nat.lt_succ_self _))).trans ((push_lt (Nat.lt_succ_self _)).trans push_same)
  have nE : S.n < E.n := by rw [← hE]; exact Nat.lt_succ_of_lt (Nat.lt_succ_of_lt (Nat.lt_succ_self _))
  obtain ⟨dl, hdl⟩ := datAll_of (lo := lo) (S := E) (k := 4) fun x hx => (hd x hx).dat
  have gy : ∀ x ∈ ys, Good lo E x := fun x hx => (hd x hx).good
  refine some_push ((gE.at_ n5 h2 h3).trans h1) h2 (Nat.lt_of_lt_of_le h3 gE.n) h5 (by simp) (by show 12 < 40; decide) (fun x hx => (h6 x hx).gr gE) ?_ (s.gr gE0) (g1.trans gE)
  refine six_up (six (good_tup (fun x hx => gy x (cutL_mem hx)) (Nat.le_trans (hcl _ _) (by decide))) (good_tup (fun x hx => gy x (cutL_mem hx)) (Nat.le_trans (hcl _ _) (by decide))) (good_tup (fun x hx => gy x (List.mem_reverse.mp hx)) (by rw [List.length_reverse]; omega)) (good_tup (fun x hx => ?_) (by rw [List.length_append]; have := hcl (some (-1)) none; omega)) ⟨⟨_, .lst (Nat.le_trans s.ln (Nat.le_refl _)) nE eE hdl⟩, rfl⟩ (good_tup (fun x hx => ?_) (by rw [List.length_append]; simp only [List.length_cons, List.length_nil]; omega)))
  · rcases List.mem_append.mp hx with hx | hx
    · exact gy x hx
    · exact gy x (cutL_mem hx)
  · rcases List.mem_append.mp hx with hx | hx
    · exact gy x hx
    · rw [List.mem_singleton.mp hx]; exact good_non
theorem bent_nil {lo d g c T n : Nat} {S1 S : Sto} {v w : Vl} {q : List Nat} {ρ : En} {D : End_} (hw : w = .tup []) (h : SomeL 60 lo d g c T S1 v n q w ρ S) : wps (bentIf ρ S) ⟨SomeL 100 lo d g c T S1 v n q w, D.bk, D.ct, D.rt, D.ex⟩ := by
  obtain ⟨n5, xs, rfl, h1, h2, h3, h4, h5, h6, s, g1⟩ := h
  unfold bentIf
  simp only [w_lst, w_tup, s_aug, w_caught, w_slot, w_c, w_nil, w_cons, w_bin, w_bi, w_tst, w_not, w_and, w_or, w_ite, w_andV, w_orV, w_call, w_callK, w_met, w_ok, wo_some, wo_if, w_if, s_seq, s_if, s_ret, s_exp, s_skip, s_cont, s_break, s_raise, s_set, s_par, startE, List.map_cons, List.map_nil, List.length_cons, List.length_nil, List.replicate, List.cons_append, List.nil_append, List.getElem?_cons_zero, List.getElem?_cons_succ, List.set_cons_zero, List.set_cons_succ, Option.some.injEq, exists_eq_left', exists_eq_left, true_and, and_true, Nat.zero_le, List.zip_cons_cons, List.zip_nil_right, List.foldl_cons, List.foldl_nil]
  rw [o_isInt (t := "tuple") (by rw [hw]; rfl)]
  have e1 : isIntV w = false := by rw [hw]; rfl
  have e2 : isStr w = false := by rw [hw]; rfl
  have e3 : isTup w = true := by rw [hw]; rfl
  simp only [w_lst, w_tup, s_aug, w_caught, w_slot, w_c, w_nil, w_cons, w_bin, w_bi, w_tst, w_not, w_and, w_or, w_ite, w_andV, w_orV, w_call, w_callK, w_met, w_ok, wo_some, wo_if, w_if, s_seq, s_if, s_ret, s_exp, s_skip, s_cont, s_break, s_raise, s_set, s_par, startE, List.map_cons, List.map_nil, List.length_cons, List.length_nil, List.replicate, List.cons_append, List.nil_append, List.getElem?_cons_zero, List.getElem?_cons_succ, List.set_cons_zero, List.set_cons_succ, Option.some.injEq, exists_eq_left', exists_eq_left, true_and, and_true, Nat.zero_le, List.zip_cons_cons, List.zip_nil_right, List.foldl_cons, List.foldl_nil, e1]
  rw [o_isStr (t := "tuple") (by rw [hw]; rfl)]
  simp only [w_lst, w_tup, s_aug, w_caught, w_slot, w_c, w_nil, w_cons, w_bin, w_bi, w_tst, w_not, w_and, w_or, w_ite, w_andV, w_orV, w_call, w_callK, w_met, w_ok, wo_some, wo_if, w_if, s_seq, s_if, s_ret, s_exp, s_skip, s_cont, s_break, s_raise, s_set, s_par, startE, List.map_cons, List.map_nil, List.length_cons, List.length_nil, List.replicate, List.cons_append, List.nil_append, List.getElem?_cons_zero, List.getElem?_cons_succ, List.set_cons_zero, List.set_cons_succ, Option.some.injEq, exists_eq_left', exists_eq_left, true_and, and_true, Nat.zero_le, List.zip_cons_cons, List.zip_nil_right, List.foldl_cons, List.foldl_nil, e2]
  rw [o_isTup (t := "tuple") (by rw [hw]; rfl)]
  simp only [w_lst, w_tup, s_aug, w_caught, w_slot, w_c, w_nil, w_cons, w_bin, w_bi, w_tst, w_not, w_and, w_or, w_ite, w_andV, w_orV, w_call, w_callK, w_met, w_ok, wo_some, wo_if, w_if, s_seq, s_if, s_ret, s_exp, s_skip, s_cont, s_break, s_raise, s_set, s_par, startE, List.map_cons, List.map_nil, List.length_cons, List.length_nil, List.replicate, List.cons_append, List.nil_append, List.getElem?_cons_zero, List.getElem?_cons_succ, List.set_cons_zero, List.set_cons_succ, Option.some.injEq, exists_eq_left', exists_eq_left, true_and, and_true, Nat.zero_le, List.zip_cons_cons, List.zip_nil_right, List.foldl_cons, List.foldl_nil, e3, if_true, w_sl, w_none', w_some', w_neg, Q.w_rev]
  refine ⟨_, rfl, ?_⟩
  rw [if_neg (by decide)]
  refine ⟨_, rfl, ?_⟩
  rw [if_neg (by decide)]
  refine ⟨_, rfl, ?_⟩
  rw [if_pos rfl]
  subst hw
  rw [o_neUnit (lo := lo) (S := S) (.tup .nil)]
  refine ⟨_, rfl, ?_⟩
  rw [if_neg (by decide)]
  exact ⟨n5, xs, rfl, h1, h2, h3, h4, by omega, h6, s, g1⟩
theorem bent_w {m lo d g c T k : Nat} {S : Sto} {v : Vl} {x0 : Vl} {xs0 : List Vl} (hv : Pl k v) (hvt : v = .tup (x0 :: xs0)) (hn : nds v ≤ 100000) (hk : k ≤ 60) (s : St lo d g c T S) (hT : T + 10 < bigT) (hm : k + 10 ≤ m) :
    wpe ((lev (m + 1)).1 28 [.ref d, v] S) noE fun r S' => Good lo S' r ∧ St lo d g c (T + 3) S' ∧ Gr lo S S' := by
  rw [lv__law_oh_bent]
  refine w_run rfl ?_
  unfold b__law_oh_bent
  refine bent_a hv ⟨_, _, hvt⟩ hn s hT hk hm ?_
  intro n q w S1 rs q1 hw h1 h2 h3 h4 h5 s1 g1
  obtain ⟨⟨k', pw⟩, hql, hqi⟩ := hv.at_ hw
  refine s_cut (SomeL 60 lo d g c (T + 1 + 1) S1 v n q w) (bent_some hv s1 (by omega) (by omega) h1 h2 h3 h4 h5) ?_
  intro ρ2 S2 z2
  refine s_cut (SomeL 100 lo d g c (T + 1 + 1) S1 v n q w) ?_ ?_
  · rcases pw.ty with ⟨i, e, i0, i1⟩ | ⟨z, e, hz⟩ | ⟨xs, k2, e, e2, p1, p2⟩
    · exact bent_int e i0 i1 z2
    · exact bent_str hz e z2
    · by_cases hy : xs = []
      · subst hy; exact bent_nil e z2
      · exact bent_tup e hy p1 p2 z2
  rintro _ S3 ⟨n5, xs, rfl, k1, k2, k3, k4, k5, k6, s3, g3⟩
  simp only [w_lst, w_tup, s_aug, w_caught, w_slot, w_c, w_nil, w_cons, w_bin, w_bi, w_tst, w_not, w_and, w_or, w_ite, w_andV, w_orV, w_call, w_callK, w_met, w_ok, wo_some, wo_if, w_if, s_seq, s_if, s_ret, s_exp, s_skip, s_cont, s_break, s_raise, s_set, s_par, startE, List.map_cons, List.map_nil, List.length_cons, List.length_nil, List.replicate, List.cons_append, List.nil_append, List.getElem?_cons_zero, List.getElem?_cons_succ, List.set_cons_zero, List.set_cons_succ, Option.some.injEq, exists_eq_left', exists_eq_left, true_and, and_true, Nat.zero_le, List.zip_cons_cons, List.zip_nil_right, List.foldl_cons, List.foldl_nil]
  obtain ⟨m, rfl⟩ : ∃ m', m = m' + 3 := ⟨m - 3, by omega⟩
  refine wpe_mono (pick_w (lo := lo) s3 (by omega) k1 k2 k3 k4 (by omega)) ?_ (fun _ _ _ _ z => z.elim)
  rintro x S4 ⟨hx, s4, g4⟩
  refine wpe_mono (put_w q (S := S4) (part := x) hw hqi (by omega) hv.bnd) ?_ (fun _ _ _ _ z => z.elim)
  rintro r _ ⟨rfl, rfl⟩
  have hg := (k6 x hx).gr g4
  obtain ⟨p1, p2⟩ := put_ok hg.1 hg.2 q hw hv.dat hv.bnd
  exact ⟨⟨p1, p2⟩, s4, (g1.trans g3).trans g4⟩
end G

set_option linter.all false
set_option maxRecDepth 100000
set_option maxHeartbeats 4000000
namespace G
open PySem PySem.Spec PyProof.Rows L2 Q

/-! ### the package's judgement of machines -/
def tyOk (S : Sto) (v : Vl) : Prop := ∃ t, tyN S v = some t
theorem Good.ty {lo : Nat} {S : Sto} {v : Vl} (h : Good lo S v) : tyOk S v := let ⟨_, hd⟩ := h.1; hd.ty
theorem Good.mem {lo : Nat} {S : Sto} {xs : List Vl} (h : Good lo S (.tup xs)) : xs.length ≤ 61 ∧ ∀ x ∈ xs, Good lo S x := by
  obtain ⟨h1, h2⟩ := h
  obtain ⟨l, hb⟩ := bnd1_tup.mp h2
  exact ⟨l, fun x hx => ⟨dat_mem h1 x hx, hb x hx⟩⟩
theorem Good.len {lo : Nat} {S : Sto} {z : Str} (h : Good lo S (.str z)) : z.length ≤ 1000 := by
  have := h.2
  rw [bnd1] at this
  exact of_decide_eq_true this
theorem Good.up {lo hi : Nat} {S : Sto} {v : Vl} (h : Good hi S v) (l : lo ≤ hi) : Good lo S v := by
  refine ⟨?_, h.2⟩
  obtain ⟨d, hd⟩ := h.1
  have key : ∀ (k : Nat), (∀ v d, Dat hi S k v d → Dat lo S k v d) ∧ (∀ v d, DatAll hi S k v d → DatAll lo S k v d) := by
    intro k
    constructor
    · intro v d h
      exact h.rec (motive_1 := fun k v d _ => Dat lo S k v d) (motive_2 := fun k v d _ => DatAll lo S k v d) .non (fun b => .bl b) (fun i => .int i) (fun x h => .str x h) (fun _ ih => .tup ih) (fun h1 h2 h3 _ ih => .lst (Nat.le_trans l h1) h2 h3 ih) .nil (fun _ _ i1 i2 => .cons i1 i2)
    · intro v d h
      exact h.rec (motive_1 := fun k v d _ => Dat lo S k v d) (motive_2 := fun k v d _ => DatAll lo S k v d) .non (fun b => .bl b) (fun i => .int i) (fun x h => .str x h) (fun _ ih => .tup ih) (fun h1 h2 h3 _ ih => .lst (Nat.le_trans l h1) h2 h3 ih) .nil (fun _ _ i1 i2 => .cons i1 i2)
  exact ⟨d, (key 5).1 v d hd⟩
theorem ifp {c : Bool} {P Q : Prop} (h : c = true) (p : P) : if c = true then P else Q := by rw [if_pos h]; exact p
theorem ifn {c : Bool} {P Q : Prop} (h : c = false) (q : Q) : if c = true then P else Q := by rw [if_neg (by rw [h]; decide)]; exact q
def isWh : Vl → Bool
  | .int _ => true
  | _ => false
def isNum (v : Vl) (n : Int) : Bool := match v with
  | .int i => decide (0 ≤ i) && decide (i < n)
  | _ => false
theorem isWh_ty {S : Sto} {v : Vl} {t : String} (h : tyN S v = some t) : (isT t "int" && !isT t "bool") = isWh v := by
  cases v with
  | ref n =>
    have : t = "list" ∨ t = "dict" := by
      rcases ty_refs h with ⟨e, _⟩ | ⟨e, _⟩
      · exact .inl e
      · exact .inr e
    rcases this with rfl | rfl <;> rfl
  | gl _ => cases h
  | ty _ => cases h
  | exc _ _ _ => cases h
  | _ => cases h; rfl
theorem is_whole_w {n : Nat} {S : Sto} {v : Vl} (hv : tyOk S v) : wpe ((lev (n + 1)).1 0 [v] S) noE fun r S' => r = .bl (isWh v) ∧ S' = S := by
  obtain ⟨t, ht⟩ := hv
  rw [lv_is_whole]
  refine w_run rfl ?_
  unfold b_is_whole
  repeat first | (with_reducible first | refine a_c ?_ | refine a_nil ?_ | refine a_cons ?_) | (with_reducible refine a_slot ?_; refine ⟨_, rfl, ?_⟩) | (with_reducible first | refine a_bin ?_ | refine a_bi ?_ | refine a_tup ?_ | refine a_lst ?_ | refine a_tst ?_ | refine a_not ?_ | refine a_and ?_ | refine a_or ?_ | refine a_ite ?_ | refine a_andV ?_ | refine a_orV ?_ | refine a_call ?_ | refine a_callK ?_ | refine a_met ?_ | refine a_sl ?_ | refine a_no ?_ | refine a_so ?_ | refine a_exi ?_ | refine a_neg ?_ | refine a_rev ?_ | refine a_gnm ?_ | refine a_gt2 ?_ | refine a_u0 ?_ | refine a_u1 ?_ | refine a_let ?_ | refine a_do ?_ | refine a_pars ?_ | refine a_rets ?_ | refine a_ifs ?_ | refine a_skips ?_ | refine a_set ?_ | refine a_exp ?_ | refine a_ret ?_ | refine a_if ?_ | refine a_par ?_ | refine a_as ?_ | refine a_bl ?_ | refine g_at0 ?_ | refine g_at1 ?_ | refine g_at2 ?_ | refine g_at3 ?_ | refine g_strs ?_ | refine g_nstr ?_ | refine g_eqi ?_ | refine g_nei ?_ | refine g_add ?_ | refine g_sub ?_ | refine g_gt ?_ | refine g_ge ?_ | refine g_lt ?_ | refine g_le ?_ | refine g_isn ?_ | refine g_isb ?_ | refine g_isnb ?_ | refine g_lent ?_ | refine g_int ?_) | refine ⟨(lenL (by simp only [List.length_cons, List.length_nil]; omega) : List.length _ ≤ sizeLine), ?_⟩
  rw [o_isi ht]
  refine ⟨_, rfl, ?_⟩
  have e := isWh_ty ht
  cases h1 : isT t "int" with
  | false =>
    rw [h1] at e
    rw [if_neg (by decide)]
    exact ⟨by rw [← e]; rfl, rfl⟩
  | true =>
    rw [h1] at e
    rw [if_pos rfl]
    refine a_notV ?_
    repeat first | (with_reducible first | refine a_c ?_ | refine a_nil ?_ | refine a_cons ?_) | (with_reducible refine a_slot ?_; refine ⟨_, rfl, ?_⟩) | (with_reducible first | refine a_bin ?_ | refine a_bi ?_ | refine a_tup ?_ | refine a_lst ?_ | refine a_tst ?_ | refine a_not ?_ | refine a_and ?_ | refine a_or ?_ | refine a_ite ?_ | refine a_andV ?_ | refine a_orV ?_ | refine a_call ?_ | refine a_callK ?_ | refine a_met ?_ | refine a_sl ?_ | refine a_no ?_ | refine a_so ?_ | refine a_exi ?_ | refine a_neg ?_ | refine a_rev ?_ | refine a_gnm ?_ | refine a_gt2 ?_ | refine a_u0 ?_ | refine a_u1 ?_ | refine a_let ?_ | refine a_do ?_ | refine a_pars ?_ | refine a_rets ?_ | refine a_ifs ?_ | refine a_skips ?_ | refine a_set ?_ | refine a_exp ?_ | refine a_ret ?_ | refine a_if ?_ | refine a_par ?_ | refine a_as ?_ | refine a_bl ?_ | refine g_at0 ?_ | refine g_at1 ?_ | refine g_at2 ?_ | refine g_at3 ?_ | refine g_strs ?_ | refine g_nstr ?_ | refine g_eqi ?_ | refine g_nei ?_ | refine g_add ?_ | refine g_sub ?_ | refine g_gt ?_ | refine g_ge ?_ | refine g_lt ?_ | refine g_le ?_ | refine g_isn ?_ | refine g_isb ?_ | refine g_isnb ?_ | refine g_lent ?_ | refine g_int ?_) | refine ⟨(lenL (by simp only [List.length_cons, List.length_nil]; omega) : List.length _ ≤ sizeLine), ?_⟩
    rw [o_isi ht]
    exact ⟨_, rfl, by rw [← e]; rfl, rfl⟩
theorem is_number_w {n : Nat} {S : Sto} {v : Vl} {k : Int} (hv : tyOk S v) : wpe ((lev (n + 2)).1 3 [v, .int k] S) noE fun r S' => r = .bl (isNum v k) ∧ S' = S := by
  rw [lv_is_number]
  refine w_run rfl ?_
  unfold b_is_number
  repeat first | (with_reducible first | refine a_c ?_ | refine a_nil ?_ | refine a_cons ?_) | (with_reducible refine a_slot ?_; refine ⟨_, rfl, ?_⟩) | (with_reducible first | refine a_bin ?_ | refine a_bi ?_ | refine a_tup ?_ | refine a_lst ?_ | refine a_tst ?_ | refine a_not ?_ | refine a_and ?_ | refine a_or ?_ | refine a_ite ?_ | refine a_andV ?_ | refine a_orV ?_ | refine a_call ?_ | refine a_callK ?_ | refine a_met ?_ | refine a_sl ?_ | refine a_no ?_ | refine a_so ?_ | refine a_exi ?_ | refine a_neg ?_ | refine a_rev ?_ | refine a_gnm ?_ | refine a_gt2 ?_ | refine a_u0 ?_ | refine a_u1 ?_ | refine a_let ?_ | refine a_do ?_ | refine a_pars ?_ | refine a_rets ?_ | refine a_ifs ?_ | refine a_skips ?_ | refine a_set ?_ | refine a_exp ?_ | refine a_ret ?_ | refine a_if ?_ | refine a_par ?_ | refine a_as ?_ | refine a_bl ?_ | refine g_at0 ?_ | refine g_at1 ?_ | refine g_at2 ?_ | refine g_at3 ?_ | refine g_strs ?_ | refine g_nstr ?_ | refine g_eqi ?_ | refine g_nei ?_ | refine g_add ?_ | refine g_sub ?_ | refine g_gt ?_ | refine g_ge ?_ | refine g_lt ?_ | refine g_le ?_ | refine g_isn ?_ | refine g_isb ?_ | refine g_isnb ?_ | refine g_lent ?_ | refine g_int ?_) | refine ⟨(lenL (by simp only [List.length_cons, List.length_nil]; omega) : List.length _ ≤ sizeLine), ?_⟩
  refine wpe_mono (is_whole_w hv) ?_ (fun _ _ _ _ z => z.elim)
  rintro _ S1 ⟨rfl, rfl⟩
  refine ⟨_, rfl, ?_⟩
  cases v with
  | int i =>
    refine ifp rfl ?_
    refine a_chain ?_
    repeat first | (with_reducible first | refine a_c ?_ | refine a_nil ?_ | refine a_cons ?_) | (with_reducible refine a_slot ?_; refine ⟨_, rfl, ?_⟩) | (with_reducible first | refine a_bin ?_ | refine a_bi ?_ | refine a_tup ?_ | refine a_lst ?_ | refine a_tst ?_ | refine a_not ?_ | refine a_and ?_ | refine a_or ?_ | refine a_ite ?_ | refine a_andV ?_ | refine a_orV ?_ | refine a_call ?_ | refine a_callK ?_ | refine a_met ?_ | refine a_sl ?_ | refine a_no ?_ | refine a_so ?_ | refine a_exi ?_ | refine a_neg ?_ | refine a_rev ?_ | refine a_gnm ?_ | refine a_gt2 ?_ | refine a_u0 ?_ | refine a_u1 ?_ | refine a_let ?_ | refine a_do ?_ | refine a_pars ?_ | refine a_rets ?_ | refine a_ifs ?_ | refine a_skips ?_ | refine a_set ?_ | refine a_exp ?_ | refine a_ret ?_ | refine a_if ?_ | refine a_par ?_ | refine a_as ?_ | refine a_bl ?_ | refine g_at0 ?_ | refine g_at1 ?_ | refine g_at2 ?_ | refine g_at3 ?_ | refine g_strs ?_ | refine g_nstr ?_ | refine g_eqi ?_ | refine g_nei ?_ | refine g_add ?_ | refine g_sub ?_ | refine g_gt ?_ | refine g_ge ?_ | refine g_lt ?_ | refine g_le ?_ | refine g_isn ?_ | refine g_isb ?_ | refine g_isnb ?_ | refine g_lent ?_ | refine g_int ?_) | refine ⟨(lenL (by simp only [List.length_cons, List.length_nil]; omega) : List.length _ ≤ sizeLine), ?_⟩
    by_cases h0 : 0 ≤ i
    · refine ifp (decide_eq_true h0) ?_
      repeat first | (with_reducible first | refine a_c ?_ | refine a_nil ?_ | refine a_cons ?_) | (with_reducible refine a_slot ?_; refine ⟨_, rfl, ?_⟩) | (with_reducible first | refine a_bin ?_ | refine a_bi ?_ | refine a_tup ?_ | refine a_lst ?_ | refine a_tst ?_ | refine a_not ?_ | refine a_and ?_ | refine a_or ?_ | refine a_ite ?_ | refine a_andV ?_ | refine a_orV ?_ | refine a_call ?_ | refine a_callK ?_ | refine a_met ?_ | refine a_sl ?_ | refine a_no ?_ | refine a_so ?_ | refine a_exi ?_ | refine a_neg ?_ | refine a_rev ?_ | refine a_gnm ?_ | refine a_gt2 ?_ | refine a_u0 ?_ | refine a_u1 ?_ | refine a_let ?_ | refine a_do ?_ | refine a_pars ?_ | refine a_rets ?_ | refine a_ifs ?_ | refine a_skips ?_ | refine a_set ?_ | refine a_exp ?_ | refine a_ret ?_ | refine a_if ?_ | refine a_par ?_ | refine a_as ?_ | refine a_bl ?_ | refine g_at0 ?_ | refine g_at1 ?_ | refine g_at2 ?_ | refine g_at3 ?_ | refine g_strs ?_ | refine g_nstr ?_ | refine g_eqi ?_ | refine g_nei ?_ | refine g_add ?_ | refine g_sub ?_ | refine g_gt ?_ | refine g_ge ?_ | refine g_lt ?_ | refine g_le ?_ | refine g_isn ?_ | refine g_isb ?_ | refine g_isnb ?_ | refine g_lent ?_ | refine g_int ?_) | refine ⟨(lenL (by simp only [List.length_cons, List.length_nil]; omega) : List.length _ ≤ sizeLine), ?_⟩
      exact ⟨by simp [isNum, h0], rfl⟩
    · refine ifn (decide_eq_false h0) ?_
      exact ⟨by simp [isNum, h0], rfl⟩
  | _ => exact ifn rfl ⟨rfl, rfl⟩
/-! texts -/
def ltrs : Str := "abcdefghijklmnopqrstuvwxyz"
def isTxt (z : Str) : Bool := z.cps.toList.all fun c => inS ⟨#[c]⟩ ltrs
def isTx : Vl → Bool
  | .str z => isTxt z
  | _ => false
def chV (z : Str) : List Vl := z.cps.toList.map fun c => Vl.str ⟨#[c]⟩
theorem chV_len (z : Str) : (chV z).length = z.length := by unfold chV; rw [List.length_map]; rfl
theorem nxS_at {z : Str} {i : Nat} {S : Sto} : nxS z i S = some (chV z)[i]? := by
  unfold nxS chV
  rw [List.getElem?_map, Array.getElem?_toList]
theorem o_inStr {x y : Str} {S : Sto} {Z : Vl → Sto → Prop} : wpo (bIn false (.str x) (.str y) S) Z = Z (.bl (inS x y)) S := rfl
theorem o_notStr {x y : Str} {S : Sto} {Z : Vl → Sto → Prop} : wpo (bIn true (.str x) (.str y) S) Z = Z (.bl (!inS x y)) S := rfl
theorem o_lens {z : Str} {S : Sto} {Z : Vl → Sto → Prop} (h : z.length ≤ 1000) : wpo (bLen [.str z] S) Z = Z (.int z.length) S := by
  show wpo (if z.length ≤ sizeLine then some (.int z.length, S) else none) Z = _
  rw [if_pos (by rw [show sizeLine = 16777216 from rfl]; omega)]
  rfl
theorem is_text_w {n : Nat} {S : Sto} {v : Vl} (hv : tyOk S v) (hs : ∀ z, v = .str z → z.length ≤ 1000) : wpe ((lev (n + 1)).1 1 [v] S) noE fun r S' => r = .bl (isTx v) ∧ Gr 0 S S' := by
  obtain ⟨t, ht⟩ := hv
  rw [lv_is_text]
  refine w_run rfl ?_
  unfold b_is_text
  repeat first | (with_reducible first | refine a_c ?_ | refine a_nil ?_ | refine a_cons ?_) | (with_reducible refine a_slot ?_; refine ⟨_, rfl, ?_⟩) | (with_reducible first | refine a_bin ?_ | refine a_bi ?_ | refine a_tup ?_ | refine a_lst ?_ | refine a_tst ?_ | refine a_not ?_ | refine a_and ?_ | refine a_or ?_ | refine a_ite ?_ | refine a_andV ?_ | refine a_orV ?_ | refine a_call ?_ | refine a_callK ?_ | refine a_met ?_ | refine a_sl ?_ | refine a_no ?_ | refine a_so ?_ | refine a_exi ?_ | refine a_neg ?_ | refine a_rev ?_ | refine a_gnm ?_ | refine a_gt2 ?_ | refine a_u0 ?_ | refine a_u1 ?_ | refine a_let ?_ | refine a_do ?_ | refine a_pars ?_ | refine a_rets ?_ | refine a_ifs ?_ | refine a_skips ?_ | refine a_set ?_ | refine a_exp ?_ | refine a_ret ?_ | refine a_if ?_ | refine a_par ?_ | refine a_as ?_ | refine a_bl ?_ | refine g_at0 ?_ | refine g_at1 ?_ | refine g_at2 ?_ | refine g_at3 ?_ | refine g_strs ?_ | refine g_nstr ?_ | refine g_eqi ?_ | refine g_nei ?_ | refine g_add ?_ | refine g_sub ?_ | refine g_gt ?_ | refine g_ge ?_ | refine g_lt ?_ | refine g_le ?_ | refine g_isn ?_ | refine g_isb ?_ | refine g_isnb ?_ | refine g_lent ?_ | refine g_int ?_) | refine ⟨(lenL (by simp only [List.length_cons, List.length_nil]; omega) : List.length _ ≤ sizeLine), ?_⟩
  rw [o_isStr ht]
  refine ⟨_, rfl, ?_⟩
  cases v with
  | str z =>
    have hz := hs z rfl
    refine ifp rfl ?_
    refine w_all ?_
    rw [w_it]
    repeat first | (with_reducible first | refine a_c ?_ | refine a_nil ?_ | refine a_cons ?_) | (with_reducible refine a_slot ?_; refine ⟨_, rfl, ?_⟩) | (with_reducible first | refine a_bin ?_ | refine a_bi ?_ | refine a_tup ?_ | refine a_lst ?_ | refine a_tst ?_ | refine a_not ?_ | refine a_and ?_ | refine a_or ?_ | refine a_ite ?_ | refine a_andV ?_ | refine a_orV ?_ | refine a_call ?_ | refine a_callK ?_ | refine a_met ?_ | refine a_sl ?_ | refine a_no ?_ | refine a_so ?_ | refine a_exi ?_ | refine a_neg ?_ | refine a_rev ?_ | refine a_gnm ?_ | refine a_gt2 ?_ | refine a_u0 ?_ | refine a_u1 ?_ | refine a_let ?_ | refine a_do ?_ | refine a_pars ?_ | refine a_rets ?_ | refine a_ifs ?_ | refine a_skips ?_ | refine a_set ?_ | refine a_exp ?_ | refine a_ret ?_ | refine a_if ?_ | refine a_par ?_ | refine a_as ?_ | refine a_bl ?_ | refine g_at0 ?_ | refine g_at1 ?_ | refine g_at2 ?_ | refine g_at3 ?_ | refine g_strs ?_ | refine g_nstr ?_ | refine g_eqi ?_ | refine g_nei ?_ | refine g_add ?_ | refine g_sub ?_ | refine g_gt ?_ | refine g_ge ?_ | refine g_lt ?_ | refine g_le ?_ | refine g_isn ?_ | refine g_isb ?_ | refine g_isnb ?_ | refine g_lent ?_ | refine g_int ?_) | refine ⟨(lenL (by simp only [List.length_cons, List.length_nil]; omega) : List.length _ ≤ sizeLine), ?_⟩
    refine .inr (.inr ⟨z, rfl, chV z, fun x => match x with | .str y => inS y ltrs | _ => false, by rw [chV_len]; omega, fun j S2 _ _ => nxS_at, fun x hx S2 g => ?_, fun S2 g => ?_⟩)
    · unfold chV at hx
      obtain ⟨c, _, rfl⟩ := List.mem_map.mp hx
      show wpe (mBin _ (mSlot 1) (mC k_LETTERS) _ S2) noE _
      refine a_bin ?_
      refine a_slot ⟨_, rfl, a_c ?_⟩
      unfold k_LETTERS
      rw [o_inStr]
      exact ⟨rfl, Gr.refl⟩
    · refine ⟨?_, g⟩
      unfold chV
      rw [List.all_map]
      rfl
  | _ => exact ifn rfl ⟨rfl, Gr.refl⟩
end G

set_option linter.all false
set_option maxRecDepth 100000
set_option maxHeartbeats 4000000
namespace G
open PySem PySem.Spec PyProof.Rows L2 Q

/-! ### letters, states, machines -/
def ascP {α : Type} (lt : α → α → Bool) (xs : List α) : Vl → Bool
  | .int k => (match xs[k.toNat]?, xs[k.toNat + 1]? with | some a, some b => lt a b | _, _ => false)
  | _ => false
theorem ascP_at {α : Type} {lt : α → α → Bool} {xs : List α} {k : Nat} {a b : α} (h1 : xs[k]? = some a) (h2 : xs[k + 1]? = some b) : ascP lt xs (.int k) = lt a b := by
  show (match xs[k]?, xs[k + 1]? with | some a, some b => lt a b | _, _ => false) = _
  rw [h1, h2]
theorem asc_all {α : Type} {lt : α → α → Bool} (tr : ∀ a b c, lt a b = true → lt b c = true → lt a c = true) (xs : List α) : (rng (xs.length - 1)).all (ascP lt xs) = true ↔ xs.Pairwise fun a b => lt a b = true := by
  constructor
  · intro h
    refine asc_pw (lt := fun a b => lt a b = true) tr xs fun k a b h1 h2 => ?_
    have hk := (List.getElem?_eq_some_iff.mp h2).1
    have hm : Vl.int (k : Int) ∈ rng (xs.length - 1) := by
      unfold rng
      exact List.mem_map.mpr ⟨k, List.mem_range.mpr (by omega), rfl⟩
    have := List.all_eq_true.mp h _ hm
    rw [ascP_at h1 h2] at this
    exact this
  · intro h
    refine List.all_eq_true.mpr fun x hx => ?_
    unfold rng at hx
    obtain ⟨k, hk, rfl⟩ := List.mem_map.mp hx
    have hk := List.mem_range.mp hk
    rw [ascP_at (List.getElem?_eq_getElem (show k < xs.length by omega)) (List.getElem?_eq_getElem (show k + 1 < xs.length by omega))]
    exact pw_asc (lt := fun a b => lt a b = true) h k _ _ (List.getElem?_eq_getElem _) (List.getElem?_eq_getElem _)
def ascZ (z : Str) : Bool := (rng (z.cps.toList.length - 1)).all (ascP (fun a b => decide (a < b)) z.cps.toList)
theorem ascZ_iff {z : Str} : ascZ z = true ↔ z.cps.toList.Pairwise (· < ·) := by
  unfold ascZ
  rw [asc_all (fun a b c h1 h2 => by simp at *; omega)]
  simp
def isLet : Vl → Bool
  | .str z => isTxt z && (decide (1 ≤ z.length) && decide (z.length ≤ 26)) && ascZ z
  | _ => false
theorem len_cps (z : Str) : z.cps.toList.length = z.length := by rw [Array.length_toList]; rfl
theorem are_letters_w {n : Nat} {S : Sto} {v : Vl} (hv : tyOk S v) (hs : ∀ z, v = .str z → z.length ≤ 1000) : wpe ((lev (n + 2)).1 4 [v] S) noE fun r S' => r = .bl (isLet v) ∧ Gr 0 S S' := by
  rw [lv_are_letters]
  refine w_run rfl ?_
  unfold b_are_letters
  repeat first | (with_reducible first | refine a_c ?_ | refine a_nil ?_ | refine a_cons ?_) | (with_reducible refine a_slot ?_; refine ⟨_, rfl, ?_⟩) | (with_reducible first | refine a_bin ?_ | refine a_bi ?_ | refine a_tup ?_ | refine a_lst ?_ | refine a_tst ?_ | refine a_not ?_ | refine a_and ?_ | refine a_or ?_ | refine a_ite ?_ | refine a_andV ?_ | refine a_orV ?_ | refine a_call ?_ | refine a_callK ?_ | refine a_met ?_ | refine a_sl ?_ | refine a_no ?_ | refine a_so ?_ | refine a_exi ?_ | refine a_neg ?_ | refine a_rev ?_ | refine a_gnm ?_ | refine a_gt2 ?_ | refine a_u0 ?_ | refine a_u1 ?_ | refine a_let ?_ | refine a_do ?_ | refine a_pars ?_ | refine a_rets ?_ | refine a_ifs ?_ | refine a_skips ?_ | refine a_set ?_ | refine a_exp ?_ | refine a_ret ?_ | refine a_if ?_ | refine a_par ?_ | refine a_as ?_ | refine a_bl ?_ | refine g_at0 ?_ | refine g_at1 ?_ | refine g_at2 ?_ | refine g_at3 ?_ | refine g_strs ?_ | refine g_nstr ?_ | refine g_eqi ?_ | refine g_nei ?_ | refine g_add ?_ | refine g_sub ?_ | refine g_gt ?_ | refine g_ge ?_ | refine g_lt ?_ | refine g_le ?_ | refine g_isn ?_ | refine g_isb ?_ | refine g_isnb ?_ | refine g_lent ?_ | refine g_int ?_) | refine ⟨(lenL (by simp only [List.length_cons, List.length_nil]; omega) : List.length _ ≤ sizeLine), ?_⟩
  refine wpe_mono (is_text_w hv hs) ?_ (fun _ _ _ _ z => z.elim)
  rintro _ S1 ⟨rfl, g1⟩
  repeat first | (with_reducible first | refine a_c ?_ | refine a_nil ?_ | refine a_cons ?_) | (with_reducible refine a_slot ?_; refine ⟨_, rfl, ?_⟩) | (with_reducible first | refine a_bin ?_ | refine a_bi ?_ | refine a_tup ?_ | refine a_lst ?_ | refine a_tst ?_ | refine a_not ?_ | refine a_and ?_ | refine a_or ?_ | refine a_ite ?_ | refine a_andV ?_ | refine a_orV ?_ | refine a_call ?_ | refine a_callK ?_ | refine a_met ?_ | refine a_sl ?_ | refine a_no ?_ | refine a_so ?_ | refine a_exi ?_ | refine a_neg ?_ | refine a_rev ?_ | refine a_gnm ?_ | refine a_gt2 ?_ | refine a_u0 ?_ | refine a_u1 ?_ | refine a_let ?_ | refine a_do ?_ | refine a_pars ?_ | refine a_rets ?_ | refine a_ifs ?_ | refine a_skips ?_ | refine a_set ?_ | refine a_exp ?_ | refine a_ret ?_ | refine a_if ?_ | refine a_par ?_ | refine a_as ?_ | refine a_bl ?_ | refine g_at0 ?_ | refine g_at1 ?_ | refine g_at2 ?_ | refine g_at3 ?_ | refine g_strs ?_ | refine g_nstr ?_ | refine g_eqi ?_ | refine g_nei ?_ | refine g_add ?_ | refine g_sub ?_ | refine g_gt ?_ | refine g_ge ?_ | refine g_lt ?_ | refine g_le ?_ | refine g_isn ?_ | refine g_isb ?_ | refine g_isnb ?_ | refine g_lent ?_ | refine g_int ?_) | refine ⟨(lenL (by simp only [List.length_cons, List.length_nil]; omega) : List.length _ ≤ sizeLine), ?_⟩
  cases v with
  | str z =>
    have hz := hs z rfl
    cases h1 : isTxt z with
    | false =>
      refine ifp (by show (!isTxt z) = true; rw [h1]; rfl) ?_
      repeat first | (with_reducible first | refine a_c ?_ | refine a_nil ?_ | refine a_cons ?_) | (with_reducible refine a_slot ?_; refine ⟨_, rfl, ?_⟩) | (with_reducible first | refine a_bin ?_ | refine a_bi ?_ | refine a_tup ?_ | refine a_lst ?_ | refine a_tst ?_ | refine a_not ?_ | refine a_and ?_ | refine a_or ?_ | refine a_ite ?_ | refine a_andV ?_ | refine a_orV ?_ | refine a_call ?_ | refine a_callK ?_ | refine a_met ?_ | refine a_sl ?_ | refine a_no ?_ | refine a_so ?_ | refine a_exi ?_ | refine a_neg ?_ | refine a_rev ?_ | refine a_gnm ?_ | refine a_gt2 ?_ | refine a_u0 ?_ | refine a_u1 ?_ | refine a_let ?_ | refine a_do ?_ | refine a_pars ?_ | refine a_rets ?_ | refine a_ifs ?_ | refine a_skips ?_ | refine a_set ?_ | refine a_exp ?_ | refine a_ret ?_ | refine a_if ?_ | refine a_par ?_ | refine a_as ?_ | refine a_bl ?_ | refine g_at0 ?_ | refine g_at1 ?_ | refine g_at2 ?_ | refine g_at3 ?_ | refine g_strs ?_ | refine g_nstr ?_ | refine g_eqi ?_ | refine g_nei ?_ | refine g_add ?_ | refine g_sub ?_ | refine g_gt ?_ | refine g_ge ?_ | refine g_lt ?_ | refine g_le ?_ | refine g_isn ?_ | refine g_isb ?_ | refine g_isnb ?_ | refine g_lent ?_ | refine g_int ?_) | refine ⟨(lenL (by simp only [List.length_cons, List.length_nil]; omega) : List.length _ ≤ sizeLine), ?_⟩
      exact ⟨by show Vl.bl _ = Vl.bl (isTxt z && _ && _); rw [h1]; rfl, g1⟩
    | true =>
      refine ifn (by show (!isTxt z) = false; rw [h1]; rfl) ?_
      repeat first | (with_reducible first | refine a_c ?_ | refine a_nil ?_ | refine a_cons ?_) | (with_reducible refine a_slot ?_; refine ⟨_, rfl, ?_⟩) | (with_reducible first | refine a_bin ?_ | refine a_bi ?_ | refine a_tup ?_ | refine a_lst ?_ | refine a_tst ?_ | refine a_not ?_ | refine a_and ?_ | refine a_or ?_ | refine a_ite ?_ | refine a_andV ?_ | refine a_orV ?_ | refine a_call ?_ | refine a_callK ?_ | refine a_met ?_ | refine a_sl ?_ | refine a_no ?_ | refine a_so ?_ | refine a_exi ?_ | refine a_neg ?_ | refine a_rev ?_ | refine a_gnm ?_ | refine a_gt2 ?_ | refine a_u0 ?_ | refine a_u1 ?_ | refine a_let ?_ | refine a_do ?_ | refine a_pars ?_ | refine a_rets ?_ | refine a_ifs ?_ | refine a_skips ?_ | refine a_set ?_ | refine a_exp ?_ | refine a_ret ?_ | refine a_if ?_ | refine a_par ?_ | refine a_as ?_ | refine a_bl ?_ | refine g_at0 ?_ | refine g_at1 ?_ | refine g_at2 ?_ | refine g_at3 ?_ | refine g_strs ?_ | refine g_nstr ?_ | refine g_eqi ?_ | refine g_nei ?_ | refine g_add ?_ | refine g_sub ?_ | refine g_gt ?_ | refine g_ge ?_ | refine g_lt ?_ | refine g_le ?_ | refine g_isn ?_ | refine g_isb ?_ | refine g_isnb ?_ | refine g_lent ?_ | refine g_int ?_) | refine ⟨(lenL (by simp only [List.length_cons, List.length_nil]; omega) : List.length _ ≤ sizeLine), ?_⟩
      refine a_chain ?_
      repeat first | (with_reducible first | refine a_c ?_ | refine a_nil ?_ | refine a_cons ?_) | (with_reducible refine a_slot ?_; refine ⟨_, rfl, ?_⟩) | (with_reducible first | refine a_bin ?_ | refine a_bi ?_ | refine a_tup ?_ | refine a_lst ?_ | refine a_tst ?_ | refine a_not ?_ | refine a_and ?_ | refine a_or ?_ | refine a_ite ?_ | refine a_andV ?_ | refine a_orV ?_ | refine a_call ?_ | refine a_callK ?_ | refine a_met ?_ | refine a_sl ?_ | refine a_no ?_ | refine a_so ?_ | refine a_exi ?_ | refine a_neg ?_ | refine a_rev ?_ | refine a_gnm ?_ | refine a_gt2 ?_ | refine a_u0 ?_ | refine a_u1 ?_ | refine a_let ?_ | refine a_do ?_ | refine a_pars ?_ | refine a_rets ?_ | refine a_ifs ?_ | refine a_skips ?_ | refine a_set ?_ | refine a_exp ?_ | refine a_ret ?_ | refine a_if ?_ | refine a_par ?_ | refine a_as ?_ | refine a_bl ?_ | refine g_at0 ?_ | refine g_at1 ?_ | refine g_at2 ?_ | refine g_at3 ?_ | refine g_strs ?_ | refine g_nstr ?_ | refine g_eqi ?_ | refine g_nei ?_ | refine g_add ?_ | refine g_sub ?_ | refine g_gt ?_ | refine g_ge ?_ | refine g_lt ?_ | refine g_le ?_ | refine g_isn ?_ | refine g_isb ?_ | refine g_isnb ?_ | refine g_lent ?_ | refine g_int ?_) | refine ⟨(lenL (by simp only [List.length_cons, List.length_nil]; omega) : List.length _ ≤ sizeLine), ?_⟩
      rw [o_lens hz]
      unfold k_MOST_LETTERS
      repeat first | (with_reducible first | refine a_c ?_ | refine a_nil ?_ | refine a_cons ?_) | (with_reducible refine a_slot ?_; refine ⟨_, rfl, ?_⟩) | (with_reducible first | refine a_bin ?_ | refine a_bi ?_ | refine a_tup ?_ | refine a_lst ?_ | refine a_tst ?_ | refine a_not ?_ | refine a_and ?_ | refine a_or ?_ | refine a_ite ?_ | refine a_andV ?_ | refine a_orV ?_ | refine a_call ?_ | refine a_callK ?_ | refine a_met ?_ | refine a_sl ?_ | refine a_no ?_ | refine a_so ?_ | refine a_exi ?_ | refine a_neg ?_ | refine a_rev ?_ | refine a_gnm ?_ | refine a_gt2 ?_ | refine a_u0 ?_ | refine a_u1 ?_ | refine a_let ?_ | refine a_do ?_ | refine a_pars ?_ | refine a_rets ?_ | refine a_ifs ?_ | refine a_skips ?_ | refine a_set ?_ | refine a_exp ?_ | refine a_ret ?_ | refine a_if ?_ | refine a_par ?_ | refine a_as ?_ | refine a_bl ?_ | refine g_at0 ?_ | refine g_at1 ?_ | refine g_at2 ?_ | refine g_at3 ?_ | refine g_strs ?_ | refine g_nstr ?_ | refine g_eqi ?_ | refine g_nei ?_ | refine g_add ?_ | refine g_sub ?_ | refine g_gt ?_ | refine g_ge ?_ | refine g_lt ?_ | refine g_le ?_ | refine g_isn ?_ | refine g_isb ?_ | refine g_isnb ?_ | refine g_lent ?_ | refine g_int ?_) | refine ⟨(lenL (by simp only [List.length_cons, List.length_nil]; omega) : List.length _ ≤ sizeLine), ?_⟩
      by_cases h2 : 1 ≤ z.length
      · refine ifp (decide_eq_true (by omega)) ?_
        repeat first | (with_reducible first | refine a_c ?_ | refine a_nil ?_ | refine a_cons ?_) | (with_reducible refine a_slot ?_; refine ⟨_, rfl, ?_⟩) | (with_reducible first | refine a_bin ?_ | refine a_bi ?_ | refine a_tup ?_ | refine a_lst ?_ | refine a_tst ?_ | refine a_not ?_ | refine a_and ?_ | refine a_or ?_ | refine a_ite ?_ | refine a_andV ?_ | refine a_orV ?_ | refine a_call ?_ | refine a_callK ?_ | refine a_met ?_ | refine a_sl ?_ | refine a_no ?_ | refine a_so ?_ | refine a_exi ?_ | refine a_neg ?_ | refine a_rev ?_ | refine a_gnm ?_ | refine a_gt2 ?_ | refine a_u0 ?_ | refine a_u1 ?_ | refine a_let ?_ | refine a_do ?_ | refine a_pars ?_ | refine a_rets ?_ | refine a_ifs ?_ | refine a_skips ?_ | refine a_set ?_ | refine a_exp ?_ | refine a_ret ?_ | refine a_if ?_ | refine a_par ?_ | refine a_as ?_ | refine a_bl ?_ | refine g_at0 ?_ | refine g_at1 ?_ | refine g_at2 ?_ | refine g_at3 ?_ | refine g_strs ?_ | refine g_nstr ?_ | refine g_eqi ?_ | refine g_nei ?_ | refine g_add ?_ | refine g_sub ?_ | refine g_gt ?_ | refine g_ge ?_ | refine g_lt ?_ | refine g_le ?_ | refine g_isn ?_ | refine g_isb ?_ | refine g_isnb ?_ | refine g_lent ?_ | refine g_int ?_) | refine ⟨(lenL (by simp only [List.length_cons, List.length_nil]; omega) : List.length _ ≤ sizeLine), ?_⟩
        by_cases h3 : z.length ≤ 26
        · refine ifn (by rw [Bool.not_eq_false', decide_eq_true_iff]; omega) ?_
          refine a_ret ?_
          refine w_all ?_
          rw [w_itR1]
          repeat first | (with_reducible first | refine a_c ?_ | refine a_nil ?_ | refine a_cons ?_) | (with_reducible refine a_slot ?_; refine ⟨_, rfl, ?_⟩) | (with_reducible first | refine a_bin ?_ | refine a_bi ?_ | refine a_tup ?_ | refine a_lst ?_ | refine a_tst ?_ | refine a_not ?_ | refine a_and ?_ | refine a_or ?_ | refine a_ite ?_ | refine a_andV ?_ | refine a_orV ?_ | refine a_call ?_ | refine a_callK ?_ | refine a_met ?_ | refine a_sl ?_ | refine a_no ?_ | refine a_so ?_ | refine a_exi ?_ | refine a_neg ?_ | refine a_rev ?_ | refine a_gnm ?_ | refine a_gt2 ?_ | refine a_u0 ?_ | refine a_u1 ?_ | refine a_let ?_ | refine a_do ?_ | refine a_pars ?_ | refine a_rets ?_ | refine a_ifs ?_ | refine a_skips ?_ | refine a_set ?_ | refine a_exp ?_ | refine a_ret ?_ | refine a_if ?_ | refine a_par ?_ | refine a_as ?_ | refine a_bl ?_ | refine g_at0 ?_ | refine g_at1 ?_ | refine g_at2 ?_ | refine g_at3 ?_ | refine g_strs ?_ | refine g_nstr ?_ | refine g_eqi ?_ | refine g_nei ?_ | refine g_add ?_ | refine g_sub ?_ | refine g_gt ?_ | refine g_ge ?_ | refine g_lt ?_ | refine g_le ?_ | refine g_isn ?_ | refine g_isb ?_ | refine g_isnb ?_ | refine g_lent ?_ | refine g_int ?_) | refine ⟨(lenL (by simp only [List.length_cons, List.length_nil]; omega) : List.length _ ≤ sizeLine), ?_⟩
          rw [o_lens hz]
          repeat first | (with_reducible first | refine a_c ?_ | refine a_nil ?_ | refine a_cons ?_) | (with_reducible refine a_slot ?_; refine ⟨_, rfl, ?_⟩) | (with_reducible first | refine a_bin ?_ | refine a_bi ?_ | refine a_tup ?_ | refine a_lst ?_ | refine a_tst ?_ | refine a_not ?_ | refine a_and ?_ | refine a_or ?_ | refine a_ite ?_ | refine a_andV ?_ | refine a_orV ?_ | refine a_call ?_ | refine a_callK ?_ | refine a_met ?_ | refine a_sl ?_ | refine a_no ?_ | refine a_so ?_ | refine a_exi ?_ | refine a_neg ?_ | refine a_rev ?_ | refine a_gnm ?_ | refine a_gt2 ?_ | refine a_u0 ?_ | refine a_u1 ?_ | refine a_let ?_ | refine a_do ?_ | refine a_pars ?_ | refine a_rets ?_ | refine a_ifs ?_ | refine a_skips ?_ | refine a_set ?_ | refine a_exp ?_ | refine a_ret ?_ | refine a_if ?_ | refine a_par ?_ | refine a_as ?_ | refine a_bl ?_ | refine g_at0 ?_ | refine g_at1 ?_ | refine g_at2 ?_ | refine g_at3 ?_ | refine g_strs ?_ | refine g_nstr ?_ | refine g_eqi ?_ | refine g_nei ?_ | refine g_add ?_ | refine g_sub ?_ | refine g_gt ?_ | refine g_ge ?_ | refine g_lt ?_ | refine g_le ?_ | refine g_isn ?_ | refine g_isb ?_ | refine g_isnb ?_ | refine g_lent ?_ | refine g_int ?_) | refine ⟨(lenL (by simp only [List.length_cons, List.length_nil]; omega) : List.length _ ≤ sizeLine), ?_⟩
          refine ⟨_, rfl, by omega, by omega, rng (z.cps.toList.length - 1), ascP (fun a b => decide (a < b)) z.cps.toList, by rw [rng_len, len_cps]; omega, fun j S2 _ _ => ?_, fun x hx S2 g => ?_, fun S2 g => ?_⟩
          · rw [show ((z.length : Int) - 1).toNat = z.cps.toList.length - 1 by rw [len_cps]; omega]
            exact rng_at
          · unfold rng at hx
            obtain ⟨k, hk, rfl⟩ := List.mem_map.mp hx
            have hk := List.mem_range.mp hk
            have lk := len_cps z
            have k1 : k < z.cps.toList.length := by omega
            have k2 : k + 1 < z.cps.toList.length := by omega
            show wpe (mBin bLtS (mBin bSub' (mSlot 0) (mSlot 1)) (mBin bSub' (mSlot 0) (mBin bAdd (mSlot 1) (mC (.int 1)))) [some (.str z), some (.int k)] S2) noE _
            repeat first | (with_reducible first | refine a_c ?_ | refine a_nil ?_ | refine a_cons ?_) | (with_reducible refine a_slot ?_; refine ⟨_, rfl, ?_⟩) | (with_reducible first | refine a_bin ?_ | refine a_bi ?_ | refine a_tup ?_ | refine a_lst ?_ | refine a_tst ?_ | refine a_not ?_ | refine a_and ?_ | refine a_or ?_ | refine a_ite ?_ | refine a_andV ?_ | refine a_orV ?_ | refine a_call ?_ | refine a_callK ?_ | refine a_met ?_ | refine a_sl ?_ | refine a_no ?_ | refine a_so ?_ | refine a_exi ?_ | refine a_neg ?_ | refine a_rev ?_ | refine a_gnm ?_ | refine a_gt2 ?_ | refine a_u0 ?_ | refine a_u1 ?_ | refine a_let ?_ | refine a_do ?_ | refine a_pars ?_ | refine a_rets ?_ | refine a_ifs ?_ | refine a_skips ?_ | refine a_set ?_ | refine a_exp ?_ | refine a_ret ?_ | refine a_if ?_ | refine a_par ?_ | refine a_as ?_ | refine a_bl ?_ | refine g_at0 ?_ | refine g_at1 ?_ | refine g_at2 ?_ | refine g_at3 ?_ | refine g_strs ?_ | refine g_nstr ?_ | refine g_eqi ?_ | refine g_nei ?_ | refine g_add ?_ | refine g_sub ?_ | refine g_gt ?_ | refine g_ge ?_ | refine g_lt ?_ | refine g_le ?_ | refine g_isn ?_ | refine g_isb ?_ | refine g_isnb ?_ | refine g_lent ?_ | refine g_int ?_) | refine ⟨(lenL (by simp only [List.length_cons, List.length_nil]; omega) : List.length _ ≤ sizeLine), ?_⟩
            rw [o_ats (List.getElem?_eq_getElem k1) (by omega)]
            repeat first | (with_reducible first | refine a_c ?_ | refine a_nil ?_ | refine a_cons ?_) | (with_reducible refine a_slot ?_; refine ⟨_, rfl, ?_⟩) | (with_reducible first | refine a_bin ?_ | refine a_bi ?_ | refine a_tup ?_ | refine a_lst ?_ | refine a_tst ?_ | refine a_not ?_ | refine a_and ?_ | refine a_or ?_ | refine a_ite ?_ | refine a_andV ?_ | refine a_orV ?_ | refine a_call ?_ | refine a_callK ?_ | refine a_met ?_ | refine a_sl ?_ | refine a_no ?_ | refine a_so ?_ | refine a_exi ?_ | refine a_neg ?_ | refine a_rev ?_ | refine a_gnm ?_ | refine a_gt2 ?_ | refine a_u0 ?_ | refine a_u1 ?_ | refine a_let ?_ | refine a_do ?_ | refine a_pars ?_ | refine a_rets ?_ | refine a_ifs ?_ | refine a_skips ?_ | refine a_set ?_ | refine a_exp ?_ | refine a_ret ?_ | refine a_if ?_ | refine a_par ?_ | refine a_as ?_ | refine a_bl ?_ | refine g_at0 ?_ | refine g_at1 ?_ | refine g_at2 ?_ | refine g_at3 ?_ | refine g_strs ?_ | refine g_nstr ?_ | refine g_eqi ?_ | refine g_nei ?_ | refine g_add ?_ | refine g_sub ?_ | refine g_gt ?_ | refine g_ge ?_ | refine g_lt ?_ | refine g_le ?_ | refine g_isn ?_ | refine g_isb ?_ | refine g_isnb ?_ | refine g_lent ?_ | refine g_int ?_) | refine ⟨(lenL (by simp only [List.length_cons, List.length_nil]; omega) : List.length _ ≤ sizeLine), ?_⟩
            rw [show ((k : Int) + 1) = ((k + 1 : Nat) : Int) by push_cast; rfl, o_ats (List.getElem?_eq_getElem k2) (by omega), o_ltS]
            refine ⟨?_, Gr.refl⟩
            rw [ascP_at (List.getElem?_eq_getElem k1) (List.getElem?_eq_getElem k2)]
            simp only [lt_one]
          · refine ⟨?_, g1.trans g⟩
            show Vl.bl (ascZ z) = Vl.bl (isTxt z && _ && ascZ z)
            rw [h1, decide_eq_true h2, decide_eq_true h3]
            rfl
        · refine ifp (by rw [Bool.not_eq_true', decide_eq_false_iff_not]; omega) ?_
          repeat first | (with_reducible first | refine a_c ?_ | refine a_nil ?_ | refine a_cons ?_) | (with_reducible refine a_slot ?_; refine ⟨_, rfl, ?_⟩) | (with_reducible first | refine a_bin ?_ | refine a_bi ?_ | refine a_tup ?_ | refine a_lst ?_ | refine a_tst ?_ | refine a_not ?_ | refine a_and ?_ | refine a_or ?_ | refine a_ite ?_ | refine a_andV ?_ | refine a_orV ?_ | refine a_call ?_ | refine a_callK ?_ | refine a_met ?_ | refine a_sl ?_ | refine a_no ?_ | refine a_so ?_ | refine a_exi ?_ | refine a_neg ?_ | refine a_rev ?_ | refine a_gnm ?_ | refine a_gt2 ?_ | refine a_u0 ?_ | refine a_u1 ?_ | refine a_let ?_ | refine a_do ?_ | refine a_pars ?_ | refine a_rets ?_ | refine a_ifs ?_ | refine a_skips ?_ | refine a_set ?_ | refine a_exp ?_ | refine a_ret ?_ | refine a_if ?_ | refine a_par ?_ | refine a_as ?_ | refine a_bl ?_ | refine g_at0 ?_ | refine g_at1 ?_ | refine g_at2 ?_ | refine g_at3 ?_ | refine g_strs ?_ | refine g_nstr ?_ | refine g_eqi ?_ | refine g_nei ?_ | refine g_add ?_ | refine g_sub ?_ | refine g_gt ?_ | refine g_ge ?_ | refine g_lt ?_ | refine g_le ?_ | refine g_isn ?_ | refine g_isb ?_ | refine g_isnb ?_ | refine g_lent ?_ | refine g_int ?_) | refine ⟨(lenL (by simp only [List.length_cons, List.length_nil]; omega) : List.length _ ≤ sizeLine), ?_⟩
          exact ⟨by show Vl.bl _ = Vl.bl (isTxt z && _ && _); rw [decide_eq_false h3]; simp, g1⟩
      · refine ifn (decide_eq_false (by omega)) ?_
        repeat first | (with_reducible first | refine a_c ?_ | refine a_nil ?_ | refine a_cons ?_) | (with_reducible refine a_slot ?_; refine ⟨_, rfl, ?_⟩) | (with_reducible first | refine a_bin ?_ | refine a_bi ?_ | refine a_tup ?_ | refine a_lst ?_ | refine a_tst ?_ | refine a_not ?_ | refine a_and ?_ | refine a_or ?_ | refine a_ite ?_ | refine a_andV ?_ | refine a_orV ?_ | refine a_call ?_ | refine a_callK ?_ | refine a_met ?_ | refine a_sl ?_ | refine a_no ?_ | refine a_so ?_ | refine a_exi ?_ | refine a_neg ?_ | refine a_rev ?_ | refine a_gnm ?_ | refine a_gt2 ?_ | refine a_u0 ?_ | refine a_u1 ?_ | refine a_let ?_ | refine a_do ?_ | refine a_pars ?_ | refine a_rets ?_ | refine a_ifs ?_ | refine a_skips ?_ | refine a_set ?_ | refine a_exp ?_ | refine a_ret ?_ | refine a_if ?_ | refine a_par ?_ | refine a_as ?_ | refine a_bl ?_ | refine g_at0 ?_ | refine g_at1 ?_ | refine g_at2 ?_ | refine g_at3 ?_ | refine g_strs ?_ | refine g_nstr ?_ | refine g_eqi ?_ | refine g_nei ?_ | refine g_add ?_ | refine g_sub ?_ | refine g_gt ?_ | refine g_ge ?_ | refine g_lt ?_ | refine g_le ?_ | refine g_isn ?_ | refine g_isb ?_ | refine g_isnb ?_ | refine g_lent ?_ | refine g_int ?_) | refine ⟨(lenL (by simp only [List.length_cons, List.length_nil]; omega) : List.length _ ≤ sizeLine), ?_⟩
        refine ifp rfl ?_
        repeat first | (with_reducible first | refine a_c ?_ | refine a_nil ?_ | refine a_cons ?_) | (with_reducible refine a_slot ?_; refine ⟨_, rfl, ?_⟩) | (with_reducible first | refine a_bin ?_ | refine a_bi ?_ | refine a_tup ?_ | refine a_lst ?_ | refine a_tst ?_ | refine a_not ?_ | refine a_and ?_ | refine a_or ?_ | refine a_ite ?_ | refine a_andV ?_ | refine a_orV ?_ | refine a_call ?_ | refine a_callK ?_ | refine a_met ?_ | refine a_sl ?_ | refine a_no ?_ | refine a_so ?_ | refine a_exi ?_ | refine a_neg ?_ | refine a_rev ?_ | refine a_gnm ?_ | refine a_gt2 ?_ | refine a_u0 ?_ | refine a_u1 ?_ | refine a_let ?_ | refine a_do ?_ | refine a_pars ?_ | refine a_rets ?_ | refine a_ifs ?_ | refine a_skips ?_ | refine a_set ?_ | refine a_exp ?_ | refine a_ret ?_ | refine a_if ?_ | refine a_par ?_ | refine a_as ?_ | refine a_bl ?_ | refine g_at0 ?_ | refine g_at1 ?_ | refine g_at2 ?_ | refine g_at3 ?_ | refine g_strs ?_ | refine g_nstr ?_ | refine g_eqi ?_ | refine g_nei ?_ | refine g_add ?_ | refine g_sub ?_ | refine g_gt ?_ | refine g_ge ?_ | refine g_lt ?_ | refine g_le ?_ | refine g_isn ?_ | refine g_isb ?_ | refine g_isnb ?_ | refine g_lent ?_ | refine g_int ?_) | refine ⟨(lenL (by simp only [List.length_cons, List.length_nil]; omega) : List.length _ ≤ sizeLine), ?_⟩
        exact ⟨by show Vl.bl _ = Vl.bl (isTxt z && _ && _); rw [decide_eq_false h2]; simp, g1⟩
  | _ =>
    refine ifp rfl ?_
    repeat first | (with_reducible first | refine a_c ?_ | refine a_nil ?_ | refine a_cons ?_) | (with_reducible refine a_slot ?_; refine ⟨_, rfl, ?_⟩) | (with_reducible first | refine a_bin ?_ | refine a_bi ?_ | refine a_tup ?_ | refine a_lst ?_ | refine a_tst ?_ | refine a_not ?_ | refine a_and ?_ | refine a_or ?_ | refine a_ite ?_ | refine a_andV ?_ | refine a_orV ?_ | refine a_call ?_ | refine a_callK ?_ | refine a_met ?_ | refine a_sl ?_ | refine a_no ?_ | refine a_so ?_ | refine a_exi ?_ | refine a_neg ?_ | refine a_rev ?_ | refine a_gnm ?_ | refine a_gt2 ?_ | refine a_u0 ?_ | refine a_u1 ?_ | refine a_let ?_ | refine a_do ?_ | refine a_pars ?_ | refine a_rets ?_ | refine a_ifs ?_ | refine a_skips ?_ | refine a_set ?_ | refine a_exp ?_ | refine a_ret ?_ | refine a_if ?_ | refine a_par ?_ | refine a_as ?_ | refine a_bl ?_ | refine g_at0 ?_ | refine g_at1 ?_ | refine g_at2 ?_ | refine g_at3 ?_ | refine g_strs ?_ | refine g_nstr ?_ | refine g_eqi ?_ | refine g_nei ?_ | refine g_add ?_ | refine g_sub ?_ | refine g_gt ?_ | refine g_ge ?_ | refine g_lt ?_ | refine g_le ?_ | refine g_isn ?_ | refine g_isb ?_ | refine g_isnb ?_ | refine g_lent ?_ | refine g_int ?_) | refine ⟨(lenL (by simp only [List.length_cons, List.length_nil]; omega) : List.length _ ≤ sizeLine), ?_⟩
    exact ⟨rfl, g1⟩
end G

set_option linter.all false
set_option maxRecDepth 100000
set_option maxHeartbeats 4000000
namespace G
open PySem PySem.Spec PyProof.Rows L2 Q

/-! ### pieces and fills -/
def itT : Vl → List Vl
  | .tup xs => xs
  | _ => []
def zl : Vl → Nat
  | .str z => z.length
  | _ => 0
def toI : Vl → Int
  | .int i => i
  | _ => 0
theorem four_of {xs : List Vl} (h : xs.length = 4) : ∃ a l r g, xs = [a, l, r, g] := by
  match xs, h with
  | [a, l, r, g], _ => exact ⟨a, l, r, g, rfl⟩
theorem a_let4 {f : En → M Vl} {i j k l : Nat} {b : MS} {ρ : En} {S : Sto} {D : End_} (q : wpe (f ρ S) D.ex fun v S1 => ∃ x y z u, v = .tup [x, y, z, u] ∧ wps (b ((((ρ.set i (some x)).set j (some y)).set k (some z)).set l (some u)) S1) D) : wps (sSeq (sAsg f (gTp ((gNm i) :: ((gNm j) :: ((gNm k) :: ((gNm l) :: [])))))) b ρ S) D := by
  rw [s_seq, s_asg]
  refine wpe_mono q ?_ (fun _ _ _ _ z => z)
  rintro v S1 ⟨x, y, z, u, rfl, h⟩
  exact h
theorem tup_of {v : Vl} (h : isTup v = true) : ∃ xs, v = .tup xs := by
  cases v with
  | tup xs => exact ⟨xs, rfl⟩
  | _ => cases h
theorem oh_whole_w {n : Nat} {S : Sto} {v : Vl} (hv : tyOk S v) : wpe ((lev (n + 1)).1 30 [v] S) noE fun r S' => r = .bl (isWh v) ∧ S' = S := by
  obtain ⟨t, ht⟩ := hv
  rw [lv__law_oh_whole]
  refine w_run rfl ?_
  unfold b__law_oh_whole
  repeat first | (with_reducible first | refine a_c ?_ | refine a_nil ?_ | refine a_cons ?_) | (with_reducible refine a_slot ?_; refine ⟨_, rfl, ?_⟩) | (with_reducible first | refine a_bin ?_ | refine a_bi ?_ | refine a_tup ?_ | refine a_lst ?_ | refine a_tst ?_ | refine a_not ?_ | refine a_and ?_ | refine a_or ?_ | refine a_ite ?_ | refine a_andV ?_ | refine a_orV ?_ | refine a_call ?_ | refine a_callK ?_ | refine a_met ?_ | refine a_sl ?_ | refine a_no ?_ | refine a_so ?_ | refine a_exi ?_ | refine a_neg ?_ | refine a_rev ?_ | refine a_gnm ?_ | refine a_gt2 ?_ | refine a_u0 ?_ | refine a_u1 ?_ | refine a_let ?_ | refine a_do ?_ | refine a_pars ?_ | refine a_rets ?_ | refine a_ifs ?_ | refine a_skips ?_ | refine a_set ?_ | refine a_exp ?_ | refine a_ret ?_ | refine a_if ?_ | refine a_par ?_ | refine a_as ?_ | refine a_bl ?_ | refine g_at0 ?_ | refine g_at1 ?_ | refine g_at2 ?_ | refine g_at3 ?_ | refine g_strs ?_ | refine g_nstr ?_ | refine g_eqi ?_ | refine g_nei ?_ | refine g_add ?_ | refine g_sub ?_ | refine g_gt ?_ | refine g_ge ?_ | refine g_lt ?_ | refine g_le ?_ | refine g_isn ?_ | refine g_isb ?_ | refine g_isnb ?_ | refine g_lent ?_ | refine g_int ?_) | refine ⟨(lenL (by simp only [List.length_cons, List.length_nil]; omega) : List.length _ ≤ sizeLine), ?_⟩
  rw [o_isi ht]
  refine ⟨_, rfl, ?_⟩
  have e := isWh_ty ht
  cases h1 : isT t "int" with
  | false =>
    rw [h1] at e
    rw [if_neg (by decide)]
    exact ⟨by rw [← e]; rfl, rfl⟩
  | true =>
    rw [h1] at e
    rw [if_pos rfl]
    refine a_notV ?_
    repeat first | (with_reducible first | refine a_c ?_ | refine a_nil ?_ | refine a_cons ?_) | (with_reducible refine a_slot ?_; refine ⟨_, rfl, ?_⟩) | (with_reducible first | refine a_bin ?_ | refine a_bi ?_ | refine a_tup ?_ | refine a_lst ?_ | refine a_tst ?_ | refine a_not ?_ | refine a_and ?_ | refine a_or ?_ | refine a_ite ?_ | refine a_andV ?_ | refine a_orV ?_ | refine a_call ?_ | refine a_callK ?_ | refine a_met ?_ | refine a_sl ?_ | refine a_no ?_ | refine a_so ?_ | refine a_exi ?_ | refine a_neg ?_ | refine a_rev ?_ | refine a_gnm ?_ | refine a_gt2 ?_ | refine a_u0 ?_ | refine a_u1 ?_ | refine a_let ?_ | refine a_do ?_ | refine a_pars ?_ | refine a_rets ?_ | refine a_ifs ?_ | refine a_skips ?_ | refine a_set ?_ | refine a_exp ?_ | refine a_ret ?_ | refine a_if ?_ | refine a_par ?_ | refine a_as ?_ | refine a_bl ?_ | refine g_at0 ?_ | refine g_at1 ?_ | refine g_at2 ?_ | refine g_at3 ?_ | refine g_strs ?_ | refine g_nstr ?_ | refine g_eqi ?_ | refine g_nei ?_ | refine g_add ?_ | refine g_sub ?_ | refine g_gt ?_ | refine g_ge ?_ | refine g_lt ?_ | refine g_le ?_ | refine g_isn ?_ | refine g_isb ?_ | refine g_isnb ?_ | refine g_lent ?_ | refine g_int ?_) | refine ⟨(lenL (by simp only [List.length_cons, List.length_nil]; omega) : List.length _ ≤ sizeLine), ?_⟩
    rw [o_isi ht]
    exact ⟨_, rfl, by rw [← e]; rfl, rfl⟩
theorem Good.okz {lo : Nat} {S : Sto} {z : Str} (h : Good lo S (.str z)) : okZ z = true := by
  obtain ⟨d, hd⟩ := h.1
  cases hd with
  | str _ q => exact q
theorem okz_sign {z : Str} (h : okZ z = true) {c : Nat} (hc : c ∈ z.cps.toList) : okZ ⟨#[c]⟩ = true := by
  unfold okZ at h ⊢
  have := Array.all_eq_true_iff_forall_mem.mp h c (by simpa using hc)
  simpa using this
theorem oh_word_w {n : Nat} {S : Sto} {v : Vl} (hv : tyOk S v) (hs : ∀ z, v = .str z → z.length ≤ 1000 ∧ okZ z = true) : wpe ((lev (n + 1)).1 31 [v] S) noE fun r S' => r = .bl (isTx v) ∧ Gr 0 S S' := by
  obtain ⟨t, ht⟩ := hv
  rw [lv__law_oh_is_word]
  refine w_run rfl ?_
  unfold b__law_oh_is_word
  repeat first | (with_reducible first | refine a_c ?_ | refine a_nil ?_ | refine a_cons ?_) | (with_reducible refine a_slot ?_; refine ⟨_, rfl, ?_⟩) | (with_reducible first | refine a_bin ?_ | refine a_bi ?_ | refine a_tup ?_ | refine a_lst ?_ | refine a_tst ?_ | refine a_not ?_ | refine a_and ?_ | refine a_or ?_ | refine a_ite ?_ | refine a_andV ?_ | refine a_orV ?_ | refine a_call ?_ | refine a_callK ?_ | refine a_met ?_ | refine a_sl ?_ | refine a_no ?_ | refine a_so ?_ | refine a_exi ?_ | refine a_neg ?_ | refine a_rev ?_ | refine a_gnm ?_ | refine a_gt2 ?_ | refine a_u0 ?_ | refine a_u1 ?_ | refine a_let ?_ | refine a_do ?_ | refine a_pars ?_ | refine a_rets ?_ | refine a_ifs ?_ | refine a_skips ?_ | refine a_set ?_ | refine a_exp ?_ | refine a_ret ?_ | refine a_if ?_ | refine a_par ?_ | refine a_as ?_ | refine a_bl ?_ | refine g_at0 ?_ | refine g_at1 ?_ | refine g_at2 ?_ | refine g_at3 ?_ | refine g_strs ?_ | refine g_nstr ?_ | refine g_eqi ?_ | refine g_nei ?_ | refine g_add ?_ | refine g_sub ?_ | refine g_gt ?_ | refine g_ge ?_ | refine g_lt ?_ | refine g_le ?_ | refine g_isn ?_ | refine g_isb ?_ | refine g_isnb ?_ | refine g_lent ?_ | refine g_int ?_) | refine ⟨(lenL (by simp only [List.length_cons, List.length_nil]; omega) : List.length _ ≤ sizeLine), ?_⟩
  rw [o_isStr ht]
  repeat first | (with_reducible first | refine a_c ?_ | refine a_nil ?_ | refine a_cons ?_) | (with_reducible refine a_slot ?_; refine ⟨_, rfl, ?_⟩) | (with_reducible first | refine a_bin ?_ | refine a_bi ?_ | refine a_tup ?_ | refine a_lst ?_ | refine a_tst ?_ | refine a_not ?_ | refine a_and ?_ | refine a_or ?_ | refine a_ite ?_ | refine a_andV ?_ | refine a_orV ?_ | refine a_call ?_ | refine a_callK ?_ | refine a_met ?_ | refine a_sl ?_ | refine a_no ?_ | refine a_so ?_ | refine a_exi ?_ | refine a_neg ?_ | refine a_rev ?_ | refine a_gnm ?_ | refine a_gt2 ?_ | refine a_u0 ?_ | refine a_u1 ?_ | refine a_let ?_ | refine a_do ?_ | refine a_pars ?_ | refine a_rets ?_ | refine a_ifs ?_ | refine a_skips ?_ | refine a_set ?_ | refine a_exp ?_ | refine a_ret ?_ | refine a_if ?_ | refine a_par ?_ | refine a_as ?_ | refine a_bl ?_ | refine g_at0 ?_ | refine g_at1 ?_ | refine g_at2 ?_ | refine g_at3 ?_ | refine g_strs ?_ | refine g_nstr ?_ | refine g_eqi ?_ | refine g_nei ?_ | refine g_add ?_ | refine g_sub ?_ | refine g_gt ?_ | refine g_ge ?_ | refine g_lt ?_ | refine g_le ?_ | refine g_isn ?_ | refine g_isb ?_ | refine g_isnb ?_ | refine g_lent ?_ | refine g_int ?_) | refine ⟨(lenL (by simp only [List.length_cons, List.length_nil]; omega) : List.length _ ≤ sizeLine), ?_⟩
  cases v with
  | str z =>
    obtain ⟨hz, hk⟩ := hs z rfl
    refine ifn rfl ?_
    refine a_ret ?_
    refine w_any0 ?_
    rw [w_it]
    repeat first | (with_reducible first | refine a_c ?_ | refine a_nil ?_ | refine a_cons ?_) | (with_reducible refine a_slot ?_; refine ⟨_, rfl, ?_⟩) | (with_reducible first | refine a_bin ?_ | refine a_bi ?_ | refine a_tup ?_ | refine a_lst ?_ | refine a_tst ?_ | refine a_not ?_ | refine a_and ?_ | refine a_or ?_ | refine a_ite ?_ | refine a_andV ?_ | refine a_orV ?_ | refine a_call ?_ | refine a_callK ?_ | refine a_met ?_ | refine a_sl ?_ | refine a_no ?_ | refine a_so ?_ | refine a_exi ?_ | refine a_neg ?_ | refine a_rev ?_ | refine a_gnm ?_ | refine a_gt2 ?_ | refine a_u0 ?_ | refine a_u1 ?_ | refine a_let ?_ | refine a_do ?_ | refine a_pars ?_ | refine a_rets ?_ | refine a_ifs ?_ | refine a_skips ?_ | refine a_set ?_ | refine a_exp ?_ | refine a_ret ?_ | refine a_if ?_ | refine a_par ?_ | refine a_as ?_ | refine a_bl ?_ | refine g_at0 ?_ | refine g_at1 ?_ | refine g_at2 ?_ | refine g_at3 ?_ | refine g_strs ?_ | refine g_nstr ?_ | refine g_eqi ?_ | refine g_nei ?_ | refine g_add ?_ | refine g_sub ?_ | refine g_gt ?_ | refine g_ge ?_ | refine g_lt ?_ | refine g_le ?_ | refine g_isn ?_ | refine g_isb ?_ | refine g_isnb ?_ | refine g_lent ?_ | refine g_int ?_) | refine ⟨(lenL (by simp only [List.length_cons, List.length_nil]; omega) : List.length _ ≤ sizeLine), ?_⟩
    refine .inr (.inr ⟨z, rfl, chV z, fun x => !(match x with | .str y => inS y ltrs | _ => false), id, by rw [chV_len]; omega, fun j S2 _ _ => nxS_at, fun x hx => ?_, fun x hx S2 g => ?_, fun S2 g => ?_⟩)
    · unfold chV at hx
      obtain ⟨c, hc, rfl⟩ := List.mem_map.mp hx
      exact ⟨_, fun S => .str _ (okz_sign hk hc)⟩
    · unfold chV at hx
      obtain ⟨c, _, rfl⟩ := List.mem_map.mp hx
      show wpe (mTst (mBin _ (mSlot 1) (mC _)) [some (.str z), some (.str ⟨#[c]⟩)] S2) noE _
      repeat first | (with_reducible first | refine a_c ?_ | refine a_nil ?_ | refine a_cons ?_) | (with_reducible refine a_slot ?_; refine ⟨_, rfl, ?_⟩) | (with_reducible first | refine a_bin ?_ | refine a_bi ?_ | refine a_tup ?_ | refine a_lst ?_ | refine a_tst ?_ | refine a_not ?_ | refine a_and ?_ | refine a_or ?_ | refine a_ite ?_ | refine a_andV ?_ | refine a_orV ?_ | refine a_call ?_ | refine a_callK ?_ | refine a_met ?_ | refine a_sl ?_ | refine a_no ?_ | refine a_so ?_ | refine a_exi ?_ | refine a_neg ?_ | refine a_rev ?_ | refine a_gnm ?_ | refine a_gt2 ?_ | refine a_u0 ?_ | refine a_u1 ?_ | refine a_let ?_ | refine a_do ?_ | refine a_pars ?_ | refine a_rets ?_ | refine a_ifs ?_ | refine a_skips ?_ | refine a_set ?_ | refine a_exp ?_ | refine a_ret ?_ | refine a_if ?_ | refine a_par ?_ | refine a_as ?_ | refine a_bl ?_ | refine g_at0 ?_ | refine g_at1 ?_ | refine g_at2 ?_ | refine g_at3 ?_ | refine g_strs ?_ | refine g_nstr ?_ | refine g_eqi ?_ | refine g_nei ?_ | refine g_add ?_ | refine g_sub ?_ | refine g_gt ?_ | refine g_ge ?_ | refine g_lt ?_ | refine g_le ?_ | refine g_isn ?_ | refine g_isb ?_ | refine g_isnb ?_ | refine g_lent ?_ | refine g_int ?_) | refine ⟨(lenL (by simp only [List.length_cons, List.length_nil]; omega) : List.length _ ≤ sizeLine), ?_⟩
      rw [o_notStr]
      refine ⟨_, rfl, rfl, Gr.refl, fun _ => ?_⟩
      show wpe (mSlot 1 [some (.str z), some (.str ⟨#[c]⟩)] S2) noE _
      repeat first | (with_reducible first | refine a_c ?_ | refine a_nil ?_ | refine a_cons ?_) | (with_reducible refine a_slot ?_; refine ⟨_, rfl, ?_⟩) | (with_reducible first | refine a_bin ?_ | refine a_bi ?_ | refine a_tup ?_ | refine a_lst ?_ | refine a_tst ?_ | refine a_not ?_ | refine a_and ?_ | refine a_or ?_ | refine a_ite ?_ | refine a_andV ?_ | refine a_orV ?_ | refine a_call ?_ | refine a_callK ?_ | refine a_met ?_ | refine a_sl ?_ | refine a_no ?_ | refine a_so ?_ | refine a_exi ?_ | refine a_neg ?_ | refine a_rev ?_ | refine a_gnm ?_ | refine a_gt2 ?_ | refine a_u0 ?_ | refine a_u1 ?_ | refine a_let ?_ | refine a_do ?_ | refine a_pars ?_ | refine a_rets ?_ | refine a_ifs ?_ | refine a_skips ?_ | refine a_set ?_ | refine a_exp ?_ | refine a_ret ?_ | refine a_if ?_ | refine a_par ?_ | refine a_as ?_ | refine a_bl ?_ | refine g_at0 ?_ | refine g_at1 ?_ | refine g_at2 ?_ | refine g_at3 ?_ | refine g_strs ?_ | refine g_nstr ?_ | refine g_eqi ?_ | refine g_nei ?_ | refine g_add ?_ | refine g_sub ?_ | refine g_gt ?_ | refine g_ge ?_ | refine g_lt ?_ | refine g_le ?_ | refine g_isn ?_ | refine g_isb ?_ | refine g_isnb ?_ | refine g_lent ?_ | refine g_int ?_) | refine ⟨(lenL (by simp only [List.length_cons, List.length_nil]; omega) : List.length _ ≤ sizeLine), ?_⟩
      exact ⟨rfl, Gr.refl⟩
    · refine ⟨?_, g⟩
      show Vl.bl _ = Vl.bl (isTxt z)
      unfold chV isTxt
      rw [List.any_map, List.not_any_eq_all_not]
      simp only [Function.comp, Bool.not_not]
  | _ => exact ifp rfl (a_rets (a_c ⟨rfl, Gr.refl⟩))
theorem lenL {n : Nat} (h : n ≤ 1000000) : n ≤ sizeLine := by rw [show sizeLine = 16777216 from rfl]; omega
def natV (k : Nat) : Vl := .int (k : Int)
theorem ndsL_le {b : Nat} : ∀ {xs : List Vl}, (∀ x ∈ xs, nds x ≤ b) → ndsL xs ≤ xs.length * b
  | [], _ => by simp [ndsL]
  | x :: xs, h => by
    have ih := ndsL_le fun y hy => h y (List.mem_cons_of_mem _ hy)
    have h0 := h x List.mem_cons_self
    rw [ndsL, List.length_cons, Nat.succ_mul]
    omega
theorem nds_nat (k : Nat) : nds (natV k) = 1 := by unfold natV; rw [nds]; intro _ z; cases z
theorem inS_one (c : Nat) (z : Str) : inS ⟨#[c]⟩ z = decide (c ∈ z.cps.toList) := PySem.StrLaws.found_one z c
theorem a_let2 {f : En → M Vl} {i j : Nat} {b : MS} {ρ : En} {S : Sto} {D : End_} (q : wpe (f ρ S) D.ex fun v S1 => ∃ x y, v = .tup [x, y] ∧ wps (b ((ρ.set i (some x)).set j (some y)) S1) D) : wps (sSeq (sAsg f (gTp ((gNm i) :: ((gNm j) :: [])))) b ρ S) D := by
  rw [s_seq]; exact s_asg2 q
def isLtr : Vl → Bool
  | .str z => isTxt z && decide (z.length = 1)
  | _ => false
def isPc (n : Int) (v : Vl) : Bool := isLtr v || isNum v n
def arePcs (n : Int) : Vl → Bool
  | .tup xs => xs.all (isPc n)
  | _ => false
def bxs : Vl → List Vl
  | .tup xs => xs.filter fun v => !isStr v
  | _ => []
def usd (xs : List Vl) : List Int := (xs.flatMap bxs).map toI
def isFl (n size : Int) : Vl → Bool
  | .tup xs => decide ((xs.length : Int) = size) && xs.all (arePcs n) && decide (usd xs).Nodup
  | _ => false
theorem pc_int {n : Int} {v : Vl} (h : isPc n v = true) (hs : isStr v = false) : ∃ i, v = .int i := by
  cases v with
  | int i => exact ⟨i, rfl⟩
  | str z => cases hs
  | _ => cases h
theorem usd_ints {n : Int} {xs : List Vl} (h : xs.all (arePcs n) = true) : xs.flatMap bxs = (usd xs).map Vl.int := by
  unfold usd
  rw [List.map_map]
  have key : ∀ ys : List Vl, (∀ y ∈ ys, ∃ i, y = .int i) → ys = ys.map (Vl.int ∘ toI) := by
    intro ys
    induction ys with
    | nil => intro _; rfl
    | cons y ys ih =>
      intro q
      obtain ⟨i, rfl⟩ := q y List.mem_cons_self
      rw [List.map_cons, ← ih fun z hz => q z (List.mem_cons_of_mem _ hz)]; rfl
  refine key _ fun y hy => ?_
  obtain ⟨x, hx, hy⟩ := List.mem_flatMap.mp hy
  have hx := List.all_eq_true.mp h x hx
  cases x with
  | tup ps =>
    unfold bxs at hy
    obtain ⟨h1, h2⟩ := List.mem_filter.mp hy
    exact pc_int (List.all_eq_true.mp hx y h1) (by simpa using h2)
  | _ => cases hx
theorem flat_len {α β : Type} {f : α → List β} {b : Nat} : ∀ {xs : List α}, (∀ x ∈ xs, (f x).length ≤ b) → (xs.flatMap f).length ≤ xs.length * b
  | [], _ => Nat.zero_le _
  | x :: xs, h => by
    have h1 := h x List.mem_cons_self
    have ih := flat_len (f := f) (b := b) (xs := xs) fun y hy => h y (List.mem_cons_of_mem _ hy)
    rw [List.flatMap_cons, List.length_append, List.length_cons, Nat.succ_mul]
    omega
theorem o_lenSet {S : Sto} {k : Nat} {us : List Int} {Z : Vl → Sto → Prop} (h : S.at_ k = .lst (us.map Vl.int)) (hl : us.length < 4000) : wpo (bLenSet (.ref k) S) Z = Z (.int (dstG us).length) S := by
  have e : setI S (.ref k) = some us := by
    show (getR S k).bind asInts = _
    rw [getR_l h]; exact asInts_map us
  have e2 : bLenSet (.ref k) S = some (.int (dstG us).length, S) := by
    unfold bLenSet
    rw [e]
    show (if us.length < 4000 then _ else _) = _
    rw [if_pos hl]
  rw [e2]; rfl
theorem dst_nd : ∀ (n : Nat) (us : List Int), us.length = n → (dstG us).length = us.length → us.Nodup
  | 0, us, h, _ => by rw [List.length_eq_zero_iff.mp h]; exact List.nodup_nil
  | n + 1, us, h, e => by
    obtain ⟨ys, y, rfl⟩ : ∃ ys y, us = ys ++ [y] := ⟨us.dropLast, us.getLast (by intro z; subst z; cases h), (List.dropLast_concat_getLast _).symm⟩
    have h2 : ys.length = n := by simpa using h
    have hl := dstG_len ys.length ys rfl
    rw [dstG_snoc, List.length_append] at e
    by_cases hy : y ∈ dstG ys
    · rw [if_pos hy] at e
      simp only [List.length_cons, List.length_nil] at e
      omega
    · rw [if_neg hy, List.length_append] at e
      have ih := dst_nd n ys h2 (by simp only [List.length_cons, List.length_nil] at e; omega)
      exact (List.perm_append_singleton y ys).nodup_iff.mpr (List.nodup_cons.mpr ⟨fun z => hy ((mem_dstG _ ys rfl).mpr z), ih⟩)
theorem dst_len {us : List Int} : (((dstG us).length : Int) == (us.length : Int)) = decide us.Nodup := by
  rw [Bool.eq_iff_iff, beq_iff_eq, decide_eq_true_iff]
  constructor
  · intro h
    have h : (dstG us).length = us.length := by exact_mod_cast h
    exact dst_nd _ us rfl h
  · intro h
    rw [dstG_nodup _ us rfl h]
theorem is_letter_w {n : Nat} {S : Sto} {v : Vl} (hv : tyOk S v) (hs : ∀ z, v = .str z → z.length ≤ 1000) : wpe ((lev (n + 2)).1 2 [v] S) noE fun r S' => r = .bl (isLtr v) ∧ Gr 0 S S' := by
  rw [lv_is_letter]
  refine w_run rfl ?_
  unfold b_is_letter
  repeat first | (with_reducible first | refine a_c ?_ | refine a_nil ?_ | refine a_cons ?_) | (with_reducible refine a_slot ?_; refine ⟨_, rfl, ?_⟩) | (with_reducible first | refine a_bin ?_ | refine a_bi ?_ | refine a_tup ?_ | refine a_lst ?_ | refine a_tst ?_ | refine a_not ?_ | refine a_and ?_ | refine a_or ?_ | refine a_ite ?_ | refine a_andV ?_ | refine a_orV ?_ | refine a_call ?_ | refine a_callK ?_ | refine a_met ?_ | refine a_sl ?_ | refine a_no ?_ | refine a_so ?_ | refine a_exi ?_ | refine a_neg ?_ | refine a_rev ?_ | refine a_gnm ?_ | refine a_gt2 ?_ | refine a_u0 ?_ | refine a_u1 ?_ | refine a_let ?_ | refine a_do ?_ | refine a_pars ?_ | refine a_rets ?_ | refine a_ifs ?_ | refine a_skips ?_ | refine a_set ?_ | refine a_exp ?_ | refine a_ret ?_ | refine a_if ?_ | refine a_par ?_ | refine a_as ?_ | refine a_bl ?_ | refine g_at0 ?_ | refine g_at1 ?_ | refine g_at2 ?_ | refine g_at3 ?_ | refine g_strs ?_ | refine g_nstr ?_ | refine g_eqi ?_ | refine g_nei ?_ | refine g_add ?_ | refine g_sub ?_ | refine g_gt ?_ | refine g_ge ?_ | refine g_lt ?_ | refine g_le ?_ | refine g_isn ?_ | refine g_isb ?_ | refine g_isnb ?_ | refine g_lent ?_ | refine g_int ?_) | refine ⟨(lenL (by simp only [List.length_cons, List.length_nil]; omega) : List.length _ ≤ sizeLine), ?_⟩
  refine wpe_mono (is_text_w hv hs) ?_ (fun _ _ _ _ z => z.elim)
  rintro _ S1 ⟨rfl, g1⟩
  refine ⟨_, rfl, ?_⟩
  cases v with
  | str z =>
    have hz := hs z rfl
    cases h : isTx (.str z) with
    | true =>
      refine ifp rfl ?_
      repeat first | (with_reducible first | refine a_c ?_ | refine a_nil ?_ | refine a_cons ?_) | (with_reducible refine a_slot ?_; refine ⟨_, rfl, ?_⟩) | (with_reducible first | refine a_bin ?_ | refine a_bi ?_ | refine a_tup ?_ | refine a_lst ?_ | refine a_tst ?_ | refine a_not ?_ | refine a_and ?_ | refine a_or ?_ | refine a_ite ?_ | refine a_andV ?_ | refine a_orV ?_ | refine a_call ?_ | refine a_callK ?_ | refine a_met ?_ | refine a_sl ?_ | refine a_no ?_ | refine a_so ?_ | refine a_exi ?_ | refine a_neg ?_ | refine a_rev ?_ | refine a_gnm ?_ | refine a_gt2 ?_ | refine a_u0 ?_ | refine a_u1 ?_ | refine a_let ?_ | refine a_do ?_ | refine a_pars ?_ | refine a_rets ?_ | refine a_ifs ?_ | refine a_skips ?_ | refine a_set ?_ | refine a_exp ?_ | refine a_ret ?_ | refine a_if ?_ | refine a_par ?_ | refine a_as ?_ | refine a_bl ?_ | refine g_at0 ?_ | refine g_at1 ?_ | refine g_at2 ?_ | refine g_at3 ?_ | refine g_strs ?_ | refine g_nstr ?_ | refine g_eqi ?_ | refine g_nei ?_ | refine g_add ?_ | refine g_sub ?_ | refine g_gt ?_ | refine g_ge ?_ | refine g_lt ?_ | refine g_le ?_ | refine g_isn ?_ | refine g_isb ?_ | refine g_isnb ?_ | refine g_lent ?_ | refine g_int ?_) | refine ⟨(lenL (by simp only [List.length_cons, List.length_nil]; omega) : List.length _ ≤ sizeLine), ?_⟩
      rw [o_lens hz]
      repeat first | (with_reducible first | refine a_c ?_ | refine a_nil ?_ | refine a_cons ?_) | (with_reducible refine a_slot ?_; refine ⟨_, rfl, ?_⟩) | (with_reducible first | refine a_bin ?_ | refine a_bi ?_ | refine a_tup ?_ | refine a_lst ?_ | refine a_tst ?_ | refine a_not ?_ | refine a_and ?_ | refine a_or ?_ | refine a_ite ?_ | refine a_andV ?_ | refine a_orV ?_ | refine a_call ?_ | refine a_callK ?_ | refine a_met ?_ | refine a_sl ?_ | refine a_no ?_ | refine a_so ?_ | refine a_exi ?_ | refine a_neg ?_ | refine a_rev ?_ | refine a_gnm ?_ | refine a_gt2 ?_ | refine a_u0 ?_ | refine a_u1 ?_ | refine a_let ?_ | refine a_do ?_ | refine a_pars ?_ | refine a_rets ?_ | refine a_ifs ?_ | refine a_skips ?_ | refine a_set ?_ | refine a_exp ?_ | refine a_ret ?_ | refine a_if ?_ | refine a_par ?_ | refine a_as ?_ | refine a_bl ?_ | refine g_at0 ?_ | refine g_at1 ?_ | refine g_at2 ?_ | refine g_at3 ?_ | refine g_strs ?_ | refine g_nstr ?_ | refine g_eqi ?_ | refine g_nei ?_ | refine g_add ?_ | refine g_sub ?_ | refine g_gt ?_ | refine g_ge ?_ | refine g_lt ?_ | refine g_le ?_ | refine g_isn ?_ | refine g_isb ?_ | refine g_isnb ?_ | refine g_lent ?_ | refine g_int ?_) | refine ⟨(lenL (by simp only [List.length_cons, List.length_nil]; omega) : List.length _ ≤ sizeLine), ?_⟩
      refine ⟨?_, g1⟩
      show Vl.bl _ = Vl.bl (isTxt z && decide (z.length = 1))
      rw [show isTxt z = true from h, Bool.true_and]
      congr 1
      rw [Bool.eq_iff_iff, beq_iff_eq, decide_eq_true_iff]
      omega
    | false =>
      refine ifn rfl ⟨?_, g1⟩
      show Vl.bl _ = Vl.bl (isTxt z && decide (z.length = 1))
      rw [show isTxt z = false from h, Bool.false_and]
  | _ => exact ifn rfl ⟨rfl, g1⟩
theorem boxes_in_w {n : Nat} {S : Sto} {ys : List Vl} (hl : ys.length ≤ 1000) (hy : ∀ y ∈ ys, tyOk S y) (hg : ∀ S', Gr 0 S S' → ∀ y ∈ ys, tyOk S' y) : wpe ((lev (n + 1)).1 5 [.tup ys] S) noE fun r S' => ∃ k, r = .ref k ∧ k < S'.n ∧ S'.at_ k = .lst (bxs (.tup ys)) ∧ Gr 0 S S' := by
  rw [lv_boxes_in]
  refine w_run rfl ?_
  unfold b_boxes_in
  refine a_ret ?_
  refine w_flt ?_
  rw [w_it]
  refine a_slot ⟨_, rfl, .inl ⟨ys, rfl, ys, fun v => !isStr v, id, by omega, fun j S2 _ _ => rfl, fun x hx S2 g => ?_, fun S2 g h1 h2 => ?_⟩⟩
  · obtain ⟨t, ht⟩ := hg S2 g x hx
    show wpe (mNot (mTst (mBi bIsi (mCons (mSlot 1) (mCons (mC (.ty "str")) mNil)))) [some (.tup ys), some x] S2) noE _
    refine a_not (a_tst (a_bi (a_cons (a_slot ⟨_, rfl, a_cons (a_c (a_nil ?_))⟩))))
    rw [o_isStr ht]
    exact ⟨_, rfl, rfl, Gr.refl, fun _ => a_slot ⟨_, rfl, rfl, Gr.refl⟩⟩
  · exact ⟨S.n, rfl, h1, by rw [h2, List.map_id]; rfl, g⟩
theorem are_pieces_w {n lo : Nat} {S : Sto} {v : Vl} {k : Int} (hv : Good lo S v) : wpe ((lev (n + 3)).1 6 [v, .int k] S) noE fun r S' => r = .bl (arePcs k v) ∧ Gr 0 S S' := by
  obtain ⟨t, ht⟩ := hv.ty
  rw [lv_are_pieces]
  refine w_run rfl ?_
  unfold b_are_pieces
  repeat first | (with_reducible first | refine a_c ?_ | refine a_nil ?_ | refine a_cons ?_) | (with_reducible refine a_slot ?_; refine ⟨_, rfl, ?_⟩) | (with_reducible first | refine a_bin ?_ | refine a_bi ?_ | refine a_tup ?_ | refine a_lst ?_ | refine a_tst ?_ | refine a_not ?_ | refine a_and ?_ | refine a_or ?_ | refine a_ite ?_ | refine a_andV ?_ | refine a_orV ?_ | refine a_call ?_ | refine a_callK ?_ | refine a_met ?_ | refine a_sl ?_ | refine a_no ?_ | refine a_so ?_ | refine a_exi ?_ | refine a_neg ?_ | refine a_rev ?_ | refine a_gnm ?_ | refine a_gt2 ?_ | refine a_u0 ?_ | refine a_u1 ?_ | refine a_let ?_ | refine a_do ?_ | refine a_pars ?_ | refine a_rets ?_ | refine a_ifs ?_ | refine a_skips ?_ | refine a_set ?_ | refine a_exp ?_ | refine a_ret ?_ | refine a_if ?_ | refine a_par ?_ | refine a_as ?_ | refine a_bl ?_ | refine g_at0 ?_ | refine g_at1 ?_ | refine g_at2 ?_ | refine g_at3 ?_ | refine g_strs ?_ | refine g_nstr ?_ | refine g_eqi ?_ | refine g_nei ?_ | refine g_add ?_ | refine g_sub ?_ | refine g_gt ?_ | refine g_ge ?_ | refine g_lt ?_ | refine g_le ?_ | refine g_isn ?_ | refine g_isb ?_ | refine g_isnb ?_ | refine g_lent ?_ | refine g_int ?_) | refine ⟨(lenL (by simp only [List.length_cons, List.length_nil]; omega) : List.length _ ≤ sizeLine), ?_⟩
  rw [o_isTup ht]
  repeat first | (with_reducible first | refine a_c ?_ | refine a_nil ?_ | refine a_cons ?_) | (with_reducible refine a_slot ?_; refine ⟨_, rfl, ?_⟩) | (with_reducible first | refine a_bin ?_ | refine a_bi ?_ | refine a_tup ?_ | refine a_lst ?_ | refine a_tst ?_ | refine a_not ?_ | refine a_and ?_ | refine a_or ?_ | refine a_ite ?_ | refine a_andV ?_ | refine a_orV ?_ | refine a_call ?_ | refine a_callK ?_ | refine a_met ?_ | refine a_sl ?_ | refine a_no ?_ | refine a_so ?_ | refine a_exi ?_ | refine a_neg ?_ | refine a_rev ?_ | refine a_gnm ?_ | refine a_gt2 ?_ | refine a_u0 ?_ | refine a_u1 ?_ | refine a_let ?_ | refine a_do ?_ | refine a_pars ?_ | refine a_rets ?_ | refine a_ifs ?_ | refine a_skips ?_ | refine a_set ?_ | refine a_exp ?_ | refine a_ret ?_ | refine a_if ?_ | refine a_par ?_ | refine a_as ?_ | refine a_bl ?_ | refine g_at0 ?_ | refine g_at1 ?_ | refine g_at2 ?_ | refine g_at3 ?_ | refine g_strs ?_ | refine g_nstr ?_ | refine g_eqi ?_ | refine g_nei ?_ | refine g_add ?_ | refine g_sub ?_ | refine g_gt ?_ | refine g_ge ?_ | refine g_lt ?_ | refine g_le ?_ | refine g_isn ?_ | refine g_isb ?_ | refine g_isnb ?_ | refine g_lent ?_ | refine g_int ?_) | refine ⟨(lenL (by simp only [List.length_cons, List.length_nil]; omega) : List.length _ ≤ sizeLine), ?_⟩
  cases v with
  | tup xs =>
    obtain ⟨hl, hm⟩ := hv.mem
    refine ifn rfl ?_
    refine a_ret ?_
    refine w_all ?_
    rw [w_it]
    refine a_slot ⟨_, rfl, .inl ⟨xs, rfl, xs, isPc k, by omega, fun j S2 _ _ => rfl, fun x hx S2 g => ?_, fun S2 g => ⟨rfl, g⟩⟩⟩
    have gx := (hm x hx).gr (g.up (Nat.zero_le _))
    show wpe (mOrV (mCall ((lev (n + 2)).1 2) [] (mCons (mSlot 2) mNil)) (mCall ((lev (n + 2)).1 3) [] (mCons (mSlot 2) (mCons (mSlot 1) mNil))) [some (.tup xs), some (.int k), some x] S2) noE _
    refine a_orV (a_call (a_cons (a_slot ⟨_, rfl, a_nil ?_⟩)))
    refine wpe_mono (is_letter_w (n := n) gx.ty (fun z e => by rw [e] at gx; exact gx.len)) ?_ (fun _ _ _ _ z => z.elim)
    rintro _ S3 ⟨rfl, g3⟩
    refine ⟨_, rfl, ?_⟩
    cases h : isLtr x with
    | true =>
      refine ifp rfl ⟨?_, g3⟩
      unfold isPc; rw [h]; rfl
    | false =>
      refine ifn rfl (a_call (a_cons (a_slot ⟨_, rfl, a_cons (a_slot ⟨_, rfl, a_nil ?_⟩)⟩)))
      refine wpe_mono (is_number_w (n := n) (gx.gr (g3.up (Nat.zero_le _))).ty) ?_ (fun _ _ _ _ z => z.elim)
      rintro _ S4 ⟨rfl, rfl⟩
      refine ⟨?_, g3⟩
      unfold isPc; rw [h]; rfl
  | _ => exact ifp rfl (a_rets (a_c ⟨rfl, Gr.refl⟩))
end G

set_option linter.all false
set_option maxRecDepth 100000
set_option maxHeartbeats 4000000
namespace G
open PySem PySem.Spec PyProof.Rows L2 Q

/-! ### the package's judgement of fills, moves, rows -/
theorem are_fills_w {n lo : Nat} {S : Sto} {v : Vl} {k size : Int} (hv : Good lo S v) : wpe ((lev (n + 4)).1 7 [v, .int k, .int size] S) noE fun r S' => r = .bl (isFl k size v) ∧ Gr 0 S S' := by
  obtain ⟨t, ht⟩ := hv.ty
  rw [lv_are_fills]
  refine w_run rfl ?_
  unfold b_are_fills
  with_reducible refine a_ifs ?_
  refine a_or (a_not (a_tst (a_bi (a_cons (a_slot ⟨_, rfl, a_cons (a_c (a_nil ?_))⟩)))))
  rw [o_isTup ht]
  cases v with
  | tup xs =>
    obtain ⟨hl, hm⟩ := hv.mem
    refine ⟨_, rfl, ifn rfl ?_⟩
    refine a_or (a_tst (a_bin (a_bi (a_cons (a_slot ⟨_, rfl, a_nil (g_lent (a_slot ⟨_, rfl, g_nei ⟨_, rfl, ?_⟩⟩))⟩)))))
    by_cases hs : (xs.length : Int) = size
    · refine ifn (by rw [hs]; simp) ?_
      refine a_not (a_tst ?_)
      refine w_all ?_
      rw [w_it]
      refine a_slot ⟨_, rfl, .inl ⟨xs, rfl, xs, arePcs k, by omega, fun j S2 _ _ => rfl, fun x hx S2 g => ?_, fun S2 g2 => ?_⟩⟩
      · show wpe (mCall ((lev (n + 3)).1 6) [] (mCons (mSlot 4) (mCons (mSlot 1) mNil)) [some (.tup xs), some (.int k), some (.int size), none, some x] S2) noE _
        refine a_call (a_cons (a_slot ⟨_, rfl, a_cons (a_slot ⟨_, rfl, a_nil ?_⟩)⟩))
        refine wpe_mono (are_pieces_w (n := n) ((hm x hx).gr (g.up (Nat.zero_le _)))) ?_ (fun _ _ _ _ z => z.elim)
        rintro _ S3 ⟨rfl, g3⟩
        exact ⟨rfl, g3⟩
      · refine ⟨_, rfl, ?_⟩
        cases hp : xs.all (arePcs k) with
        | false =>
          refine ifp rfl (a_rets (a_c ⟨?_, g2⟩))
          show _ = Vl.bl (decide ((xs.length : Int) = size) && xs.all (arePcs k) && decide (usd xs).Nodup)
          rw [hp]; simp
        | true =>
          refine ifn rfl ?_
          with_reducible refine a_let ?_
          refine a_lst (a_nil ⟨by decide, ?_⟩)
          show wps (sSeq _ _ [some (.tup xs), some (.int k), some (.int size), some (.ref S2.n), none] (S2.push (.lst []))) _
          have xt : ∀ x ∈ xs, ∃ ys, x = .tup ys ∧ ys.length ≤ 61 ∧ ∀ y ∈ ys, Good lo S y := fun x hx => by
            have h1 := List.all_eq_true.mp hp x hx
            have h2 := hm x hx
            cases x with
            | tup ys => exact ⟨ys, rfl, h2.mem.1, h2.mem.2⟩
            | _ => cases h1
          have bl : ∀ x ∈ xs, (bxs x).length ≤ 61 := fun x hx => by
            obtain ⟨ys, rfl, h1, _⟩ := xt x hx
            exact Nat.le_trans (List.length_filter_le _ _) h1
          have fl : ∀ i, ((xs.take i).flatMap bxs).length ≤ 3721 := fun i => by
            have h1 := flat_len (f := bxs) (b := 61) (xs := xs.take i) fun x hx => bl x (List.mem_of_mem_take hx)
            have h2 : (xs.take i).length ≤ 61 := by rw [List.length_take]; omega
            have h3 : (xs.take i).length * 61 ≤ 61 * 61 := Nat.mul_le_mul_right _ h2
            omega
          refine s_cut (fun ρ S3 => ∃ u b4, ρ = [some (.tup xs), some (.int k), some (.int size), some (.ref u), b4] ∧ u < S3.n ∧ S3.at_ u = .lst (xs.flatMap bxs) ∧ Gr 0 S S3) ?_ ?_
          · refine s_for ?_
            rw [w_it]
            refine a_slot ⟨_, rfl, .inl ⟨xs, rfl, xs, fun i ρ S3 => ∃ u b4, ρ = [some (.tup xs), some (.int k), some (.int size), some (.ref u), b4] ∧ u < S3.n ∧ S3.at_ u = .lst ((xs.take i).flatMap bxs) ∧ Gr 0 S S3, ⟨S2.n, none, rfl, Nat.lt_succ_self _, push_same, g2.trans Gr.push⟩, fun i ρ S3 _ _ => rfl, ?_, ?_⟩⟩
            · rintro i x ρ S3 hx ⟨u, b4, rfl, hu, hat, g3⟩
              have hxm := List.mem_of_getElem? hx
              obtain ⟨ys, rfl, h1, h2⟩ := xt x hxm
              refine a_gnm ?_
              refine a_set ?_
              refine a_bin (a_slot ⟨_, rfl, a_call (a_cons (a_slot ⟨_, rfl, a_nil ?_⟩))⟩)
              refine wpe_mono (boxes_in_w (n := n + 2) (by omega) (fun y hy => ((h2 y hy).gr (g3.up (Nat.zero_le _))).ty) (fun S' g y hy => ((h2 y hy).gr ((g3.trans g).up (Nat.zero_le _))).ty)) ?_ (fun _ _ _ _ z => z.elim)
              rintro _ S4 ⟨q, rfl, hq, hqa, g4⟩
              rw [o_addl ((g4.at_ _ (Nat.zero_le _) hu).trans hat) hqa]
              have e : (xs.take (i + 1)).flatMap bxs = (xs.take i).flatMap bxs ++ bxs (.tup ys) := by rw [take_snoc hx, List.flatMap_append]; simp
              refine ⟨by have := fl (i + 1); rw [e, List.length_append] at this; exact lenL (by omega), S4.n, _, rfl, Nat.lt_succ_self _, by rw [push_same, e], (g3.trans g4).trans Gr.push⟩
            · rintro ρ S3 ⟨u, b4, rfl, hu, hat, g3⟩
              rw [List.take_length] at hat
              exact ⟨u, b4, rfl, hu, hat, g3⟩
          · rintro _ S3 ⟨u, b4, rfl, hu, hat, g3⟩
            have hf := fl xs.length
            rw [List.take_length] at hf
            rw [usd_ints hp] at hat hf
            rw [List.length_map] at hf
            refine a_ret (a_bin ?_)
            refine a_lenSetA (a_slot ⟨_, rfl, ?_⟩)
            rw [o_lenSet hat (by omega)]
            refine a_bi (a_cons (a_slot ⟨_, rfl, a_nil ?_⟩))
            rw [o_lenl hat, List.length_map]
            refine g_eqi ⟨?_, g3⟩
            rw [dst_len]
            show _ = Vl.bl (decide ((xs.length : Int) = size) && xs.all (arePcs k) && decide (usd xs).Nodup)
            rw [hp, decide_eq_true hs]
            rfl
    · refine ifp (by simpa using hs) (ifp rfl (a_rets (a_c ⟨?_, Gr.refl⟩)))
      show _ = Vl.bl (decide ((xs.length : Int) = size) && xs.all (arePcs k) && decide (usd xs).Nodup)
      rw [decide_eq_false hs]; rfl
  | _ => exact ⟨_, rfl, ifp rfl (ifp rfl (a_rets (a_c ⟨rfl, Gr.refl⟩)))⟩
def isMv (n : Int) (ss : List Int) : Vl → Bool
  | .tup [g, f] => isNum g ss.length && isFl n (ss.getD (toI g).toNat 0) f
  | _ => false
theorem isMv_2 {n : Int} {ss : List Int} {xs : List Vl} (h : xs.length ≠ 2) : isMv n ss (.tup xs) = false := by
  unfold isMv
  split
  · rename_i e; cases e; exact absurd rfl h
  · rfl
theorem two_of {xs : List Vl} (h : xs.length = 2) : ∃ a b, xs = [a, b] := by
  match xs, h with
  | [a, b], _ => exact ⟨a, b, rfl⟩
theorem three_of {xs : List Vl} (h : xs.length = 3) : ∃ a b c, xs = [a, b, c] := by
  match xs, h with
  | [a, b, c], _ => exact ⟨a, b, c, rfl⟩
theorem num_of {v : Vl} {n : Int} (h : isNum v n = true) : ∃ i : Nat, v = .int (i : Int) ∧ (i : Int) < n := by
  cases v with
  | int i =>
    have h : (decide (0 ≤ i) && decide (i < n)) = true := h
    simp only [Bool.and_eq_true, decide_eq_true_eq] at h
    exact ⟨i.toNat, by congr 1; omega, by omega⟩
  | _ => cases h
theorem is_move_w {n lo sz : Nat} {S : Sto} {v : Vl} {k : Int} {ss : List Int} (hv : Good lo S v) (h1 : sz < S.n) (h2 : S.at_ sz = .lst (ss.map Vl.int)) (h3 : ss.length ≤ 1000) : wpe ((lev (n + 5)).1 8 [v, .int k, .ref sz] S) noE fun r S' => r = .bl (isMv k ss v) ∧ Gr 0 S S' := by
  obtain ⟨t, ht⟩ := hv.ty
  rw [lv_is_move]
  refine w_run rfl ?_
  unfold b_is_move
  with_reducible refine a_ifs ?_
  refine a_or (a_not (a_tst (a_bi (a_cons (a_slot ⟨_, rfl, a_cons (a_c (a_nil ?_))⟩)))))
  rw [o_isTup ht]
  cases v with
  | tup xs =>
    obtain ⟨hl, hm⟩ := hv.mem
    refine ⟨_, rfl, ifn rfl ?_⟩
    refine a_or (a_tst (a_bin (a_bi (a_cons (a_slot ⟨_, rfl, a_nil (g_lent (a_c (g_nei ⟨_, rfl, ?_⟩)))⟩)))))
    by_cases hx : xs.length = 2
    · obtain ⟨g, f, rfl⟩ := two_of hx
      refine ifn rfl ?_
      refine a_not (a_tst (a_call (a_cons (a_bin (a_slot ⟨_, rfl, a_c (g_at0 (a_cons (a_bi (a_cons (a_slot ⟨_, rfl, a_nil ?_⟩)))))⟩)))))
      rw [o_lenl h2, List.length_map]
      refine a_nil ?_
      refine wpe_mono (is_number_w (n := n + 2) (hm g (by simp)).ty) ?_ (fun _ _ _ _ z => z.elim)
      rintro _ S1 ⟨rfl, rfl⟩
      refine ⟨_, rfl, ?_⟩
      cases hg : isNum g ss.length with
      | false =>
        refine ifp rfl (a_rets (a_c ⟨?_, Gr.refl⟩))
        show _ = Vl.bl (isNum g ss.length && _)
        rw [hg]; rfl
      | true =>
        obtain ⟨i, rfl, hi⟩ := num_of hg
        have hi : i < ss.length := by omega
        refine ifn rfl ?_
        refine a_ret (a_call (a_cons (a_bin (a_slot ⟨_, rfl, a_c (g_at1 (a_cons (a_slot ⟨_, rfl, a_cons (a_bin (a_slot ⟨_, rfl, a_bin (a_slot ⟨_, rfl, a_c (g_at0 ?_)⟩)⟩))⟩)))⟩))))
        rw [o_atl (v := .int ss[i]) (getR_l h2) (by rw [List.getElem?_map, List.getElem?_eq_getElem hi]; rfl) (by omega) (by unfold getD; rw [h2])]
        refine a_nil ?_
        refine wpe_mono (are_fills_w (n := n) (hm f (by simp))) ?_ (fun _ _ _ _ z => z.elim)
        rintro _ S2 ⟨rfl, g2⟩
        refine ⟨?_, g2⟩
        show _ = Vl.bl (isNum (.int (i : Int)) ss.length && isFl k (ss.getD ((i : Int)).toNat 0) f)
        rw [hg, Int.toNat_natCast, List.getD_eq_getElem?_getD, List.getElem?_eq_getElem hi]; rfl
    · refine ifp (by simp; omega) (ifp rfl (a_rets (a_c ⟨?_, Gr.refl⟩)))
      rw [isMv_2 hx]
  | _ => exact ⟨_, rfl, ifp rfl (ifp rfl (a_rets (a_c ⟨rfl, Gr.refl⟩)))⟩
def isForm (lz : Nat) : Vl → Bool
  | .tup [a, b, c] => isNum a 61 && (isTup b && decide ((itT b).length = lz))
  | _ => false
theorem isForm_3 {lz : Nat} {xs : List Vl} (h : xs.length ≠ 3) : isForm lz (.tup xs) = false := by
  unfold isForm
  split
  · rename_i e; cases e; exact absurd rfl h
  · rfl
theorem has_row_form_w {n lo : Nat} {S : Sto} {v : Vl} {z : Str} (hv : Good lo S v) (hz : z.length ≤ 1000) : wpe ((lev (n + 3)).1 9 [v, .str z] S) noE fun r S' => r = .bl (isForm z.length v) ∧ Gr 0 S S' := by
  obtain ⟨t, ht⟩ := hv.ty
  rw [lv_has_row_form]
  refine w_run rfl ?_
  unfold b_has_row_form
  with_reducible refine a_ifs ?_
  refine a_or (a_not (a_tst (a_bi (a_cons (a_slot ⟨_, rfl, a_cons (a_c (a_nil ?_))⟩)))))
  rw [o_isTup ht]
  cases v with
  | tup xs =>
    obtain ⟨hl, hm⟩ := hv.mem
    refine ⟨_, rfl, ifn rfl ?_⟩
    refine a_or (a_tst (a_bin (a_bi (a_cons (a_slot ⟨_, rfl, a_nil (g_lent (a_c (g_nei ⟨_, rfl, ?_⟩)))⟩)))))
    by_cases hx : xs.length = 3
    · obtain ⟨a, b, c, rfl⟩ := three_of hx
      refine ifn rfl ?_
      unfold k_MOST_BOXES
      refine a_not (a_tst (a_call (a_cons (a_bin (a_slot ⟨_, rfl, a_c (g_at0 (a_cons (a_bin (a_c (a_c (g_add (a_nil ?_)))))))⟩)))))
      refine wpe_mono (is_number_w (n := n) (k := 60 + 1) (hm a (by simp)).ty) ?_ (fun _ _ _ _ z => z.elim)
      rintro _ S1 ⟨rfl, rfl⟩
      refine ⟨_, rfl, ?_⟩
      cases ha : isNum a (60 + 1) with
      | false =>
        refine ifp rfl (a_rets (a_c ⟨?_, Gr.refl⟩))
        show _ = Vl.bl (isNum a 61 && _)
        rw [show isNum a 61 = false from ha]; rfl
      | true =>
        refine ifn rfl ?_
        obtain ⟨tb, htb⟩ := (hm b (by simp)).ty
        refine a_ret (a_andV (a_bi (a_cons (a_bin (a_slot ⟨_, rfl, a_c (g_at1 (a_cons (a_c (a_nil ?_))))⟩)))))
        rw [o_isTup htb]
        refine ⟨_, rfl, ?_⟩
        cases b with
        | tup bs =>
          refine ifp rfl (a_bin (a_bi (a_cons (a_bin (a_slot ⟨_, rfl, a_c (g_at1 (a_nil (g_lent (a_bi (a_cons (a_slot ⟨_, rfl, a_nil ?_⟩))))))⟩)))))
          rw [o_lens hz]
          refine g_eqi ⟨?_, Gr.refl⟩
          show _ = Vl.bl (isNum a 61 && (true && decide (bs.length = z.length)))
          rw [show isNum a 61 = true from ha, Bool.true_and, Bool.true_and]
          congr 1
          rw [Bool.eq_iff_iff, beq_iff_eq, decide_eq_true_iff]
          omega
        | _ =>
          refine ifn rfl ⟨?_, Gr.refl⟩
          show _ = Vl.bl (isNum a 61 && (false && _))
          simp
    · refine ifp (by simp; omega) (ifp rfl (a_rets (a_c ⟨?_, Gr.refl⟩)))
      rw [isForm_3 hx]
  | _ => exact ⟨_, rfl, ifp rfl (ifp rfl (a_rets (a_c ⟨rfl, Gr.refl⟩)))⟩
end G

set_option linter.all false
set_option maxRecDepth 100000
set_option maxHeartbeats 4000000
namespace G
open PySem PySem.Spec PyProof.Rows L2 Q

/-! ### is_boxes -/
def isB : Vl → Bool
  | .str z => decide (z = "boxes")
  | _ => false
def frst : Vl → Vl
  | .tup (a :: _) => a
  | _ => .non
def szs (rs : List Vl) : List Int := rs.map fun r => toI (frst r)
def isRw (ss : List Int) : Vl → Bool
  | .tup [m, mv, o] => isFl (toI m) 1 (.tup [o]) && (itT mv).all (isMv (toI m) ss)
  | _ => false
def headOk (a l b r : Vl) : Bool := isB a && (isLet l && (isTup b && (itT b).all isTx)) && (isTup r && (decide (1 ≤ (itT r).length) && decide ((itT r).length ≤ 400)))
def formsOk (l b r : Vl) : Bool := (itT r).all (isForm (zl l)) && decide ((szs (itT r)).headD 0 = (((itT b).length : Nat) : Int))
def isBx : Vl → Bool
  | .tup [a, l, b, r] => headOk a l b r && formsOk l b r && (itT r).all (isRw (szs (itT r)))
  | _ => false
theorem isBx_eq {a l b r : Vl} : isBx (.tup [a, l, b, r]) = (headOk a l b r && formsOk l b r && (itT r).all (isRw (szs (itT r)))) := rfl
theorem isBx_4 {xs : List Vl} (h : xs.length ≠ 4) : isBx (.tup xs) = false := by
  unfold isBx
  split
  · rename_i e; cases e; exact absurd rfl h
  · rfl
/-- good, and the rows may be many -/
def hd1 : Vl → Prop
  | .tup ys => ys.length ≤ 1000 ∧ ∀ y ∈ ys, bnd1 y = true
  | .str z => z.length ≤ 1000
  | _ => True
def hd : Vl → Prop
  | .tup xs => xs.length ≤ 1000 ∧ ∀ x ∈ xs, hd1 x
  | _ => True
def GoodH (lo : Nat) (S : Sto) (v : Vl) : Prop := (∃ e, Dat lo S 5 v e) ∧ hd v
theorem hd1_of {v : Vl} (h : bnd1 v = true) : hd1 v := by
  cases v with
  | tup xs => obtain ⟨h1, h2⟩ := bnd1_tup.mp h; exact ⟨by omega, h2⟩
  | str z =>
    rw [bnd1] at h
    have h2 : z.length ≤ 1000 := of_decide_eq_true h
    exact h2
  | _ => trivial
theorem Good.toH {lo : Nat} {S : Sto} {v : Vl} (h : Good lo S v) : GoodH lo S v := by
  refine ⟨h.1, ?_⟩
  cases v with
  | tup xs => obtain ⟨h1, h2⟩ := bnd1_tup.mp h.2; exact ⟨by omega, fun x hx => hd1_of (h2 x hx)⟩
  | _ => trivial
theorem GoodH.ty {lo : Nat} {S : Sto} {v : Vl} (h : GoodH lo S v) : tyOk S v := let ⟨_, hd⟩ := h.1; hd.ty
theorem GoodH.gr {lo : Nat} {S S' : Sto} {v : Vl} (h : GoodH lo S v) (g : Gr lo S S') : GoodH lo S' v := ⟨let ⟨e, he⟩ := h.1; ⟨e, he.gr g⟩, h.2⟩
/-- what stands in it -/
def Good1 (lo : Nat) (S : Sto) (v : Vl) : Prop := (∃ e, Dat lo S 5 v e) ∧ hd1 v
theorem Good1.ty {lo : Nat} {S : Sto} {v : Vl} (h : Good1 lo S v) : tyOk S v := let ⟨_, hd⟩ := h.1; hd.ty
theorem Good1.gr {lo : Nat} {S S' : Sto} {v : Vl} (h : Good1 lo S v) (g : Gr lo S S') : Good1 lo S' v := ⟨let ⟨e, he⟩ := h.1; ⟨e, he.gr g⟩, h.2⟩
theorem Good1.len {lo : Nat} {S : Sto} {z : Str} (h : Good1 lo S (.str z)) : z.length ≤ 1000 := h.2
theorem Good1.okz {lo : Nat} {S : Sto} {z : Str} (h : Good1 lo S (.str z)) : okZ z = true := by
  obtain ⟨d, hd⟩ := h.1
  cases hd with
  | str _ q => exact q
theorem GoodH.mem {lo : Nat} {S : Sto} {xs : List Vl} (h : GoodH lo S (.tup xs)) : xs.length ≤ 1000 ∧ ∀ x ∈ xs, Good1 lo S x := ⟨h.2.1, fun x hx => ⟨dat_mem h.1 x hx, h.2.2 x hx⟩⟩
theorem Good1.mem {lo : Nat} {S : Sto} {xs : List Vl} (h : Good1 lo S (.tup xs)) : xs.length ≤ 1000 ∧ ∀ x ∈ xs, Good lo S x := ⟨h.2.1, fun x hx => ⟨dat_mem h.1 x hx, h.2.2 x hx⟩⟩
theorem form_of {lz : Nat} {v : Vl} (h : isForm lz v = true) : ∃ (i : Nat) (mv : List Vl) (o : Vl), v = .tup [.int (i : Int), .tup mv, o] ∧ i < 61 ∧ mv.length = lz := by
  unfold isForm at h
  split at h
  · rename_i a b c
    simp only [Bool.and_eq_true, decide_eq_true_eq] at h
    obtain ⟨i, rfl, hi⟩ := num_of h.1
    obtain ⟨mv, rfl⟩ := tup_of h.2.1
    exact ⟨i, mv, c, rfl, by omega, h.2.2⟩
  · cases h
section
variable {n lo : Nat} {S : Sto}
theorem is_rows_w {C : Nat → List Vl → Q.M Vl} (hC : C = (lev (n + 5)).1) {vb : Vl} {rs : List Vl} {zz : Str} {s0 s2 : Vl} {ss : List Int} {sz : Nat} {D : End_} (hv : ∀ x ∈ rs, Good lo S x) (hl : rs.length ≤ 1000) (hf : rs.all (isForm zz.length) = true) (h1 : sz < S.n) (h2 : S.at_ sz = .lst (ss.map Vl.int)) (h3 : ss.length ≤ 1000)
    {b6 b7 b8 b9 b10 b11 : Option Vl}
    (hD1 : rs.all (isRw ss) = false → ∀ S', Gr 0 S S' → D.rt (.bl false) S') (hD2 : rs.all (isRw ss) = true → ∀ b6 b7 b8 b9 b10 b11 S', Gr 0 S S' → D.nx [some s0, some (.ref sz), some s2, some (.str zz), some vb, some (.tup rs), b6, b7, b8, b9, b10, b11] S') :
    wps (sFor (mIt (mSlot 5)) (gTp ((gNm 6) :: ((gNm 7) :: ((gNm 8) :: []))))
    (sIf (mOr (mNot (mTst (mCall (C 7) [] (mCons (mTup (mCons (mSlot 8) mNil)) (mCons (mSlot 6) (mCons (mC (.int 1)) mNil)))))) (mNot (mTst (mBi bAll (mCons (mLc (mIt (mSlot 7)) (.nm 11) mTrue (mCall (C 8) [] (mCons (mSlot 11) (mCons (mSlot 6) (mCons (mSlot 1) mNil)))) [11]) mNil)))))
    (sRet (mC (.bl false)))
    sSkip) [some s0, some (.ref sz), some s2, some (.str zz), some vb, some (.tup rs), b6, b7, b8, b9, b10, b11] S) D := by
  refine s_for ?_
  rw [w_it]
  refine a_slot ⟨_, rfl, .inl ⟨rs, rfl, rs, fun i ρ S1 => (∃ b6 b7 b8 b9 b10 b11, ρ = [some s0, some (.ref sz), some s2, some (.str zz), some vb, some (.tup rs), b6, b7, b8, b9, b10, b11]) ∧ (rs.take i).all (isRw ss) = true ∧ Gr 0 S S1, ⟨⟨_, _, _, _, _, _, rfl⟩, rfl, Gr.refl⟩, fun i ρ S3 _ _ => rfl, ?_, ?_⟩⟩
  · rintro i x ρ S1 hx ⟨⟨b6, b7, b8, b9, b10, b11, rfl⟩, hi, g1⟩
    have hxm := List.mem_of_getElem? hx
    have gx := (hv x hxm).gr (g1.up (Nat.zero_le _))
    obtain ⟨k, mv, o, rfl, hk, hmv⟩ := form_of (List.all_eq_true.mp hf x hxm)
    obtain ⟨_, hm⟩ := gx.mem
    have go := hm o (by simp)
    have gmv := hm (.tup mv) (by simp)
    obtain ⟨kv, hkv⟩ : ∃ kv : Int, kv = (k : Int) := ⟨_, rfl⟩
    rw [← hkv] at hx hxm
    rw [← hkv]
    show wps (sIf _ _ _ [some s0, some (.ref sz), some s2, some (.str zz), some vb, some (.tup rs), some (.int kv), some (.tup mv), some o, b9, b10, b11] S1) _
    have isr : isRw ss (.tup [.int kv, .tup mv, o]) = (isFl kv 1 (.tup [o]) && mv.all (isMv kv ss)) := rfl
    have bad : isRw ss (.tup [.int kv, .tup mv, o]) = false → rs.all (isRw ss) = false := fun h => by
      rw [← Bool.not_eq_true]
      intro z
      rw [List.all_eq_true.mp z _ hxm] at h; cases h
    have good : isRw ss (.tup [.int kv, .tup mv, o]) = true → (rs.take (i + 1)).all (isRw ss) = true := fun h => by
      rw [take_snoc hx, List.all_append, hi]
      simp [h]
    refine a_if ?_
    refine a_or (a_not (a_tst (a_call (a_cons (a_tup (a_cons (a_slot ⟨_, rfl, a_nil ⟨sz1, a_cons (a_slot ⟨_, rfl, a_cons (a_c (a_nil ?_))⟩)⟩⟩)))))))
    have q1 : wpe (C 7 [.tup [o], .int kv, .int 1] S1) noE fun r S' => r = .bl (isFl kv 1 (.tup [o])) ∧ Gr 0 S1 S' := by
      rw [hC]
      exact are_fills_w (n := n + 1) (lo := lo) (good_tup (fun x hx => by rw [List.mem_singleton.mp hx]; exact go) (by show 1 ≤ 61; decide))
    refine wpe_mono q1 ?_ (fun _ _ _ _ z => z.elim)
    rintro _ S2 ⟨rfl, g2⟩
    refine ⟨_, rfl, ?_⟩
    cases hfl : isFl kv 1 (.tup [o]) with
    | false =>
      exact ifp rfl (ifp rfl (a_ret (a_c (hD1 (bad (by rw [isr, hfl]; rfl)) _ (g1.trans g2)))))
    | true =>
      refine ifn rfl ?_
      refine a_not (a_tst ?_)
      refine w_all ?_
      rw [w_it]
      refine a_slot ⟨_, rfl, .inl ⟨mv, rfl, mv, isMv kv ss, by have := gmv.mem.1; omega, fun j S3 _ _ => rfl, fun y hy S3 g3 => ?_, fun S3 g3 => ?_⟩⟩
      · show wpe (mCall (C 8) [] (mCons (mSlot 11) (mCons (mSlot 6) (mCons (mSlot 1) mNil))) [some s0, some (.ref sz), some s2, some (.str zz), some vb, some (.tup rs), some (.int kv), some (.tup mv), some o, b9, b10, some y] S3) noE _
        refine a_call (a_cons (a_slot ⟨_, rfl, a_cons (a_slot ⟨_, rfl, a_cons (a_slot ⟨_, rfl, a_nil ?_⟩)⟩)⟩))
        have g13 := (g1.trans g2).trans g3
        have q2 : wpe (C 8 [y, .int kv, .ref sz] S3) noE fun r S' => r = .bl (isMv kv ss y) ∧ Gr 0 S3 S' := by
          rw [hC]
          exact is_move_w (n := n) (lo := lo) ((gmv.mem.2 y hy).gr ((g2.trans g3).up (Nat.zero_le _))) (Nat.lt_of_lt_of_le h1 g13.n) ((g13.at_ _ (Nat.zero_le _) h1).trans h2) h3
        refine wpe_mono q2 ?_ (fun _ _ _ _ z => z.elim)
        rintro _ S4 ⟨rfl, g4⟩
        exact ⟨rfl, g4⟩
      · refine ⟨_, rfl, ?_⟩
        have g13 := (g1.trans g2).trans g3
        cases hmv : mv.all (isMv kv ss) with
        | false => exact ifp rfl (a_ret (a_c (hD1 (bad (by rw [isr, hmv, Bool.and_false])) _ g13)))
        | true => exact ifn rfl (a_skip ⟨⟨_, _, _, _, _, _, rfl⟩, good (by rw [isr, hfl, hmv]; rfl), g13⟩)
  · rintro ρ S1 ⟨⟨b6, b7, b8, b9, b10, b11, rfl⟩, hi, g1⟩
    rw [List.take_length] at hi
    exact hD2 hi _ _ _ _ _ _ _ g1
theorem is_boxes_w {v : Vl} (hv : GoodH lo S v) : wpe ((lev (n + 6)).1 10 [v] S) noE fun r S' => r = .bl (isBx v) ∧ Gr 0 S S' := by
  obtain ⟨t, ht⟩ := hv.ty
  rw [lv_is_boxes]
  refine w_run rfl ?_
  unfold b_is_boxes
  obtain ⟨C, hC⟩ : ∃ C, C = (lev (n + 5)).1 := ⟨_, rfl⟩
  rw [← hC]
  with_reducible refine a_ifs ?_
  refine a_or (a_not (a_tst (a_bi (a_cons (a_slot ⟨_, rfl, a_cons (a_c (a_nil ?_))⟩)))))
  rw [o_isTup ht]
  cases v with
  | tup xs =>
    obtain ⟨hl, hm⟩ := hv.mem
    refine ⟨_, rfl, ifn rfl ?_⟩
    refine a_or (a_tst (a_bin (a_bi (a_cons (a_slot ⟨_, rfl, a_nil (g_lent (a_c (g_nei ⟨_, rfl, ?_⟩)))⟩)))))
    by_cases h4 : xs.length = 4
    · obtain ⟨a, l, b, r, rfl⟩ := four_of h4
      have ga := hm a (by simp)
      have gl := hm l (by simp)
      have gb := hm b (by simp)
      have gr := hm r (by simp)
      refine ifn rfl ?_
      obtain ⟨ta, hta⟩ := ga.ty
      refine a_or (a_not (a_tst (a_bi (a_cons (a_bin (a_slot ⟨_, rfl, a_c (g_at0 (a_cons (a_c (a_nil ?_))))⟩))))))
      rw [o_isStr hta]
      refine ⟨_, rfl, ?_⟩
      have noHead : headOk a l b r = false → isBx (.tup [a, l, b, r]) = false := fun h => by rw [isBx_eq, h]; simp
      cases ha : isB a with
      | false =>
        have fin : Vl.bl false = .bl (isBx (.tup [a, l, b, r])) := by rw [noHead (by unfold headOk; rw [ha]; simp)]
        cases a with
        | str z =>
          refine ifn rfl (a_tst (a_bin (a_bin (a_slot ⟨_, rfl, a_c (g_at0 (a_c (g_nstr ⟨_, rfl, ?_⟩)))⟩))))
          refine ifp (by show (!decide (z = "boxes")) = true; rw [show decide (z = "boxes") = false from ha]; rfl) (a_rets (a_c ⟨fin, Gr.refl⟩))
        | _ => exact ifp rfl (ifp rfl (a_rets (a_c ⟨fin, Gr.refl⟩)))
      | true =>
        obtain ⟨z, rfl⟩ : ∃ z, a = .str z := by
          cases a with
          | str z => exact ⟨z, rfl⟩
          | _ => cases ha
        refine ifn rfl (a_tst (a_bin (a_bin (a_slot ⟨_, rfl, a_c (g_at0 (a_c (g_nstr ⟨_, rfl, ?_⟩)))⟩))))
        refine ifn (by show (!decide (z = "boxes")) = false; rw [show decide (z = "boxes") = true from ha]; rfl) ?_
        refine a_let4 (a_slot ⟨_, rfl, _, _, _, _, rfl, ?_⟩)
        have hcl : ∀ S1, Gr 0 S S1 → wpe (C 4 [l] S1) noE fun r S' => r = .bl (isLet l) ∧ Gr 0 S1 S' := fun S1 g1 => by
          rw [hC]
          exact are_letters_w (n := n + 3) (gl.gr (g1.up (Nat.zero_le _))).ty (fun z e => by rw [e] at gl; exact gl.len)
        show wps (sSeq _ _ [some (.tup [.str z, l, b, r]), none, some (.str z), some l, some b, some r, none, none, none, none, none, none] S) _
        generalize hv0 : Vl.tup [.str z, l, b, r] = v0
        rw [hv0] at noHead
        with_reducible refine a_ifs ?_
        refine a_or (a_not (a_tst (a_call (a_cons (a_slot ⟨_, rfl, a_nil ?_⟩)))))
        refine wpe_mono (hcl S Gr.refl) ?_ (fun _ _ _ _ z => z.elim)
        rintro _ S1 ⟨rfl, g1⟩
        refine ⟨_, rfl, ?_⟩
        cases hL : isLet l with
        | false => exact ifp rfl (ifp rfl (a_rets (a_c ⟨by rw [noHead (by unfold headOk; rw [hL]; simp)], g1⟩)))
        | true =>
          obtain ⟨zz, rfl⟩ : ∃ zz, l = .str zz := by
            cases l with
            | str zz => exact ⟨zz, rfl⟩
            | _ => cases hL
          have lz := gl.len
          refine ifn rfl ?_
          obtain ⟨tb, htb⟩ := (gb.gr (g1.up (Nat.zero_le _))).ty
          refine a_or (a_not (a_tst (a_bi (a_cons (a_slot ⟨_, rfl, a_cons (a_c (a_nil ?_))⟩)))))
          rw [o_isTup htb]
          refine ⟨_, rfl, ?_⟩
          cases hB : isTup b with
          | false => exact ifp rfl (ifp rfl (a_rets (a_c ⟨by rw [noHead (by unfold headOk; rw [hB]; simp)], g1⟩)))
          | true =>
            obtain ⟨bs, rfl⟩ := tup_of hB
            refine ifn rfl ?_
            refine a_not (a_tst ?_)
            refine w_all ?_
            rw [w_it]
            refine a_slot ⟨_, rfl, .inl ⟨bs, rfl, bs, isTx, by have := gb.mem.1; omega, fun j S3 _ _ => rfl, fun y hy S3 g3 => ?_, fun S2 g2 => ?_⟩⟩
            · show wpe (mCall (C 1) [] (mCons (mSlot 10) mNil) [some v0, none, some (.str z), some (.str zz), some (.tup bs), some r, none, none, none, none, some y, none] S3) noE _
              refine a_call (a_cons (a_slot ⟨_, rfl, a_nil ?_⟩))
              have gy := (gb.mem.2 y hy).gr ((g1.trans g3).up (Nat.zero_le _))
              rw [hC]
              refine wpe_mono (is_text_w (n := n + 4) gy.ty (fun z e => by rw [e] at gy; exact gy.len)) ?_ (fun _ _ _ _ z => z.elim)
              rintro _ S4 ⟨rfl, g4⟩
              exact ⟨rfl, g4⟩
            refine ⟨_, rfl, ?_⟩
            have g12 := g1.trans g2
            cases hT : bs.all isTx with
            | false => exact ifp rfl (a_rets (a_c ⟨by rw [noHead (by unfold headOk; show (_ && (_ && (_ && bs.all isTx)) && _) = _; rw [hT]; simp)], g12⟩))
            | true =>
              refine ifn rfl ?_
              obtain ⟨tr, htr⟩ := (gr.gr (g12.up (Nat.zero_le _))).ty
              with_reducible refine a_ifs ?_
              refine a_or (a_not (a_tst (a_bi (a_cons (a_slot ⟨_, rfl, a_cons (a_c (a_nil ?_))⟩)))))
              rw [o_isTup htr]
              refine ⟨_, rfl, ?_⟩
              cases hR : isTup r with
              | false => exact ifp rfl (ifp rfl (a_rets (a_c ⟨by rw [noHead (by unfold headOk; rw [hR]; simp)], g12⟩)))
              | true =>
                obtain ⟨rs, rfl⟩ := tup_of hR
                have lr := gr.mem.1
                refine ifn rfl ?_
                refine a_not (a_tst (a_chain (a_c (a_bi (a_cons (a_slot ⟨_, rfl, a_nil (g_lent ?_)⟩))))))
                refine g_le ⟨_, rfl, ?_⟩
                have hd0 : headOk (.str z) (.str zz) (.tup bs) (.tup rs) = (decide (1 ≤ rs.length) && decide (rs.length ≤ 400)) := by
                  unfold headOk
                  show (_ && (_ && (true && bs.all isTx)) && (true && _)) = _
                  rw [ha, hL, hT]; rfl
                by_cases h1 : 1 ≤ rs.length
                · refine ifp (decide_eq_true (by omega)) ?_
                  unfold k_MOST_ROWS
                  refine a_c ?_
                  refine g_le ⟨_, rfl, ?_⟩
                  by_cases h2 : rs.length ≤ 400
                  · refine ifn (by rw [Bool.not_eq_false', decide_eq_true_iff]; omega) ?_
                    have hh : headOk (.str z) (.str zz) (.tup bs) (.tup rs) = true := by rw [hd0, decide_eq_true h1, decide_eq_true h2]; rfl
                    have noForm : formsOk (.str zz) (.tup bs) (.tup rs) = false → isBx v0 = false := fun h => by rw [← hv0, isBx_eq, h]; simp
                    with_reducible refine a_ifs ?_
                    refine a_or (a_not (a_tst ?_))
                    refine w_all ?_
                    rw [w_it]
                    refine a_slot ⟨_, rfl, .inl ⟨rs, rfl, rs, isForm zz.length, by omega, fun j S3 _ _ => rfl, fun y hy S3 g3 => ?_, fun S3 g3 => ?_⟩⟩
                    · show wpe (mCall (C 9) [] (mCons (mSlot 9) (mCons (mSlot 3) mNil)) [some v0, none, some (.str z), some (.str zz), some (.tup bs), some (.tup rs), none, none, none, some y, none, none] S3) noE _
                      refine a_call (a_cons (a_slot ⟨_, rfl, a_cons (a_slot ⟨_, rfl, a_nil ?_⟩)⟩))
                      have gy := (gr.mem.2 y hy).gr ((g12.trans g3).up (Nat.zero_le _))
                      rw [hC]
                      refine wpe_mono (has_row_form_w (n := n + 2) gy lz) ?_ (fun _ _ _ _ z => z.elim)
                      rintro _ S4 ⟨rfl, g4⟩
                      exact ⟨rfl, g4⟩
                    refine ⟨_, rfl, ?_⟩
                    have g13 := g12.trans g3
                    cases hF : rs.all (isForm zz.length) with
                    | false => exact ifp rfl (ifp rfl (a_rets (a_c ⟨by rw [noForm (by show (rs.all (isForm zz.length) && _) = _; rw [hF]; rfl)], g13⟩)))
                    | true =>
                      refine ifn rfl ?_
                      obtain ⟨r0, rt, hrs⟩ : ∃ r0 rt, rs = r0 :: rt := by
                        cases rs with
                        | nil => cases h1
                        | cons r0 rt => exact ⟨r0, rt, rfl⟩
                      obtain ⟨k0, mv0, o0, hr0, hk0, _⟩ := form_of (List.all_eq_true.mp hF r0 (by rw [hrs]; simp))
                      have e0 : ∀ Z : Vl → Sto → Prop, wpo (bSub' (.tup rs) (.int 0) S3) Z = Z r0 S3 := fun Z => by rw [hrs, o_at0]
                      have e1 : ∀ Z : Vl → Sto → Prop, wpo (bSub' r0 (.int 0) S3) Z = Z (.int (k0 : Int)) S3 := fun Z => by rw [hr0, o_at0]
                      refine a_tst (a_bin (a_bin (a_bin (a_slot ⟨_, rfl, a_c ?_⟩))))
                      rw [e0]
                      refine a_c ?_
                      rw [e1]
                      refine a_bi (a_cons (a_slot ⟨_, rfl, a_nil (g_lent ?_)⟩))
                      refine g_nei ⟨_, rfl, ?_⟩
                      have hz0 : (szs rs).headD 0 = (k0 : Int) := by rw [hrs, hr0]; rfl
                      by_cases hz : (k0 : Int) = (bs.length : Int)
                      · refine ifn (by rw [hz]; simp) ?_
                        have hfo : formsOk (.str zz) (.tup bs) (.tup rs) = true := by
                          show (rs.all (isForm zz.length) && decide ((szs rs).headD 0 = (bs.length : Int))) = true
                          rw [hF, hz0, decide_eq_true hz]; rfl
                        have fin : isBx v0 = rs.all (isRw (szs rs)) := by
                          rw [← hv0, isBx_eq, hh, hfo]; rfl
                        with_reducible refine a_let ?_
                        with_reducible refine w_lcmap ?_
                        rw [w_it]
                        refine a_slot ⟨_, rfl, .inl ⟨rs, rfl, rs, (szs rs).map Vl.int, by rw [List.length_map]; unfold szs; rw [List.length_map], by omega, fun j S4 _ _ => rfl, fun i x y S4 hx hy g4 => ?_, fun S4 g4 n4 h4 => ?_⟩⟩
                        · refine ⟨_, rfl, ?_⟩
                          rw [w_true]
                          refine ⟨rfl, Gr.refl, ?_⟩
                          show wpe (mBin bSub' (mSlot 9) (mC (.int 0)) [some v0, none, some (.str z), some (.str zz), some (.tup bs), some (.tup rs), none, none, none, some x, none, none] S4) noE _
                          obtain ⟨i0, mv1, o1, rfl, _, _⟩ := form_of (List.all_eq_true.mp hF x (List.mem_of_getElem? hx))
                          refine a_bin (a_slot ⟨_, rfl, a_c (g_at0 ?_)⟩)
                          unfold szs at hy
                          rw [List.getElem?_map, List.getElem?_map, hx] at hy
                          cases hy
                          exact ⟨rfl, Gr.refl⟩
                        · show wps (sSeq _ _ [some v0, some (.ref S3.n), some (.str z), some (.str zz), some (.tup bs), some (.tup rs), none, none, none, none, none, none] S4) _
                          generalize S3.n = sz at n4 h4 ⊢
                          have g14 := g13.trans g4
                          rw [s_seq]
                          have key : rs.all (isRw (szs rs)) = true → ∀ ρ S5, Gr 0 S4 S5 → wps (sRet (mC (.bl true)) ρ S5) ⟨fun _ S1 => Vl.non = Vl.bl (isBx v0) ∧ Gr 0 S S1, fun _ _ => False, fun _ _ => False, fun r S' => r = Vl.bl (isBx v0) ∧ Gr 0 S S', noE⟩ := fun h ρ S5 g5 => a_ret (a_c ⟨by rw [fin, h], g14.trans g5⟩)
                          have key2 : rs.all (isRw (szs rs)) = false → ∀ S5, Gr 0 S4 S5 → Vl.bl false = Vl.bl (isBx v0) ∧ Gr 0 S S5 := fun h S5 g5 => ⟨by rw [fin, h], g14.trans g5⟩
                          exact is_rows_w (lo := lo) hC (fun x hx => (gr.mem.2 x hx).gr (g14.up (Nat.zero_le _))) lr hF n4 h4 (by unfold szs; rw [List.length_map]; exact lr) key2 (fun h b6 b7 b8 b9 b10 b11 S5 g5 => key h [some v0, some (.ref sz), some (.str z), some (.str zz), some (.tup bs), some (.tup rs), b6, b7, b8, b9, b10, b11] S5 g5)
                      · refine ifp (by rw [Bool.not_eq_true']; rw [beq_eq_false_iff_ne]; exact hz) (a_rets (a_c ⟨by rw [noForm (by show (_ && decide ((szs rs).headD 0 = (bs.length : Int))) = _; rw [hz0, decide_eq_false hz]; simp)], g13⟩))
                  · exact ifp (by rw [Bool.not_eq_true', decide_eq_false_iff_not]; omega) (a_rets (a_c ⟨by rw [noHead (by rw [hd0, decide_eq_false h2]; simp)], g12⟩))
                · exact ifn (decide_eq_false (by omega)) ⟨_, rfl, ifp rfl (a_rets (a_c ⟨by rw [noHead (by rw [hd0, decide_eq_false h1]; simp)], g12⟩))⟩
    · refine ifp (by simp; omega) (ifp rfl (a_rets (a_c ⟨?_, Gr.refl⟩)))
      rw [isBx_4 h4]
  | _ => exact ⟨_, rfl, ifp rfl (ifp rfl (a_rets (a_c ⟨rfl, Gr.refl⟩)))⟩
end
end G

set_option linter.all false
set_option maxRecDepth 100000
set_option maxHeartbeats 4000000
namespace G
open PySem PySem.Spec PyProof.Rows L2 Q

/-! ### the law's judgement of fills -/
theorem o_inI {n : Nat} {i : Int} {ns : List Int} {S : Sto} {Z : Vl → Sto → Prop} (h : S.at_ n = .lst (ns.map Vl.int)) : wpo (bIn false (.int i) (.ref n) S) Z = Z (.bl (decide (i ∈ ns))) S := by
  have e : toD S (.ref n) = some (.list (ns.map PyData.int)) := toD_list h (toDWs_ints ns)
  have e2 : toD S (.int i) = some (.int i) := rfl
  have g : getD S n = none := by unfold getD; rw [h]
  have s1 : SeqAt.shaped (PyData.int i) = true := rfl
  have s2 : SeqAt.shaped (.list (ns.map PyData.int)) = true := by
    unfold SeqAt.shaped
    rw [show PyData.canLay0 (.list (ns.map PyData.int)) = true from lay_ints ns, decide_eq_true (Nat.le_trans (dep_ints ns) (by decide))]; rfl
  have key : ((ns.map PyData.int).any fun z => PyData.eqv z (.int i)) = decide (i ∈ ns) := by
    clear h e s2
    induction ns with
    | nil => simp
    | cons m ns ih =>
      rw [List.map_cons, List.any_cons, ih, Bool.eq_iff_iff]
      simp only [PyData.eqv, Bool.or_eq_true, decide_eq_true_eq, List.mem_cons, beq_iff_eq]
      constructor
      · rintro (h | h)
        · exact .inl h.symm
        · exact .inr h
      · rintro (h | h)
        · exact .inl h.symm
        · exact .inr h
  have r : bIn false (.int i) (.ref n) S = some (.bl (decide (i ∈ ns)), S) := by
    unfold bIn
    simp only [g, e, e2]
    rw [if_pos (by rw [s1, s2]; rfl), key]
    rfl
  rw [r]; rfl
def bI (ys : List Vl) : List Int := (ys.filter fun v => !isStr v).map toI
theorem bI_snoc {ys : List Vl} {i : Nat} {y : Vl} (h : ys[i]? = some y) : bI (ys.take (i + 1)) = bI (ys.take i) ++ (if isStr y then [] else [toI y]) := by
  unfold bI
  rw [take_snoc h, List.filter_append, List.map_append]
  congr 1
  cases h2 : isStr y <;> simp [h2]
theorem bI_pre {ys : List Vl} (i : Nat) : ∃ r, bI ys = bI (ys.take i) ++ r := by
  refine ⟨bI (ys.drop i), ?_⟩
  unfold bI
  rw [← List.map_append, ← List.filter_append, List.take_append_drop]
theorem usd_snoc {xs ys : List Vl} {i : Nat} (h : xs[i]? = some (.tup ys)) : usd (xs.take (i + 1)) = usd (xs.take i) ++ bI ys := by
  unfold usd
  rw [take_snoc h, List.flatMap_append, List.map_append]
  congr 1
  simp
  rfl
theorem usd_pre {xs : List Vl} (i : Nat) : ∃ r, usd xs = usd (xs.take i) ++ r := by
  refine ⟨usd (xs.drop i), ?_⟩
  unfold usd
  rw [← List.map_append, ← List.flatMap_append, List.take_append_drop]
theorem nodup_pre {α : Type} {a b r : List α} (h : b = a ++ r) (n : b.Nodup) : a.Nodup := by
  rw [h] at n
  exact (List.nodup_append.mp n).1
section
variable {m lo : Nat} {S0 : Sto}
noncomputable abbrev pcB (C : Nat → List Vl → Q.M Vl) : MS := (sIf (mTst (mCall (C 30) [] (mCons (mSlot 5) mNil)))
    (sSeq (sIf (mOr (mNot (mTst (mChain bLe bLt (mC (.int 0)) (mSlot 5) (mSlot 1)))) (mTst (mBin (bIn false) (mSlot 5) (mSlot 3))))
    (sRet (mC (.bl false)))
    sSkip)
    (sExp (mMet "list" mtAppend (mSlot 3) (mCons (mSlot 5) mNil))))
    (sIf (mOr (mNot (mTst (mCall (C 31) [] (mCons (mSlot 5) mNil)))) (mTst (mBin bNe (mBi bLen (mCons (mSlot 5) mNil)) (mC (.int 1)))))
    (sRet (mC (.bl false)))
    sSkip))
theorem pcs_w {C : Nat → List Vl → Q.M Vl} (hC : C = (lev (m + 1)).1) {S : Sto} {ys : List Vl} {u : Nat} {U : List Int} {k size : Int} {v0 : Vl} {b5 : Option Vl} {D : End_} (hy : ∀ y ∈ ys, Good lo S0 y) (hl : ys.length ≤ 61) (hU : U.length ≤ 3721) (hu0 : S0.n ≤ u) (hu : u < S.n) (ha : S.at_ u = .lst (U.map Vl.int)) (hn : U.Nodup) (g0 : Gr 0 S0 S)
    (hbad : ¬ (ys.all (isPc k) = true ∧ (U ++ bI ys).Nodup) → ∀ S', Gr 0 S0 S' → D.rt (.bl false) S')
    (hok : ys.all (isPc k) = true → (U ++ bI ys).Nodup → ∀ b5 S', u < S'.n → S'.at_ u = .lst ((U ++ bI ys).map Vl.int) → Gr 0 S0 S' → D.nx [some v0, some (.int k), some (.int size), some (.ref u), some (.tup ys), b5] S') :
    wps (sFor (mIt (mSlot 4)) (gNm 5) (pcB C) [some v0, some (.int k), some (.int size), some (.ref u), some (.tup ys), b5] S) D := by
  refine s_for ?_
  rw [w_it]
  refine a_slot ⟨_, rfl, .inl ⟨ys, rfl, ys, fun i ρ S1 => ∃ b5, ρ = [some v0, some (.int k), some (.int size), some (.ref u), some (.tup ys), b5] ∧ (ys.take i).all (isPc k) = true ∧ (U ++ bI (ys.take i)).Nodup ∧ u < S1.n ∧ S1.at_ u = .lst ((U ++ bI (ys.take i)).map Vl.int) ∧ Gr 0 S0 S1, ⟨b5, rfl, rfl, by simpa [bI] using hn, hu, by simpa [bI] using ha, g0⟩, fun i ρ S3 _ _ => rfl, ?_, ?_⟩⟩
  · rintro i y ρ S1 hyi ⟨b5, rfl, q1, q2, q3, q4, q5⟩
    have hym := List.mem_of_getElem? hyi
    have gy := (hy y hym).gr (q5.up (Nat.zero_le _))
    have bad : isPc k y = false → ∀ S', Gr 0 S0 S' → D.rt (.bl false) S' := fun h => hbad fun z => by
      rw [List.all_eq_true.mp z.1 y hym] at h; cases h
    have sn : isPc k y = true → (ys.take (i + 1)).all (isPc k) = true := fun h => by rw [take_snoc hyi, List.all_append, q1]; simp [h]
    refine a_gnm ?_
    show wps (pcB C [some v0, some (.int k), some (.int size), some (.ref u), some (.tup ys), some y] S1) _
    refine a_if (a_tst (a_call (a_cons (a_slot ⟨_, rfl, a_nil ?_⟩))))
    have qa : wpe (C 30 [y] S1) noE fun r S' => r = .bl (isWh y) ∧ S' = S1 := by rw [hC]; exact oh_whole_w gy.ty
    refine wpe_mono qa ?_ (fun _ _ _ _ z => z.elim)
    rintro _ S2 ⟨rfl, rfl⟩
    refine ⟨_, rfl, ?_⟩
    cases hw : isWh y with
    | true =>
      obtain ⟨j, rfl⟩ : ∃ j, y = .int j := by
        cases y with
        | int j => exact ⟨j, rfl⟩
        | _ => cases hw
      have hp : isPc k (.int j) = (decide (0 ≤ j) && decide (j < k)) := rfl
      refine ifp rfl ?_
      with_reducible refine a_ifs ?_
      refine a_or (a_not (a_tst (a_chain (a_c (a_slot ⟨_, rfl, ?_⟩)))))
      refine g_le ⟨_, rfl, ?_⟩
      by_cases h1 : 0 ≤ j
      · refine ifp (decide_eq_true h1) (a_slot ⟨_, rfl, ?_⟩)
        refine g_lt ⟨_, rfl, ?_⟩
        by_cases h2 : j < k
        · refine ifn (by rw [decide_eq_true h2]; rfl) (a_tst (a_bin (a_slot ⟨_, rfl, a_slot ⟨_, rfl, ?_⟩⟩)))
          rw [o_inI q4]
          refine ⟨_, rfl, ?_⟩
          have ei : bI (ys.take (i + 1)) = bI (ys.take i) ++ [j] := by rw [bI_snoc hyi]; rfl
          by_cases h3 : j ∈ U ++ bI (ys.take i)
          · refine ifp (decide_eq_true h3) (a_rets (a_c (hbad (fun z => ?_) _ q5)))
            obtain ⟨r, hr⟩ := bI_pre (ys := ys) (i + 1)
            have z2 := z.2
            rw [hr, ei, ← List.append_assoc, ← List.append_assoc] at z2
            have z3 := (List.nodup_append.mp z2).1
            exact (List.nodup_append.mp z3).2.2 j h3 j (by simp) rfl
          · refine ifn (decide_eq_false h3) ?_
            refine a_exp (a_met (a_slot ⟨_, rfl, o_tyl q4, ?_⟩))
            refine a_cons (a_slot ⟨_, rfl, a_nil ?_⟩)
            have ll : (bI (ys.take i)).length ≤ 61 := by
              unfold bI
              rw [List.length_map]
              refine Nat.le_trans (List.length_filter_le _ _) ?_
              rw [List.length_take]; omega
            rw [o_append q4 (by rw [List.length_map, List.length_append, show sizeLine = 16777216 from rfl]; omega)]
            refine ⟨_, rfl, sn (by rw [hp, decide_eq_true h1, decide_eq_true h2]; rfl), ?_, q3, ?_, q5.set_new hu0⟩
            · rw [ei, ← List.append_assoc]
              exact (List.perm_append_singleton j _).nodup_iff.mpr (List.nodup_cons.mpr ⟨h3, q2⟩)
            · rw [set_same, ei, ← List.append_assoc, List.map_append (l₁ := U ++ _)]
              rfl
        · exact ifp (by rw [decide_eq_false h2]; rfl) (ifp rfl (a_rets (a_c (bad (by rw [hp, decide_eq_false h2]; simp) _ q5))))
      · exact ifn (decide_eq_false h1) ⟨_, rfl, ifp rfl (ifp rfl (a_rets (a_c (bad (by rw [hp, decide_eq_false h1]; rfl) _ q5))))⟩
    | false =>
      refine ifn rfl ?_
      have nonum : isNum y k = false := by
        cases y with
        | int j => cases hw
        | _ => rfl
      refine a_if (a_or (a_not (a_tst (a_call (a_cons (a_slot ⟨_, rfl, a_nil ?_⟩))))))
      have qb : wpe (C 31 [y] S2) noE fun r S' => r = .bl (isTx y) ∧ Gr 0 S2 S' := by
        rw [hC]; exact oh_word_w gy.ty fun z e => by rw [e] at gy; exact ⟨gy.len, gy.okz⟩
      refine wpe_mono qb ?_ (fun _ _ _ _ z => z.elim)
      rintro _ S3 ⟨rfl, g3⟩
      refine ⟨_, rfl, ?_⟩
      have g03 := q5.trans g3
      cases hx : isTx y with
      | false =>
        have : isPc k y = false := by
          unfold isPc
          rw [nonum, Bool.or_false]
          cases y with
          | str z => show (isTxt z && _) = false; rw [show isTxt z = false from hx]; rfl
          | _ => rfl
        exact ifp rfl (ifp rfl (a_ret (a_c (bad this _ g03))))
      | true =>
        obtain ⟨z, rfl⟩ : ∃ z, y = .str z := by
          cases y with
          | str z => exact ⟨z, rfl⟩
          | _ => cases hx
        have hz := gy.len
        have hp : isPc k (.str z) = decide (z.length = 1) := by
          show ((isTxt z && _) || false) = _
          rw [show isTxt z = true from hx, Bool.true_and, Bool.or_false]
        refine ifn rfl (a_tst (a_bin (a_bi (a_cons (a_slot ⟨_, rfl, a_nil ?_⟩)))))
        rw [o_lens hz]
        refine a_c ?_
        refine g_nei ⟨_, rfl, ?_⟩
        by_cases h1 : z.length = 1
        · refine ifn (by rw [h1]; rfl) (a_skip ?_)
          have ei : bI (ys.take (i + 1)) = bI (ys.take i) := by rw [bI_snoc hyi]; exact List.append_nil _
          refine ⟨_, rfl, sn (by rw [hp]; exact decide_eq_true h1), by rw [ei]; exact q2, Nat.lt_of_lt_of_le q3 g3.n, by rw [ei]; exact (g3.at_ _ (Nat.zero_le _) q3).trans q4, g03⟩
        · refine ifp (by rw [Bool.not_eq_true', beq_eq_false_iff_ne]; omega) (a_ret (a_c (bad (by rw [hp]; exact decide_eq_false h1) _ g03)))
  · rintro ρ S1 ⟨b5, rfl, q1, q2, q3, q4, q5⟩
    rw [List.take_length] at q1 q2 q4
    exact hok q1 q2 _ _ q3 q4 q5
end
end G

set_option linter.all false
set_option maxRecDepth 100000
set_option maxHeartbeats 4000000
namespace G
open PySem PySem.Spec PyProof.Rows L2 Q

theorem law_fills_w {m lo : Nat} {S : Sto} {v : Vl} {k size : Int} (hv : Good lo S v) : wpe ((lev (m + 2)).1 38 [v, .int k, .int size] S) noE fun r S' => r = .bl (isFl k size v) ∧ Gr 0 S S' := by
  obtain ⟨t, ht⟩ := hv.ty
  rw [lv__law_are_fills]
  refine w_run rfl ?_
  unfold b__law_are_fills
  obtain ⟨C, hC⟩ : ∃ C, C = (lev (m + 1)).1 := ⟨_, rfl⟩
  rw [← hC]
  with_reducible refine a_ifs ?_
  refine a_or (a_not (a_tst (a_bi (a_cons (a_slot ⟨_, rfl, a_cons (a_c (a_nil ?_))⟩)))))
  rw [o_isTup ht]
  cases v with
  | tup xs =>
    obtain ⟨hl, hm⟩ := hv.mem
    have eFl : isFl k size (.tup xs) = (decide ((xs.length : Int) = size) && xs.all (arePcs k) && decide (usd xs).Nodup) := rfl
    refine ⟨_, rfl, ifn rfl ?_⟩
    refine a_tst (a_bin (a_bi (a_cons (a_slot ⟨_, rfl, a_nil (g_lent (a_slot ⟨_, rfl, ?_⟩))⟩))))
    refine g_nei ⟨_, rfl, ?_⟩
    by_cases hs : (xs.length : Int) = size
    · refine ifn (by rw [hs]; simp) ?_
      with_reducible refine a_let ?_
      refine a_lst (a_nil ⟨by decide, ?_⟩)
      show wps (sSeq _ _ [some (.tup xs), some (.int k), some (.int size), some (.ref S.n), none, none] (S.push (.lst []))) _
      have ul : ∀ i, xs.all (arePcs k) = true ∨ (xs.take i).all (arePcs k) = true → (usd (xs.take i)).length ≤ 3721 := fun i _ => by
        unfold usd
        rw [List.length_map]
        have h1 := flat_len (f := bxs) (b := 61) (xs := xs.take i) fun x hx => by
          have hx := hm x (List.mem_of_mem_take hx)
          cases x with
          | tup ys => exact Nat.le_trans (List.length_filter_le _ _) hx.mem.1
          | _ => exact Nat.zero_le _
        have h2 : (xs.take i).length ≤ 61 := by rw [List.length_take]; omega
        have h3 : (xs.take i).length * 61 ≤ 61 * 61 := Nat.mul_le_mul_right _ h2
        omega
      have badF : xs.all (arePcs k) = false → isFl k size (.tup xs) = false := fun h => by rw [eFl, h]; simp
      rw [s_seq]
      refine s_for ?_
      rw [w_it]
      refine a_slot ⟨_, rfl, .inl ⟨xs, rfl, xs, fun i ρ S1 => ∃ b4 b5, ρ = [some (.tup xs), some (.int k), some (.int size), some (.ref S.n), b4, b5] ∧ (xs.take i).all (arePcs k) = true ∧ (usd (xs.take i)).Nodup ∧ S.n < S1.n ∧ S1.at_ S.n = .lst ((usd (xs.take i)).map Vl.int) ∧ Gr 0 S S1, ⟨none, none, rfl, rfl, List.nodup_nil, Nat.lt_succ_self _, push_same, Gr.push⟩, fun i ρ S3 _ _ => rfl, ?_, ?_⟩⟩
      · rintro i x ρ S1 hxi ⟨b4, b5, rfl, q1, q2, q3, q4, q5⟩
        have hxm := List.mem_of_getElem? hxi
        have gx := (hm x hxm).gr (q5.up (Nat.zero_le _))
        obtain ⟨tx, htx⟩ := gx.ty
        refine a_gnm ?_
        show wps (sSeq _ _ [some (.tup xs), some (.int k), some (.int size), some (.ref S.n), some x, b5] S1) _
        with_reducible refine a_ifs ?_
        refine a_not (a_tst (a_bi (a_cons (a_slot ⟨_, rfl, a_cons (a_c (a_nil ?_))⟩))))
        rw [o_isTup htx]
        refine ⟨_, rfl, ?_⟩
        cases hT : isTup x with
        | false =>
          refine ifp rfl (a_rets (a_c ⟨?_, q5⟩))
          rw [badF]
          rw [← Bool.not_eq_true]
          intro z
          have := List.all_eq_true.mp z x hxm
          cases x with
          | tup _ => cases hT
          | _ => cases this
        | true =>
          obtain ⟨ys, rfl⟩ := tup_of hT
          refine ifn rfl ?_
          have hU := ul i (.inr q1)
          have notOk : ¬ (ys.all (isPc k) = true ∧ (usd (xs.take i) ++ bI ys).Nodup) → isFl k size (.tup xs) = false := fun h => by
            rw [eFl]
            rw [← Bool.not_eq_true]
            intro z
            simp only [Bool.and_eq_true, decide_eq_true_eq] at z
            refine h ⟨List.all_eq_true.mp z.1.2 _ hxm, ?_⟩
            rw [← usd_snoc hxi]
            obtain ⟨r, hr⟩ := usd_pre (xs := xs) (i + 1)
            exact nodup_pre hr z.2
          have key1 : ¬ (ys.all (isPc k) = true ∧ (usd (xs.take i) ++ bI ys).Nodup) → ∀ S', Gr 0 S S' → Vl.bl false = .bl (isFl k size (.tup xs)) ∧ Gr 0 S S' := fun h S' g => ⟨by rw [notOk h], g⟩
          have key2 : ys.all (isPc k) = true → (usd (xs.take i) ++ bI ys).Nodup → ∀ b5 S', S.n < S'.n → S'.at_ S.n = .lst ((usd (xs.take i) ++ bI ys).map Vl.int) → Gr 0 S S' → ∃ b4 b5', ([some (Vl.tup xs), some (.int k), some (.int size), some (.ref S.n), some (.tup ys), b5] : En) = [some (Vl.tup xs), some (.int k), some (.int size), some (.ref S.n), b4, b5'] ∧ (xs.take (i + 1)).all (arePcs k) = true ∧ (usd (xs.take (i + 1))).Nodup ∧ S.n < S'.n ∧ S'.at_ S.n = .lst ((usd (xs.take (i + 1))).map Vl.int) ∧ Gr 0 S S' := fun h1 h2 b5 S' l a g => by
            refine ⟨_, _, rfl, ?_, by rw [usd_snoc hxi]; exact h2, l, by rw [usd_snoc hxi]; exact a, g⟩
            rw [take_snoc hxi, List.all_append, q1]
            simp [arePcs, h1]
          exact pcs_w hC (fun y hy => ((hm _ hxm).mem.2 y hy)) (hm _ hxm).mem.1 hU (Nat.le_refl _) q3 q4 q2 q5 key1 key2
      · rintro ρ S1 ⟨b4, b5, rfl, q1, q2, q3, q4, q5⟩
        rw [List.take_length] at q1 q2
        dsimp only
        refine a_ret ?_
        refine a_c ?_
        refine ⟨?_, q5⟩
        rw [eFl, q1, decide_eq_true q2, decide_eq_true hs]; rfl
    · refine ifp (by simpa using hs) (a_rets (a_c ⟨?_, Gr.refl⟩))
      rw [eFl, decide_eq_false hs]; rfl
  | _ => exact ⟨_, rfl, ifp rfl (ifp rfl (a_rets (a_c ⟨rfl, Gr.refl⟩)))⟩
def headV : Vl → Bool
  | .tup [a, l, b, r] => headOk a l b r
  | _ => false
theorem headV_4 {xs : List Vl} (h : xs.length ≠ 4) : headV (.tup xs) = false := by
  unfold headV
  split
  · rename_i e; cases e; exact absurd rfl h
  · rfl
theorem law_head_w {m lo : Nat} {S : Sto} {v : Vl} (hv : GoodH lo S v) : wpe ((lev (m + 2)).1 39 [v] S) noE fun r S' => r = .bl (headV v) ∧ Gr 0 S S' := by
  obtain ⟨t, ht⟩ := hv.ty
  rw [lv__law_is_head]
  refine w_run rfl ?_
  unfold b__law_is_head
  obtain ⟨C, hC⟩ : ∃ C, C = (lev (m + 1)).1 := ⟨_, rfl⟩
  rw [← hC]
  with_reducible refine a_ifs ?_
  refine a_or (a_not (a_tst (a_bi (a_cons (a_slot ⟨_, rfl, a_cons (a_c (a_nil ?_))⟩)))))
  rw [o_isTup ht]
  cases v with
  | tup xs =>
    obtain ⟨hl, hm⟩ := hv.mem
    refine ⟨_, rfl, ifn rfl ?_⟩
    refine a_or (a_tst (a_bin (a_bi (a_cons (a_slot ⟨_, rfl, a_nil (g_lent (a_c (g_nei ⟨_, rfl, ?_⟩)))⟩)))))
    by_cases h4 : xs.length = 4
    · obtain ⟨a, l, b, r, rfl⟩ := four_of h4
      have ga := hm a (by simp)
      have gl := hm l (by simp)
      have gb := hm b (by simp)
      have gr := hm r (by simp)
      refine ifn rfl ?_
      obtain ⟨ta, hta⟩ := ga.ty
      refine a_or (a_not (a_tst (a_bi (a_cons (a_bin (a_slot ⟨_, rfl, a_c (g_at0 (a_cons (a_c (a_nil ?_))))⟩))))))
      rw [o_isStr hta]
      refine ⟨_, rfl, ?_⟩
      show _
      have eH : headV (.tup [a, l, b, r]) = headOk a l b r := rfl
      cases ha : isB a with
      | false =>
        have fin : Vl.bl false = .bl (headV (.tup [a, l, b, r])) := by rw [eH]; unfold headOk; rw [ha]; simp
        cases a with
        | str z =>
          refine ifn rfl (a_tst (a_bin (a_bin (a_slot ⟨_, rfl, a_c (g_at0 (a_c (g_nstr ⟨_, rfl, ?_⟩)))⟩))))
          refine ifp (by show (!decide (z = "boxes")) = true; rw [show decide (z = "boxes") = false from ha]; rfl) (a_rets (a_c ⟨fin, Gr.refl⟩))
        | _ => exact ifp rfl (ifp rfl (a_rets (a_c ⟨fin, Gr.refl⟩)))
      | true =>
        obtain ⟨z, rfl⟩ : ∃ z, a = .str z := by
          cases a with
          | str z => exact ⟨z, rfl⟩
          | _ => cases ha
        refine ifn rfl (a_tst (a_bin (a_bin (a_slot ⟨_, rfl, a_c (g_at0 (a_c (g_nstr ⟨_, rfl, ?_⟩)))⟩))))
        refine ifn (by show (!decide (z = "boxes")) = false; rw [show decide (z = "boxes") = true from ha]; rfl) ?_
        with_reducible refine a_ifs ?_
        refine a_or (a_not (a_tst (a_call (a_cons (a_bin (a_slot ⟨_, rfl, a_c (g_at1 (a_nil ?_))⟩))))))
        have qb : wpe (C 31 [l] S) noE fun r S' => r = .bl (isTx l) ∧ Gr 0 S S' := by
          rw [hC]; exact oh_word_w gl.ty fun z e => by rw [e] at gl; exact ⟨gl.len, gl.okz⟩
        refine wpe_mono qb ?_ (fun _ _ _ _ z => z.elim)
        rintro _ S1 ⟨rfl, g1⟩
        refine ⟨_, rfl, ?_⟩
        cases hT : isTx l with
        | false =>
          have hL : isLet l = false := by
            cases l with
            | str zz => show (isTxt zz && _ && _) = false; rw [show isTxt zz = false from hT]; rfl
            | _ => rfl
          exact ifp rfl (ifp rfl (a_rets (a_c ⟨by rw [eH]; unfold headOk; rw [hL]; simp, g1⟩)))
        | true =>
          obtain ⟨zz, rfl⟩ : ∃ zz, l = .str zz := by
            cases l with
            | str zz => exact ⟨zz, rfl⟩
            | _ => cases hT
          have lz := gl.len
          have eL : isLet (.str zz) = (decide (1 ≤ zz.length) && decide (zz.length ≤ 26) && ascZ zz) := by
            show (isTxt zz && _ && _) = _
            rw [show isTxt zz = true from hT, Bool.true_and]
          have noL : isLet (.str zz) = false → Vl.bl false = .bl (headV (.tup [.str z, .str zz, b, r])) := fun h => by rw [eH]; unfold headOk; rw [h]; simp
          refine ifn rfl ?_
          refine a_or (a_not (a_tst (a_chain (a_c (a_bi (a_cons (a_bin (a_slot ⟨_, rfl, a_c (g_at1 (a_nil ?_))⟩))))))))
          rw [o_lens lz]
          refine g_le ⟨_, rfl, ?_⟩
          by_cases l1 : 1 ≤ zz.length
          · refine ifp (decide_eq_true (by omega)) (a_c ?_)
            refine g_le ⟨_, rfl, ?_⟩
            by_cases l2 : zz.length ≤ 26
            · refine ifn (by rw [Bool.not_eq_false', decide_eq_true_iff]; omega) ?_
              refine a_tst (a_bin (a_met (a_c ⟨rfl, a_cons (a_sortSet (a_bin (a_slot ⟨_, rfl, a_c (g_at1 ?_)⟩)))⟩)))
              rw [o_setS (by omega)]
              refine a_nil ?_
              have sl : ((sortS (dstG (sgs zz))).map (·.length)).sum ≤ 1000000 := by
                have hp : (sortS (dstG (sgs zz))).Perm (dstG (sgs zz)) := List.mergeSort_perm _ _
                have h1 : ∀ x ∈ sortS (dstG (sgs zz)), x.length = 1 := fun x hx => by
                  have := (mem_dstG _ _ rfl).mp (hp.mem_iff.mp hx)
                  unfold sgs at this
                  obtain ⟨c, _, e⟩ := List.mem_map.mp this
                  rw [← e]; rfl
                have h2 : (sortS (dstG (sgs zz))).length ≤ 1000 := by
                  rw [hp.length_eq]
                  exact Nat.le_trans (dstG_len _ _ rfl) (by rw [sgs_len]; exact lz)
                have key : ∀ L : List Str, (∀ x ∈ L, x.length = 1) → (L.map (·.length)).sum = L.length := by
                  intro L
                  induction L with
                  | nil => intro _; rfl
                  | cons x L ih => intro h; rw [List.map_cons, List.sum_cons, ih fun y hy => h y (List.mem_cons_of_mem _ hy), h x List.mem_cons_self, List.length_cons]; omega
                rw [key _ h1]; omega
              rw [o_joinl push_same sl]
              refine a_bin (a_slot ⟨_, rfl, a_c (g_at1 (g_nstr ⟨_, rfl, ?_⟩))⟩)
              have g2 : Gr 0 S (S1.push (.lst ((sortS (dstG (sgs zz))).map Vl.str))) := g1.trans Gr.push
              generalize hE : S1.push (.lst ((sortS (dstG (sgs zz))).map Vl.str)) = E at g2 ⊢
              have ej : decide (Txt.join "" (sortS (dstG (sgs zz))) = zz) = ascZ zz := by
                rw [Bool.eq_iff_iff, decide_eq_true_iff, join_sorted, ascZ_iff]
              rw [ej]
              rw [decide_eq_true l1, decide_eq_true l2, Bool.and_self, Bool.true_and] at eL
              cases hA : ascZ zz with
              | false => exact ifp rfl (a_rets (a_c ⟨noL (by rw [eL, hA]), g2⟩))
              | true =>
                rw [hA] at eL
                refine ifn rfl ?_
                obtain ⟨tb, htb⟩ := (gb.gr (g2.up (Nat.zero_le _))).ty
                with_reducible refine a_ifs ?_
                refine a_or (a_not (a_tst (a_bi (a_cons (a_bin (a_slot ⟨_, rfl, a_c (g_at2 (a_cons (a_c (a_nil ?_))))⟩))))))
                rw [o_isTup htb]
                refine ⟨_, rfl, ?_⟩
                cases hB : isTup b with
                | false => exact ifp rfl (ifp rfl (a_rets (a_c ⟨by rw [eH]; unfold headOk; rw [hB]; simp, g2⟩)))
                | true =>
                  obtain ⟨bs, rfl⟩ := tup_of hB
                  refine ifn rfl (a_tst ?_)
                  refine w_any1 ?_
                  rw [w_it]
                  refine a_bin (a_slot ⟨_, rfl, a_c (g_at2 (.inl ⟨bs, rfl, bs, fun x => !isTx x, fun _ => .int 1, by have := gb.mem.1; omega, fun j S2 _ _ => rfl, fun x _ => ⟨_, fun _ => .int 1⟩, fun x hx S3 g3 => ?_, fun S3 g3 => ?_⟩))⟩)
                  · have gx := (gb.mem.2 x hx).gr ((g2.trans g3).up (Nat.zero_le _))
                    show wpe (mNot (mTst (mCall (C 31) [] (mCons (mSlot 1) mNil))) [some (.tup [.str z, .str zz, .tup bs, r]), some x] S3) noE _
                    refine a_not (a_tst (a_call (a_cons (a_slot ⟨_, rfl, a_nil ?_⟩))))
                    have qb : wpe (C 31 [x] S3) noE fun r S' => r = .bl (isTx x) ∧ Gr 0 S3 S' := by
                      rw [hC]; exact oh_word_w gx.ty fun z e => by rw [e] at gx; exact ⟨gx.len, gx.okz⟩
                    refine wpe_mono qb ?_ (fun _ _ _ _ z => z.elim)
                    rintro _ S4 ⟨rfl, g4⟩
                    exact ⟨_, rfl, rfl, g4, fun _ => a_c ⟨rfl, Gr.refl⟩⟩
                  have e : (bs.any fun x => !isTx x) = !bs.all isTx := by rw [List.not_all_eq_any_not]
                  rw [e]
                  have g23 := g2.trans g3
                  refine ⟨_, rfl, ?_⟩
                  cases hBs : bs.all isTx with
                  | false => exact ifp rfl (a_rets (a_c ⟨by rw [eH]; unfold headOk; show _ = Vl.bl (_ && (_ && (_ && bs.all isTx)) && _); rw [hBs]; simp, g23⟩))
                  | true =>
                    refine ifn rfl ?_
                    obtain ⟨tr, htr⟩ := (gr.gr (g23.up (Nat.zero_le _))).ty
                    refine a_ret (a_andV (a_bi (a_cons (a_bin (a_slot ⟨_, rfl, a_c (g_at3 (a_cons (a_c (a_nil ?_))))⟩)))))
                    rw [o_isTup htr]
                    refine ⟨_, rfl, ?_⟩
                    have eH2 : headV (.tup [.str z, .str zz, .tup bs, r]) = (isTup r && (decide (1 ≤ (itT r).length) && decide ((itT r).length ≤ 400))) := by
                      rw [eH]; unfold headOk
                      show (_ && (_ && (true && bs.all isTx)) && _) = _
                      rw [ha, eL, hBs]; rfl
                    rw [eH2]
                    cases hR : isTup r with
                    | false => exact ifn rfl ⟨rfl, g23⟩
                    | true =>
                      obtain ⟨rs, rfl⟩ := tup_of hR
                      refine ifp rfl (a_chain (a_c (a_bi (a_cons (a_bin (a_slot ⟨_, rfl, a_c (g_at3 (a_nil (g_lent ?_)))⟩))))))
                      refine g_le ⟨_, rfl, ?_⟩
                      by_cases h1 : 1 ≤ rs.length
                      · refine ifp (decide_eq_true (by omega)) (a_c ?_)
                        refine g_le ⟨?_, g23⟩
                        show _ = Vl.bl (true && (decide (1 ≤ rs.length) && decide (rs.length ≤ 400)))
                        rw [decide_eq_true h1, Bool.true_and, Bool.true_and]
                        congr 1
                        rw [Bool.eq_iff_iff, decide_eq_true_iff, decide_eq_true_iff]
                        omega
                      · refine ifn (decide_eq_false (by omega)) ⟨?_, g23⟩
                        show _ = Vl.bl (true && (decide (1 ≤ rs.length) && _))
                        rw [decide_eq_false h1]; rfl
            · exact ifp (by rw [Bool.not_eq_true', decide_eq_false_iff_not]; omega) (ifp rfl (a_rets (a_c ⟨noL (by rw [eL, decide_eq_false l2]; simp), g1⟩)))
          · exact ifn (decide_eq_false (by omega)) ⟨_, rfl, ifp rfl (ifp rfl (a_rets (a_c ⟨noL (by rw [eL, decide_eq_false l1]; simp), g1⟩)))⟩
    · refine ifp (by simp; omega) (ifp rfl (a_rets (a_c ⟨?_, Gr.refl⟩)))
      rw [headV_4 h4]
  | _ => exact ⟨_, rfl, ifp rfl (ifp rfl (a_rets (a_c ⟨rfl, Gr.refl⟩)))⟩
end G

set_option linter.all false
set_option maxRecDepth 100000
set_option maxHeartbeats 4000000
namespace G
open PySem PySem.Spec PyProof.Rows L2 Q

/-! ### the law's judgement of box machines -/
section
variable {m lo : Nat} {S0 : Sto}
noncomputable abbrev mvB (C : Nat → List Vl → Q.M Vl) : MS := (sSeq (sIf (mOr (mNot (mTst (mBi bIsi (mCons (mSlot 6) (mCons (mC (.ty "tuple")) mNil))))) (mOr (mTst (mBin bNe (mBi bLen (mCons (mSlot 6) mNil)) (mC (.int 2)))) (mNot (mTst (mCall (C 30) [] (mCons (mBin bSub' (mSlot 6) (mC (.int 0))) mNil))))))
    (sRet (mC (.bl false)))
    sSkip)
    (sIf (mOr (mNot (mTst (mChain bLe bLt (mC (.int 0)) (mBin bSub' (mSlot 6) (mC (.int 0))) (mBi bLen (mCons (mSlot 1) mNil))))) (mNot (mTst (mCall (C 38) [] (mCons (mBin bSub' (mSlot 6) (mC (.int 1))) (mCons (mSlot 3) (mCons (mBin bSub' (mSlot 1) (mBin bSub' (mSlot 6) (mC (.int 0)))) mNil)))))))
    (sRet (mC (.bl false)))
    sSkip))
theorem mvs_w {C : Nat → List Vl → Q.M Vl} (hC : C = (lev (m + 2)).1) {S : Sto} {ys : List Vl} {u : Nat} {ss : List Int} {k : Int} {v0 : Vl} {b2 b5 b6 : Option Vl} {D : End_} (hy : ∀ y ∈ ys, Good lo S0 y) (hl : ys.length ≤ 61) (hss : ss.length ≤ 1000) (hu : u < S.n) (ha : S.at_ u = .lst (ss.map Vl.int)) (g0 : Gr 0 S0 S)
    (hbad : ys.all (isMv k ss) = false → ∀ S', Gr 0 S S' → D.rt (.bl false) S')
    (hok : ys.all (isMv k ss) = true → ∀ b6 S', Gr 0 S S' → D.nx [some v0, some (.ref u), b2, some (.int k), some (.tup ys), b5, b6] S') :
    wps (sFor (mIt (mSlot 4)) (gNm 6) (mvB C) [some v0, some (.ref u), b2, some (.int k), some (.tup ys), b5, b6] S) D := by
  refine s_for ?_
  rw [w_it]
  refine a_slot ⟨_, rfl, .inl ⟨ys, rfl, ys, fun i ρ S1 => ∃ b6, ρ = [some v0, some (.ref u), b2, some (.int k), some (.tup ys), b5, b6] ∧ (ys.take i).all (isMv k ss) = true ∧ Gr 0 S S1, ⟨b6, rfl, rfl, Gr.refl⟩, fun i ρ S3 _ _ => rfl, ?_, ?_⟩⟩
  · rintro i y ρ S1 hyi ⟨b6, rfl, q1, q5⟩
    have hym := List.mem_of_getElem? hyi
    have gy := (hy y hym).gr ((g0.trans q5).up (Nat.zero_le _))
    have q4 := (q5.at_ _ (Nat.zero_le _) hu).trans ha
    have bad : isMv k ss y = false → ∀ S', Gr 0 S S' → D.rt (.bl false) S' := fun h => hbad (by
      rw [← Bool.not_eq_true]; intro z
      rw [List.all_eq_true.mp z y hym] at h; cases h)
    have sn : isMv k ss y = true → (ys.take (i + 1)).all (isMv k ss) = true := fun h => by rw [take_snoc hyi, List.all_append, q1]; simp [h]
    obtain ⟨t, ht⟩ := gy.ty
    refine a_gnm ?_
    show wps (mvB C [some v0, some (.ref u), b2, some (.int k), some (.tup ys), b5, some y] S1) _
    with_reducible refine a_ifs ?_
    refine a_or (a_not (a_tst (a_bi (a_cons (a_slot ⟨_, rfl, a_cons (a_c (a_nil ?_))⟩)))))
    rw [o_isTup ht]
    refine ⟨_, rfl, ?_⟩
    cases hT : isTup y with
    | false =>
      refine ifp rfl (ifp rfl (a_rets (a_c (bad ?_ _ q5))))
      cases y with
      | tup _ => cases hT
      | _ => rfl
    | true =>
      obtain ⟨xs, rfl⟩ := tup_of hT
      obtain ⟨_, hm⟩ := gy.mem
      refine ifn rfl ?_
      refine a_or (a_tst (a_bin (a_bi (a_cons (a_slot ⟨_, rfl, a_nil (g_lent (a_c (g_nei ⟨_, rfl, ?_⟩)))⟩)))))
      by_cases hx : xs.length = 2
      · obtain ⟨g, f, rfl⟩ := two_of hx
        refine ifn rfl ?_
        refine a_not (a_tst (a_call (a_cons (a_bin (a_slot ⟨_, rfl, a_c (g_at0 (a_nil ?_))⟩)))))
        have qa : wpe (C 30 [g] S1) noE fun r S' => r = .bl (isWh g) ∧ S' = S1 := by rw [hC]; exact oh_whole_w (hm g (by simp)).ty
        refine wpe_mono qa ?_ (fun _ _ _ _ z => z.elim)
        rintro _ S2 ⟨rfl, rfl⟩
        refine ⟨_, rfl, ?_⟩
        have eM : isMv k ss (.tup [g, f]) = (isNum g ss.length && isFl k (ss.getD (toI g).toNat 0) f) := rfl
        cases hw : isWh g with
        | false =>
          refine ifp rfl (a_rets (a_c (bad ?_ _ q5)))
          rw [eM]
          cases g with
          | int _ => cases hw
          | _ => rfl
        | true =>
          obtain ⟨j, rfl⟩ : ∃ j, g = .int j := by
            cases g with
            | int j => exact ⟨j, rfl⟩
            | _ => cases hw
          have eN : isNum (.int j) ss.length = (decide (0 ≤ j) && decide (j < (ss.length : Int))) := rfl
          refine ifn rfl ?_
          refine a_if ?_
          refine a_or (a_not (a_tst (a_chain (a_c (a_bin (a_slot ⟨_, rfl, a_c (g_at0 ?_)⟩))))))
          refine g_le ⟨_, rfl, ?_⟩
          by_cases h1 : 0 ≤ j
          · refine ifp (decide_eq_true h1) (a_bi (a_cons (a_slot ⟨_, rfl, a_nil ?_⟩)))
            rw [o_lenl q4, List.length_map]
            refine g_lt ⟨_, rfl, ?_⟩
            by_cases h2 : j < (ss.length : Int)
            · refine ifn (by rw [decide_eq_true h2]; rfl) ?_
              obtain ⟨jn, rfl⟩ : ∃ jn : Nat, j = (jn : Int) := ⟨j.toNat, by omega⟩
              have h3 : jn < ss.length := by omega
              refine a_not (a_tst (a_call (a_cons (a_bin (a_slot ⟨_, rfl, a_c (g_at1 (a_cons (a_slot ⟨_, rfl, a_cons (a_bin (a_slot ⟨_, rfl, a_bin (a_slot ⟨_, rfl, a_c (g_at0 ?_)⟩)⟩))⟩)))⟩)))))
              rw [o_atl (v := .int ss[jn]) (getR_l q4) (by rw [List.getElem?_map, List.getElem?_eq_getElem h3]; rfl) (by omega) (by unfold getD; rw [q4])]
              refine a_nil ?_
              have qf : wpe (C 38 [f, .int k, .int ss[jn]] S2) noE fun r S' => r = .bl (isFl k ss[jn] f) ∧ Gr 0 S2 S' := by rw [hC]; exact law_fills_w (hm f (by simp))
              refine wpe_mono qf ?_ (fun _ _ _ _ z => z.elim)
              rintro _ S3 ⟨rfl, g3⟩
              refine ⟨_, rfl, ?_⟩
              have eF : isMv k ss (.tup [.int (jn : Int), f]) = isFl k ss[jn] f := by
                rw [eM, eN, decide_eq_true h1, decide_eq_true h2]
                show (true && isFl k (ss.getD ((jn : Int)).toNat 0) f) = _
                rw [Int.toNat_natCast, List.getD_eq_getElem?_getD, List.getElem?_eq_getElem h3]; rfl
              cases hF : isFl k ss[jn] f with
              | false => exact ifp rfl (a_ret (a_c (bad (by rw [eF, hF]) _ (q5.trans g3))))
              | true => exact ifn rfl (a_skip ⟨_, rfl, sn (by rw [eF, hF]), q5.trans g3⟩)
            · exact ifp (by rw [decide_eq_false h2]; rfl) (ifp rfl (a_ret (a_c (bad (by rw [eM, eN, decide_eq_false h2]; simp) _ q5))))
          · exact ifn (decide_eq_false h1) ⟨_, rfl, ifp rfl (ifp rfl (a_ret (a_c (bad (by rw [eM, eN, decide_eq_false h1]; simp) _ q5))))⟩
      · exact ifp (by simp; omega) (ifp rfl (a_rets (a_c (bad (isMv_2 hx) _ q5))))
  · rintro ρ S1 ⟨b6, rfl, q1, q5⟩
    rw [List.take_length] at q1
    exact hok q1 _ _ q5
noncomputable abbrev rwB (C : Nat → List Vl → Q.M Vl) : MS := (sSeq (sIf (mOr (mNot (mTst (mBi bIsi (mCons (mSlot 2) (mCons (mC (.ty "tuple")) mNil))))) (mOr (mTst (mBin bNe (mBi bLen (mCons (mSlot 2) mNil)) (mC (.int 3)))) (mOr (mNot (mTst (mCall (C 30) [] (mCons (mBin bSub' (mSlot 2) (mC (.int 0))) mNil)))) (mNot (mTst (mChain bLe bLe (mC (.int 0)) (mBin bSub' (mSlot 2) (mC (.int 0))) (mC (.int 60))))))))
    (sRet (mC (.bl false)))
    sSkip)
    (sSeq (sIf (mOr (mNot (mTst (mBi bIsi (mCons (mBin bSub' (mSlot 2) (mC (.int 1))) (mCons (mC (.ty "tuple")) mNil))))) (mTst (mBin bNe (mBi bLen (mCons (mBin bSub' (mSlot 2) (mC (.int 1))) mNil)) (mBi bLen (mCons (mBin bSub' (mSlot 0) (mC (.int 1))) mNil)))))
    (sRet (mC (.bl false)))
    sSkip)
    (sExp (mMet "list" mtAppend (mSlot 1) (mCons (mBin bSub' (mSlot 2) (mC (.int 0))) mNil)))))
theorem rws_w {C : Nat → List Vl → Q.M Vl} (hC : C = (lev (m + 2)).1) {S : Sto} {ys : List Vl} {u : Nat} {z1 zz : Str} {b : Vl} {D : End_} (hy : ∀ y ∈ ys, Good lo S0 y) (hl : ys.length ≤ 1000) (hz : zz.length ≤ 1000) (hu0 : S0.n ≤ u) (hu : u < S.n) (ha : S.at_ u = .lst []) (g0 : Gr 0 S0 S)
    (hbad : ys.all (isForm zz.length) = false → ∀ S', Gr 0 S0 S' → D.rt (.bl false) S')
    (hok : ys.all (isForm zz.length) = true → ∀ b2 S', u < S'.n → S'.at_ u = .lst ((szs ys).map Vl.int) → Gr 0 S0 S' → D.nx [some (.tup [.str z1, .str zz, b, .tup ys]), some (.ref u), b2, none, none, none, none] S') :
    wps (sFor (mIt (mBin bSub' (mSlot 0) (mC (.int 3)))) (gNm 2) (rwB C) [some (.tup [.str z1, .str zz, b, .tup ys]), some (.ref u), none, none, none, none, none] S) D := by
  refine s_for ?_
  rw [w_it]
  refine a_bin (a_slot ⟨_, rfl, a_c (g_at3 (.inl ⟨ys, rfl, ys, fun i ρ S1 => ∃ b2, ρ = [some (.tup [.str z1, .str zz, b, .tup ys]), some (.ref u), b2, none, none, none, none] ∧ (ys.take i).all (isForm zz.length) = true ∧ u < S1.n ∧ S1.at_ u = .lst ((szs (ys.take i)).map Vl.int) ∧ Gr 0 S0 S1, ⟨none, rfl, rfl, hu, ha, g0⟩, fun i ρ S3 _ _ => rfl, ?_, ?_⟩))⟩)
  · rintro i y ρ S1 hyi ⟨b2, rfl, q1, q3, q4, q5⟩
    have hym := List.mem_of_getElem? hyi
    have gy := (hy y hym).gr (q5.up (Nat.zero_le _))
    have bad : isForm zz.length y = false → ∀ S', Gr 0 S0 S' → D.rt (.bl false) S' := fun h => hbad (by
      rw [← Bool.not_eq_true]; intro z
      rw [List.all_eq_true.mp z y hym] at h; cases h)
    have sn : isForm zz.length y = true → (ys.take (i + 1)).all (isForm zz.length) = true := fun h => by rw [take_snoc hyi, List.all_append, q1]; simp [h]
    obtain ⟨t, ht⟩ := gy.ty
    refine a_gnm ?_
    show wps (rwB C [some (.tup [.str z1, .str zz, b, .tup ys]), some (.ref u), some y, none, none, none, none] S1) _
    with_reducible refine a_ifs ?_
    refine a_or (a_not (a_tst (a_bi (a_cons (a_slot ⟨_, rfl, a_cons (a_c (a_nil ?_))⟩)))))
    rw [o_isTup ht]
    refine ⟨_, rfl, ?_⟩
    cases hT : isTup y with
    | false =>
      refine ifp rfl (ifp rfl (a_rets (a_c (bad ?_ _ q5))))
      cases y with
      | tup _ => cases hT
      | _ => rfl
    | true =>
      obtain ⟨xs, rfl⟩ := tup_of hT
      obtain ⟨_, hm⟩ := gy.mem
      refine ifn rfl ?_
      refine a_or (a_tst (a_bin (a_bi (a_cons (a_slot ⟨_, rfl, a_nil (g_lent (a_c (g_nei ⟨_, rfl, ?_⟩)))⟩)))))
      by_cases hx : xs.length = 3
      · obtain ⟨g, mv, o, rfl⟩ := three_of hx
        refine ifn rfl ?_
        refine a_or (a_not (a_tst (a_call (a_cons (a_bin (a_slot ⟨_, rfl, a_c (g_at0 (a_nil ?_))⟩))))))
        have qa : wpe (C 30 [g] S1) noE fun r S' => r = .bl (isWh g) ∧ S' = S1 := by rw [hC]; exact oh_whole_w (hm g (by simp)).ty
        refine wpe_mono qa ?_ (fun _ _ _ _ z => z.elim)
        rintro _ S2 ⟨rfl, rfl⟩
        refine ⟨_, rfl, ?_⟩
        have eM : isForm zz.length (.tup [g, mv, o]) = (isNum g 61 && (isTup mv && decide ((itT mv).length = zz.length))) := rfl
        cases hw : isWh g with
        | false =>
          refine ifp rfl (ifp rfl (a_rets (a_c (bad ?_ _ q5))))
          rw [eM]
          cases g with
          | int _ => cases hw
          | _ => rfl
        | true =>
          obtain ⟨j, rfl⟩ : ∃ j, g = .int j := by
            cases g with
            | int j => exact ⟨j, rfl⟩
            | _ => cases hw
          have eN : isNum (.int j) 61 = (decide (0 ≤ j) && decide (j < 61)) := rfl
          refine ifn rfl ?_
          refine a_not (a_tst (a_chain (a_c (a_bin (a_slot ⟨_, rfl, a_c (g_at0 ?_)⟩)))))
          refine g_le ⟨_, rfl, ?_⟩
          by_cases h1 : 0 ≤ j
          · refine ifp (decide_eq_true h1) (a_c ?_)
            refine g_le ⟨_, rfl, ?_⟩
            by_cases h2 : j < 61
            · refine ifn (by rw [Bool.not_eq_false', decide_eq_true_iff]; omega) ?_
              obtain ⟨tm, htm⟩ := (hm mv (by simp)).ty
              with_reducible refine a_ifs ?_
              refine a_or (a_not (a_tst (a_bi (a_cons (a_bin (a_slot ⟨_, rfl, a_c (g_at1 (a_cons (a_c (a_nil ?_))))⟩))))))
              rw [o_isTup htm]
              refine ⟨_, rfl, ?_⟩
              cases hTm : isTup mv with
              | false => exact ifp rfl (ifp rfl (a_rets (a_c (bad (by rw [eM, hTm]; simp) _ q5))))
              | true =>
                obtain ⟨ms, rfl⟩ := tup_of hTm
                refine ifn rfl (a_tst (a_bin (a_bi (a_cons (a_bin (a_slot ⟨_, rfl, a_c (g_at1 (a_nil (g_lent (a_bi (a_cons (a_bin (a_slot ⟨_, rfl, a_c (g_at1 (a_nil ?_))⟩)))))))⟩))))))
                rw [o_lens hz]
                refine g_nei ⟨_, rfl, ?_⟩
                by_cases h3 : ms.length = zz.length
                · refine ifn (by rw [h3]; simp) ?_
                  refine a_exp (a_met (a_slot ⟨_, rfl, o_tyl q4, ?_⟩))
                  refine a_cons (a_bin (a_slot ⟨_, rfl, a_c (g_at0 (a_nil ?_))⟩))
                  rw [o_append q4 (by unfold szs; rw [List.length_map, List.length_map, List.length_take, show sizeLine = 16777216 from rfl]; omega)]
                  refine ⟨_, rfl, sn (by rw [eM, eN, decide_eq_true h1, decide_eq_true h2]; show (true && true && (true && decide (ms.length = zz.length))) = true; rw [decide_eq_true h3]; rfl), q3, ?_, q5.set_new hu0⟩
                  unfold szs
                  rw [set_same, take_snoc hyi, List.map_append (l₁ := ys.take i), List.map_append]
                  rfl
                · exact ifp (by rw [Bool.not_eq_true', beq_eq_false_iff_ne]; omega) (a_rets (a_c (bad (by rw [eM]; show (_ && (_ && decide (ms.length = zz.length))) = _; rw [decide_eq_false h3]; simp) _ q5)))
            · exact ifp (by rw [Bool.not_eq_true', decide_eq_false_iff_not]; omega) (a_rets (a_c (bad (by rw [eM, eN, decide_eq_false h2]; simp) _ q5)))
          · exact ifn (decide_eq_false h1) ⟨_, rfl, ifp rfl (a_rets (a_c (bad (by rw [eM, eN, decide_eq_false h1]; simp) _ q5)))⟩
      · exact ifp (by simp; omega) (ifp rfl (a_rets (a_c (bad (isForm_3 hx) _ q5))))
  · rintro ρ S1 ⟨b2, rfl, q1, q3, q4, q5⟩
    rw [List.take_length] at q1 q4
    exact hok q1 _ _ q3 q4 q5
end
end G

set_option linter.all false
set_option maxRecDepth 100000
set_option maxHeartbeats 4000000
namespace G
open PySem PySem.Spec PyProof.Rows L2 Q

theorem judged_w {m lo : Nat} {S : Sto} {v : Vl} (hv : GoodH lo S v) : wpe ((lev (m + 3)).1 40 [v] S) noE fun r S' => r = .bl (isBx v) ∧ Gr 0 S S' := by
  rw [lv__law_judged]
  refine w_run rfl ?_
  unfold b__law_judged
  obtain ⟨C, hC⟩ : ∃ C, C = (lev (m + 2)).1 := ⟨_, rfl⟩
  rw [← hC]
  with_reducible refine a_ifs ?_
  refine a_not (a_tst (a_call (a_cons (a_slot ⟨_, rfl, a_nil ?_⟩))))
  have q0 : wpe (C 39 [v] S) noE fun r S' => r = .bl (headV v) ∧ Gr 0 S S' := by rw [hC]; exact law_head_w hv
  refine wpe_mono q0 ?_ (fun _ _ _ _ z => z.elim)
  rintro _ S1 ⟨rfl, g1⟩
  refine ⟨_, rfl, ?_⟩
  cases hh : headV v with
  | false =>
    refine ifp rfl (a_rets (a_c ⟨?_, g1⟩))
    cases v with
    | tup xs =>
      by_cases h4 : xs.length = 4
      · obtain ⟨a, l, b, r, rfl⟩ := four_of h4
        rw [isBx_eq, show headOk a l b r = false from hh]; rfl
      · rw [isBx_4 h4]
    | _ => rfl
  | true =>
    refine ifn rfl ?_
    obtain ⟨xs, rfl⟩ : ∃ xs, v = .tup xs := by
      cases v with
      | tup xs => exact ⟨xs, rfl⟩
      | _ => cases hh
    have h4 : xs.length = 4 := by
      refine Classical.byContradiction fun h => ?_
      rw [headV_4 h] at hh; cases hh
    obtain ⟨a, l, b, r, rfl⟩ := four_of h4
    have hh : headOk a l b r = true := hh
    have hh0 := hh
    unfold headOk at hh
    simp only [Bool.and_eq_true, decide_eq_true_eq] at hh
    obtain ⟨⟨h1, h2, h3, h5⟩, h6, h7, h8⟩ := hh
    obtain ⟨z1, rfl⟩ : ∃ z, a = .str z := by
      cases a with
      | str z => exact ⟨z, rfl⟩
      | _ => cases h1
    obtain ⟨zz, rfl⟩ : ∃ z, l = .str z := by
      cases l with
      | str z => exact ⟨z, rfl⟩
      | _ => cases h2
    obtain ⟨bs, rfl⟩ := tup_of h3
    obtain ⟨rs, rfl⟩ := tup_of h6
    obtain ⟨_, hm⟩ := hv.mem
    have gl := hm (.str zz) (by simp)
    have gb := hm (.tup bs) (by simp)
    have gr := hm (.tup rs) (by simp)
    have lz := gl.len
    have lr := gr.mem.1
    have eB : isBx (.tup [.str z1, .str zz, .tup bs, .tup rs]) = (formsOk (.str zz) (.tup bs) (.tup rs) && rs.all (isRw (szs rs))) := by rw [isBx_eq, hh0]; rfl
    have eF : formsOk (.str zz) (.tup bs) (.tup rs) = (rs.all (isForm zz.length) && decide ((szs rs).headD 0 = (bs.length : Int))) := rfl
    generalize hV : isBx (.tup [.str z1, .str zz, .tup bs, .tup rs]) = V at eB
    with_reducible refine a_let ?_
    refine a_lst (a_nil ⟨by decide, ?_⟩)
    show wps (sSeq _ _ [some (.tup [.str z1, .str zz, .tup bs, .tup rs]), some (.ref S1.n), none, none, none, none, none] (S1.push (.lst []))) _
    refine s_cut (fun ρ S2 => ∃ b2, ρ = [some (.tup [.str z1, .str zz, .tup bs, .tup rs]), some (.ref S1.n), b2, none, none, none, none] ∧ rs.all (isForm zz.length) = true ∧ S1.n < S2.n ∧ S2.at_ S1.n = .lst ((szs rs).map Vl.int) ∧ Gr 0 S S2) ?_ ?_
    · have k1 : rs.all (isForm zz.length) = false → ∀ S', Gr 0 S S' → Vl.bl false = Vl.bl V ∧ Gr 0 S S' := fun h S' g => ⟨by rw [eB, eF, h]; rfl, g⟩
      have k2 : rs.all (isForm zz.length) = true → ∀ b2 S', S1.n < S'.n → S'.at_ S1.n = .lst ((szs rs).map Vl.int) → Gr 0 S S' → ∃ b2', ([some (Vl.tup [.str z1, .str zz, .tup bs, .tup rs]), some (.ref S1.n), b2, none, none, none, none] : En) = [some (Vl.tup [.str z1, .str zz, .tup bs, .tup rs]), some (.ref S1.n), b2', none, none, none, none] ∧ rs.all (isForm zz.length) = true ∧ S1.n < S'.n ∧ S'.at_ S1.n = .lst ((szs rs).map Vl.int) ∧ Gr 0 S S' := fun h b2 S' l a g => ⟨_, rfl, h, l, a, g⟩
      exact rws_w hC (fun y hy => gr.mem.2 y hy) lr lz g1.n (Nat.lt_succ_self _) push_same (g1.trans Gr.push) k1 k2
    rintro _ S2 ⟨b2, rfl, hF, n2, a2, g2⟩
    obtain ⟨r0, rt, hrs⟩ : ∃ r0 rt, rs = r0 :: rt := by
      cases rs with
      | nil => cases h7
      | cons r0 rt => exact ⟨r0, rt, rfl⟩
    have hszl : (szs rs).length = rs.length := by unfold szs; rw [List.length_map]
    have h0 : (szs rs)[0]? = some ((szs rs).headD 0) := by rw [hrs]; rfl
    with_reducible refine a_ifs ?_
    refine a_tst (a_bin (a_bin (a_slot ⟨_, rfl, a_c ?_⟩)))
    rw [show (Vl.int 0) = .int ((0 : Nat) : Int) from rfl, o_atl (v := .int ((szs rs).headD 0)) (getR_l a2) (by rw [List.getElem?_map, h0]; rfl) (by decide) (by unfold getD; rw [a2])]
    refine a_bi (a_cons (a_bin (a_slot ⟨_, rfl, a_c (g_at2 (a_nil (g_lent ?_)))⟩)))
    refine g_nei ⟨_, rfl, ?_⟩
    by_cases hz : (szs rs).headD 0 = (bs.length : Int)
    · refine ifn (by rw [hz]; simp) ?_
      have fin : V = rs.all (isRw (szs rs)) := by rw [eB, eF, hF, decide_eq_true hz]; rfl
      refine s_cut (fun ρ S3 => rs.all (isRw (szs rs)) = true ∧ Gr 0 S S3) ?_ ?_
      · refine s_for ?_
        rw [w_it]
        refine a_bin (a_slot ⟨_, rfl, a_c (g_at3 (.inl ⟨rs, rfl, rs, fun i ρ S3 => (∃ b2 b3 b4 b5 b6, ρ = [some (.tup [.str z1, .str zz, .tup bs, .tup rs]), some (.ref S1.n), b2, b3, b4, b5, b6]) ∧ (rs.take i).all (isRw (szs rs)) = true ∧ Gr 0 S2 S3, ⟨⟨_, _, _, _, _, rfl⟩, rfl, Gr.refl⟩, fun i ρ S3 _ _ => rfl, ?_, ?_⟩))⟩)
        · rintro i x ρ S3 hx ⟨⟨c2, c3, c4, c5, c6, rfl⟩, hi, g3⟩
          have hxm := List.mem_of_getElem? hx
          have g03 := g2.trans g3
          have a3 := (g3.at_ _ (Nat.zero_le _) n2).trans a2
          have gx := (gr.mem.2 x hxm).gr (g03.up (Nat.zero_le _))
          obtain ⟨k, mv, o, rfl, hk, hmv⟩ := form_of (List.all_eq_true.mp hF x hxm)
          obtain ⟨_, hmm⟩ := gx.mem
          have go := hmm o (by simp)
          obtain ⟨kv, hkv⟩ : ∃ kv : Int, kv = (k : Int) := ⟨_, rfl⟩
          rw [← hkv] at hx hxm
          rw [← hkv]
          have gmv := (gr.mem.2 _ hxm).mem.2 (.tup mv) (by simp)
          have isr : isRw (szs rs) (.tup [.int kv, .tup mv, o]) = (isFl kv 1 (.tup [o]) && mv.all (isMv kv (szs rs))) := rfl
          have bad : isRw (szs rs) (.tup [.int kv, .tup mv, o]) = false → Vl.bl false = .bl V := fun h => by
            rw [fin]
            congr 1
            symm
            rw [← Bool.not_eq_true]
            intro z
            rw [List.all_eq_true.mp z _ hxm] at h; cases h
          have good : isRw (szs rs) (.tup [.int kv, .tup mv, o]) = true → (rs.take (i + 1)).all (isRw (szs rs)) = true := fun h => by
            rw [take_snoc hx, List.all_append, hi]
            simp [h]
          show wps (sSeq _ _ [some (.tup [.str z1, .str zz, .tup bs, .tup rs]), some (.ref S1.n), c2, some (.int kv), some (.tup mv), some o, c6] S3) _
          with_reducible refine a_ifs ?_
          refine a_not (a_tst (a_call (a_cons (a_tup (a_cons (a_slot ⟨_, rfl, a_nil ⟨sz1, a_cons (a_slot ⟨_, rfl, a_cons (a_c (a_nil ?_))⟩)⟩⟩))))))
          have q1 : wpe (C 38 [.tup [o], .int kv, .int 1] S3) noE fun r S' => r = .bl (isFl kv 1 (.tup [o])) ∧ Gr 0 S3 S' := by
            rw [hC]
            exact law_fills_w (lo := lo) (good_tup (fun x hx => by rw [List.mem_singleton.mp hx]; exact go) (by show 1 ≤ 61; decide))
          refine wpe_mono q1 ?_ (fun _ _ _ _ z => z.elim)
          rintro _ S4 ⟨rfl, g4⟩
          refine ⟨_, rfl, ?_⟩
          cases hfl : isFl kv 1 (.tup [o]) with
          | false => exact ifp rfl (a_rets (a_c ⟨bad (by rw [isr, hfl]; rfl), g03.trans g4⟩))
          | true =>
            refine ifn rfl ?_
            have g24 := g3.trans g4
            have k1 : mv.all (isMv kv (szs rs)) = false → ∀ S', Gr 0 S4 S' → Vl.bl false = .bl V ∧ Gr 0 S S' := fun h S' g => ⟨bad (by rw [isr, h, Bool.and_false]), (g03.trans g4).trans g⟩
            have k2 : mv.all (isMv kv (szs rs)) = true → ∀ b6 S', Gr 0 S4 S' → (∃ b2 b3 b4 b5 b6', ([some (Vl.tup [.str z1, .str zz, .tup bs, .tup rs]), some (.ref S1.n), c2, some (.int kv), some (.tup mv), some o, b6] : En) = [some (Vl.tup [.str z1, .str zz, .tup bs, .tup rs]), some (.ref S1.n), b2, b3, b4, b5, b6']) ∧ (rs.take (i + 1)).all (isRw (szs rs)) = true ∧ Gr 0 S2 S' := fun h b6 S' g => ⟨⟨_, _, _, _, _, rfl⟩, good (by rw [isr, hfl, h]; rfl), g24.trans g⟩
            exact mvs_w hC (S0 := S) (lo := lo) (fun y hy => (gmv.mem.2 y hy)) gmv.mem.1 (by rw [hszl]; exact lr) (Nat.lt_of_lt_of_le n2 g24.n) ((g4.at_ _ (Nat.zero_le _) (Nat.lt_of_lt_of_le n2 g3.n)).trans a3) (g03.trans g4) k1 k2
        · rintro ρ S3 ⟨_, hi, g3⟩
          rw [List.take_length] at hi
          exact ⟨hi, g2.trans g3⟩
      · rintro ρ S3 ⟨hi, g3⟩
        exact a_ret (a_c ⟨by rw [fin, hi], g3⟩)
    · refine ifp (by rw [Bool.not_eq_true', beq_eq_false_iff_ne]; exact hz) (a_rets (a_c ⟨?_, g2⟩))
      rw [eB, eF, decide_eq_false hz]; simp
end G

set_option linter.all false
set_option maxRecDepth 100000
set_option maxHeartbeats 4000000
namespace G
open PySem PySem.Spec PyProof.Rows L2 Q

/-! ### drawn pieces -/
inductive Pc where
  | t (z : Str)
  | b (k : Nat)
def Pc.v : Pc → Vl
  | .t z => .str z
  | .b k => natV k
def pcsV (ps : List Pc) : Vl := .tup (ps.map Pc.v)
def Pc.bx : Pc → List Nat
  | .b k => [k]
  | _ => []
def bxN (ps : List Pc) : List Nat := ps.flatMap Pc.bx
def pls : List Str := ["a", "b", "c", "z"]
structure GrX (lo h : Nat) (S S' : Sto) : Prop where
  n : S.n ≤ S'.n
  at_ : ∀ i, lo ≤ i → i < S.n → i ≠ h → S'.at_ i = S.at_ i
section
variable {lo h : Nat} {S S' S2 : Sto}
theorem grX (g : Gr lo S S') : GrX lo h S S' := ⟨g.n, fun i a b _ => g.at_ i a b⟩
theorem grX0 (g : Gr 0 S S') : GrX lo h S S' := grX (g.up (Nat.zero_le lo))
theorem GrX.trans (a : GrX lo h S S') (b : GrX lo h S' S2) : GrX lo h S S2 := ⟨Nat.le_trans a.n b.n, fun i h1 h2 h3 => (b.at_ i h1 (Nat.lt_of_lt_of_le h2 a.n) h3).trans (a.at_ i h1 h2 h3)⟩
theorem GrX.refl : GrX lo h S S := grX Gr.refl
theorem GrX.set {o : Ob} : GrX lo h S (S.set h o) := ⟨Nat.le_refl _, fun i _ _ z => set_ne z⟩
theorem GrX.set_new {k : Nat} {o : Ob} (g : GrX lo h S S') (hk : S.n ≤ k) : GrX lo h S (S'.set k o) := ⟨g.n, fun i h1 h2 h3 => by rw [set_ne (by omega)]; exact g.at_ i h1 h2 h3⟩
theorem GrX.gr {S0 : Sto} (g : GrX lo h S S') (g0 : Gr lo S0 S) (hk : S0.n ≤ h) : Gr lo S0 S' := ⟨Nat.le_trans g0.n g.n, fun i h1 h2 => (g.at_ i h1 (Nat.lt_of_lt_of_le h2 g0.n) (by omega)).trans (g0.at_ i h1 h2)⟩
end
theorem perm_erase {α : Type} : ∀ {l : List α} {j : Nat} (h : j < l.length), (l[j] :: l.eraseIdx j).Perm l
  | x :: l, 0, _ => .refl _
  | x :: l, j + 1, h => by
    have ih := perm_erase (l := l) (j := j) (by simpa using h)
    show ((x :: l)[j + 1] :: x :: l.eraseIdx j).Perm (x :: l)
    rw [List.getElem_cons_succ]
    exact (List.Perm.swap x _ _).trans (ih.cons x)
theorem map_erase {α β : Type} {f : α → β} : ∀ {l : List α} {j : Nat}, (l.map f).eraseIdx j = (l.eraseIdx j).map f
  | [], _ => rfl
  | _ :: _, 0 => rfl
  | x :: l, j + 1 => by
    show f x :: (l.map f).eraseIdx j = f x :: (l.eraseIdx j).map f
    rw [map_erase]
theorem o_popAt {S : Sto} {n k : Nat} {xs : List Vl} {v : Vl} {Z : Vl → Sto → Prop} (h : S.at_ n = .lst xs) (hk : xs[k]? = some v) (hl : k < 1000) : wpo (mtPopAt (.ref n) [.int (k : Int)] S) Z = Z v (S.set n (.lst (xs.eraseIdx k))) := by
  show wpo (match S.at_ n with
    | .lst xs => if -(2 ^ 63) ≤ (k : Int) ∧ (k : Int) < 2 ^ 63 then (match seqIndex? (k : Int) xs.length with
      | some k => (match xs[k]? with | some v => some (v, S.set n (.lst (xs.eraseIdx k))) | none => none)
      | none => none) else none
    | _ => none) Z = _
  rw [h]
  have hlt := (List.getElem?_eq_some_iff.mp hk).1
  have e : seqIndex? (k : Int) xs.length = some k := by
    unfold seqIndex?
    have h0 : ¬ ((k : Int) < 0) := by omega
    simp [h0, hlt]
  simp only [e, hk]
  rw [if_pos (by omega)]
  rfl
theorem pieces_w {m lo d g c T f cN : Nat} {S : Sto} {fs : List Nat} {mo : Int} {C0 : Nat → List Vl → Q.M Vl} (hC0 : C0 = (lev (m + 4)).1) (hmo : mo = (cN : Int)) (hc : cN ≤ 4) (s : St lo d g c T S) (hT : T + 30 < bigT) (hf : lo ≤ f) (hf2 : f < S.n) (ha : S.at_ f = .lst (fs.map natV)) (hl : fs.length ≤ 4) :
    wpe (C0 36 [.ref d, .ref f, .int mo] S) noE fun r S' => ∃ (ps : List Pc) (fs' : List Nat), r = pcsV ps ∧ ps.length = cN ∧ (∀ z, Pc.t z ∈ ps → z ∈ pls) ∧ (bxN ps ++ fs').Perm fs ∧ S'.at_ f = .lst (fs'.map natV) ∧ St lo d g c (T + cN * 2) S' ∧ GrX lo f S S' := by
  rw [hC0, lv__law_pieces]
  with_reducible refine w_run rfl ?_
  unfold b__law_pieces
  obtain ⟨C, hC⟩ : ∃ C, C = (lev (m + 3)).1 := ⟨_, rfl⟩
  rw [← hC]
  with_reducible refine a_let ?_
  refine a_lst (a_nil ⟨by decide, ?_⟩)
  show wps (sSeq _ _ [some (.ref d), some (.ref f), some (.int mo), some (.ref S.n), none] (S.push (.lst []))) _
  have lS := s.ln
  refine s_cut (fun ρ S1 => ∃ (ps : List Pc) (fs' : List Nat) (b4 : Option Vl), ρ = [some (.ref d), some (.ref f), some (.int mo), some (.ref S.n), b4] ∧ ps.length = cN ∧ (∀ z, Pc.t z ∈ ps → z ∈ pls) ∧ (bxN ps ++ fs').Perm fs ∧ S1.at_ f = .lst (fs'.map natV) ∧ S.n < S1.n ∧ S1.at_ S.n = .lst (ps.map Pc.v) ∧ St lo d g c (T + cN * 2) S1 ∧ GrX lo f S S1) ?_ ?_
  · refine s_for ?_
    rw [w_itR1]
    refine a_cons (a_slot ⟨_, rfl, a_nil ⟨_, rfl, by omega, by omega, rng cN, fun i ρ S1 => ∃ (ps : List Pc) (fs' : List Nat) (b4 : Option Vl), ρ = [some (.ref d), some (.ref f), some (.int mo), some (.ref S.n), b4] ∧ ps.length = i ∧ (∀ z, Pc.t z ∈ ps → z ∈ pls) ∧ (bxN ps ++ fs').Perm fs ∧ S1.at_ f = .lst (fs'.map natV) ∧ S.n < S1.n ∧ S1.at_ S.n = .lst (ps.map Pc.v) ∧ St lo d g c (T + i * 2) S1 ∧ GrX lo f S S1, ⟨[], fs, none, rfl, rfl, by simp, .refl _, (push_lt hf2).trans ha, Nat.lt_succ_self _, push_same, by rw [Nat.zero_mul]; exact s.gr Gr.push, grX0 Gr.push⟩, fun i ρ S3 _ _ => by rw [hmo, Int.toNat_natCast]; exact rng_at, ?_, ?_⟩⟩)
    · rintro i x ρ S1 hx ⟨ps, fs', b4, rfl, p1, p2, p3, p4, p5, p6, s1, g1⟩
      obtain ⟨rfl, hi⟩ := rng_get hx
      have hfl : fs'.length ≤ 4 := by
        have := p3.length_eq
        rw [List.length_append] at this
        omega
      refine a_gnm ?_
      show wps (sIf _ _ _ [some (.ref d), some (.ref f), some (.int mo), some (.ref S.n), some (.int (i : Int))] S1) _
      obtain ⟨xv, hxv⟩ : ∃ xv, xv = Vl.int (i : Int) := ⟨_, rfl⟩
      rw [← hxv]
      have f1 : f < S1.n := Nat.lt_of_lt_of_le hf2 g1.n
      have hnew : S1.at_ f = .lst (fs'.map natV) := p4
      -- a text is picked
      have pk : ∀ S2 T2, St lo d g c T2 S2 → T2 + 1 ≤ T + (i + 1) * 2 → S2.at_ f = .lst (fs'.map natV) → S2.at_ S.n = .lst (ps.map Pc.v) → S.n < S2.n → GrX lo f S S2 →
          wps (sExp (mMet "list" mtAppend (mSlot 3) (mCons (mCall (C 22) [] (mCons (mSlot 0) (mCons (mLst (mCons (mC (.str "a")) (mCons (mC (.str "b")) (mCons (mC (.str "c")) (mCons (mC (.str "z")) mNil))))) mNil))) mNil)) [some (.ref d), some (.ref f), some (.int mo), some (.ref S.n), some xv] S2)
            ⟨fun ρ S1 => ∃ (ps : List Pc) (fs' : List Nat) (b4 : Option Vl), ρ = [some (.ref d), some (.ref f), some (.int mo), some (.ref S.n), b4] ∧ ps.length = i + 1 ∧ (∀ z, Pc.t z ∈ ps → z ∈ pls) ∧ (bxN ps ++ fs').Perm fs ∧ S1.at_ f = .lst (fs'.map natV) ∧ S.n < S1.n ∧ S1.at_ S.n = .lst (ps.map Pc.v) ∧ St lo d g c (T + (i + 1) * 2) S1 ∧ GrX lo f S S1, fun _ _ => False, fun _ _ => False, fun _ _ => False, noE⟩ := by
        intro S2 T2 s2 hT2 h4 h6 h5 g2
        refine a_exp (a_met (a_slot ⟨_, rfl, o_tyl h6, ?_⟩))
        refine a_cons (a_call (a_cons (a_slot ⟨_, rfl, a_cons (a_lst (a_cons (a_c (a_cons (a_c (a_cons (a_c (a_cons (a_c (a_nil ⟨by decide, a_nil ?_⟩))))))))))⟩)))
        have gp : Gr 0 S2 (S2.push (.lst [.str "a", .str "b", .str "c", .str "z"])) := Gr.push
        have q : wpe (C 22 [.ref d, .ref S2.n] (S2.push (.lst [.str "a", .str "b", .str "c", .str "z"]))) noE fun v S' => v ∈ [Vl.str "a", .str "b", .str "c", .str "z"] ∧ St lo d g c (T2 + 1) S' ∧ Gr lo (S2.push (.lst [.str "a", .str "b", .str "c", .str "z"])) S' := by
          rw [hC]
          exact pick_w (n := m) (s2.gr gp) (by show T2 < 2 ^ 40; have : bigT = 2 ^ 40 := rfl; omega) push_same s2.ln (Nat.lt_succ_self _) (by simp) (by show 4 < _; decide)
        refine wpe_mono q ?_ (fun _ _ _ _ z => z.elim)
        rintro v S3 ⟨hv, s3, g3⟩
        obtain ⟨z, hz, rfl⟩ : ∃ z, z ∈ pls ∧ v = .str z := by
          simp only [List.mem_cons, List.not_mem_nil, or_false] at hv
          unfold pls
          rcases hv with rfl | rfl | rfl | rfl <;> exact ⟨_, by simp, rfl⟩
        have g23 : Gr lo S2 S3 := (gp.up (Nat.zero_le _)).trans g3
        have h63 := (g23.at_ _ lS h5).trans h6
        have f2 : f < S2.n := Nat.lt_of_lt_of_le hf2 g2.n
        refine a_nil ?_
        rw [o_append h63 (by rw [List.length_map, p1, show sizeLine = 16777216 from rfl]; omega)]
        refine ⟨ps ++ [.t z], fs', _, rfl, by rw [List.length_append, p1]; rfl, ?_, ?_, ?_, Nat.lt_of_lt_of_le h5 g23.n, ?_, (s3.mono hT2).setNew lS, (g2.trans (grX g23)).set_new (Nat.le_refl _)⟩
        · intro w hw
          rcases List.mem_append.mp hw with hw | hw
          · exact p2 w hw
          · rw [List.mem_singleton] at hw; cases hw; exact hz
        · show ((ps ++ [Pc.t z]).flatMap Pc.bx ++ fs').Perm fs
          rw [List.flatMap_append]
          show ((bxN ps ++ []) ++ fs').Perm fs
          rw [List.append_nil]; exact p3
        · rw [set_ne (by omega)]; exact (g23.at_ _ hf f2).trans h4
        · rw [set_same, List.map_append]; rfl
      refine a_if (a_and (a_tst (a_bin (a_slot ⟨_, rfl, a_lst (a_nil ⟨by decide, ?_⟩)⟩))))
      rw [o_neNil (lo := lo) ((push_lt f1).trans p4) (fun x hx => by obtain ⟨k, _, rfl⟩ := List.mem_map.mp hx; exact ⟨_, .int _⟩) push_same, List.isEmpty_map]
      refine ⟨_, rfl, ?_⟩
      have gp1 : Gr 0 S1 (S1.push (.lst [])) := Gr.push
      have s2 := s1.gr gp1
      have a2 := (push_lt (ob := .lst []) f1).trans p4
      have a2' := (push_lt (ob := .lst []) p5).trans p6
      have n2 : S.n < (S1.push (.lst [])).n := Nat.lt_succ_of_lt p5
      have gg2 : GrX lo f S (S1.push (.lst [])) := g1.trans (grX0 gp1)
      generalize S1.push (.lst []) = S2 at s2 a2 a2' n2 gg2 ⊢
      clear gp1 hx
      have st1 : St lo d g c (T + i * 2) S2 := s2
      cases he : fs'.isEmpty with
      | true => 
        refine ifn rfl (ifn rfl ?_)
        exact wps_mono (pk S2 _ st1 (by omega) a2 a2' n2 gg2) (fun _ _ z => z) (fun _ _ z => z.elim) (fun _ _ z => z.elim) (fun _ _ z => z.elim) (fun _ _ _ _ z => z.elim)
      | false =>
        refine ifp rfl ?_
        have hd : ∀ S2 T2 (room : Int), St lo d g c T2 S2 → T2 ≤ T + 9 → 0 < room → room < 100 → wpe (C 21 [.ref d, .int room] S2) noE fun r S' => ∃ k : Nat, r = .int k ∧ (k : Int) < room ∧ St lo d g c (T2 + 1) S' ∧ Gr lo S2 S' := fun S2 T2 room s2 h h1 h2 => by
          rw [hC]
          exact draw_w (n := m + 1) s2 (by have : bigT = 2 ^ 40 := rfl; show T2 < 2 ^ 40; omega) h1 (by omega)
        refine a_tst (a_bin (a_call (a_cons (a_slot ⟨_, rfl, a_cons (a_c (a_nil ?_))⟩))))
        refine wpe_mono (hd S2 _ 2 st1 (by omega) (by decide) (by decide)) ?_ (fun _ _ _ _ z => z.elim)
        rintro _ S3 ⟨k, rfl, hk, s3, g3⟩
        refine a_c ?_
        refine g_eqi ⟨_, rfl, ?_⟩
        have f2 : f < S2.n := Nat.lt_of_lt_of_le hf2 gg2.n
        have a3 := (g3.at_ _ hf f2).trans a2
        have a3' := (g3.at_ _ lS n2).trans a2'
        have n3 := Nat.lt_of_lt_of_le n2 g3.n
        have gg3 := gg2.trans (grX g3)
        by_cases hk0 : (k : Int) = 0
        · refine ifp (by rw [hk0]; rfl) ?_
          refine a_exp (a_met (a_slot ⟨_, rfl, o_tyl a3', ?_⟩))
          refine a_cons (a_met (a_slot ⟨_, rfl, o_tyl a3, ?_⟩))
          refine a_cons (a_call (a_cons (a_slot ⟨_, rfl, a_cons (a_bi (a_cons (a_slot ⟨_, rfl, a_nil ?_⟩)))⟩)))
          rw [o_lenl a3, List.length_map]
          refine a_nil ?_
          have hpos : 0 < fs'.length := by
            cases fs' with
            | nil => cases he
            | cons _ _ => exact Nat.succ_pos _
          refine wpe_mono (hd S3 _ _ s3 (by omega) (by omega) (by omega)) ?_ (fun _ _ _ _ z => z.elim)
          rintro _ S4 ⟨j, rfl, hj, s4, g4⟩
          have hj : j < fs'.length := by omega
          have f3 : f < S3.n := Nat.lt_of_lt_of_le f2 g3.n
          have a4 := (g4.at_ _ hf f3).trans a3
          have a4' := (g4.at_ _ lS n3).trans a3'
          have n4 := Nat.lt_of_lt_of_le n3 g4.n
          refine a_nil ?_
          rw [o_popAt (v := natV fs'[j]) a4 (by rw [List.getElem?_map, List.getElem?_eq_getElem hj]; rfl) (by omega)]
          refine a_nil ?_
          have a5 : (S4.set f (.lst ((fs'.map natV).eraseIdx j))).at_ S.n = .lst (ps.map Pc.v) := (set_ne (by omega)).trans a4'
          rw [o_append a5 (by rw [List.length_map, p1, show sizeLine = 16777216 from rfl]; omega)]
          refine ⟨ps ++ [.b fs'[j]], fs'.eraseIdx j, _, rfl, by rw [List.length_append, p1]; rfl, ?_, ?_, ?_, n4, ?_, ((s4.mono (by omega)).setNew hf).setNew lS, (((gg3.trans (grX g4)).trans GrX.set)).set_new (Nat.le_refl _)⟩
          · intro w hw
            rcases List.mem_append.mp hw with hw | hw
            · exact p2 w hw
            · rw [List.mem_singleton] at hw; cases hw
          · show ((ps ++ [Pc.b fs'[j]]).flatMap Pc.bx ++ fs'.eraseIdx j).Perm fs
            rw [List.flatMap_append]
            show ((bxN ps ++ [fs'[j]]) ++ fs'.eraseIdx j).Perm fs
            rw [List.append_assoc]
            exact (List.Perm.append_left _ (perm_erase hj)).trans p3
          · rw [set_ne (by omega), set_same, map_erase]
          · rw [set_same, List.map_append]; rfl
        · refine ifn (by rw [beq_eq_false_iff_ne]; exact hk0) ?_
          exact wps_mono (pk S3 _ s3 (by omega) a3 a3' n3 gg3) (fun _ _ z => z) (fun _ _ z => z.elim) (fun _ _ z => z.elim) (fun _ _ z => z.elim) (fun _ _ _ _ z => z.elim)
    · rintro ρ S1 ⟨ps, fs', b4, rfl, p1, p2, p3, p4, p5, p6, s1, g1⟩
      rw [rng_len] at p1 s1
      exact ⟨ps, fs', b4, rfl, p1, p2, p3, p4, p5, p6, s1, g1⟩
  · rintro _ S1 ⟨ps, fs', b4, rfl, p1, p2, p3, p4, p5, p6, s1, g1⟩
    refine a_ret (a_bi (a_cons (a_slot ⟨_, rfl, a_nil ?_⟩)))
    rw [o_tuple (getR_l p6)]
    exact ⟨ps, fs', rfl, p1, p2, p3, p4, s1, g1⟩
end G

set_option linter.all false
set_option maxRecDepth 100000
set_option maxHeartbeats 4000000
namespace G
open PySem PySem.Spec PyProof.Rows L2 Q

/-! ### drawn box machines -/
def PcsOk (n : Nat) (ps : List Pc) : Prop := ps.length ≤ 4 ∧ (∀ z, Pc.t z ∈ ps → z ∈ pls) ∧ ∀ k, Pc.b k ∈ ps → k < n
def FlOk (n size : Nat) (fl : List (List Pc)) : Prop := fl.length = size ∧ (∀ ps ∈ fl, PcsOk n ps) ∧ (fl.flatMap bxN).Nodup
def MvOk (ss : List Nat) (n : Nat) (p : Nat × List (List Pc)) : Prop := ∃ s, ss[p.1]? = some s ∧ FlOk n s p.2
def mvV (p : Nat × List (List Pc)) : Vl := .tup [natV p.1, .tup (p.2.map pcsV)]
structure Rw where
  many : Nat
  moves : List (Nat × List (List Pc))
  out : List Pc
def Rw.v (r : Rw) : Vl := .tup [natV r.many, .tup (r.moves.map mvV), pcsV r.out]
structure RwOk (ss : List Nat) (l : Nat) (r : Rw) : Prop where
  many : r.many < 5
  len : r.moves.length = l
  mv : ∀ p ∈ r.moves, MvOk ss r.many p
  out : FlOk r.many 1 [r.out]
structure Bx where
  ls : Str
  begun : List Str
  rows : List Rw
def Bx.v (B : Bx) : Vl := .tup [.str "boxes", .str B.ls, .tup (B.begun.map Vl.str), .tup (B.rows.map Rw.v)]
def lsx : List Str := ["a", "ab", "xyz"]
def bgs : List Str := ["", "a", "bc", "zz"]
structure Bx.Ok (B : Bx) : Prop where
  ls : B.ls ∈ lsx
  r1 : 1 ≤ B.rows.length
  r4 : B.rows.length ≤ 4
  row : ∀ r ∈ B.rows, RwOk (B.rows.map (·.many)) B.ls.length r
  beg : B.begun.length = (B.rows.map (·.many)).headD 0
  bg : ∀ z ∈ B.begun, z ∈ bgs
theorem nats_of : ∀ {ys : List Vl} {n : Nat}, (∀ y ∈ ys, ∃ k, k < n ∧ y = natV k) → ∃ ks : List Nat, ys = ks.map natV ∧ ∀ k ∈ ks, k < n
  | [], _, _ => ⟨[], rfl, by simp⟩
  | y :: ys, n, h => by
    obtain ⟨k, h1, rfl⟩ := h y List.mem_cons_self
    obtain ⟨ks, rfl, h2⟩ := nats_of fun z hz => h z (List.mem_cons_of_mem _ hz)
    exact ⟨k :: ks, rfl, fun j hj => by rcases List.mem_cons.mp hj with e | e; · omega
                                        · exact h2 j e⟩
theorem strs_of {zs : List Str} : ∀ {ys : List Vl}, (∀ y ∈ ys, ∃ z, z ∈ zs ∧ y = .str z) → ∃ ks : List Str, ys = ks.map Vl.str ∧ ∀ k ∈ ks, k ∈ zs
  | [], _ => ⟨[], rfl, by simp⟩
  | y :: ys, h => by
    obtain ⟨k, h1, rfl⟩ := h y List.mem_cons_self
    obtain ⟨ks, rfl, h2⟩ := strs_of fun z hz => h z (List.mem_cons_of_mem _ hz)
    exact ⟨k :: ks, rfl, fun j hj => by rcases List.mem_cons.mp hj with e | e; · rw [e]; exact h1
                                        · exact h2 j e⟩
theorem bx_mem {ps : List Pc} {k : Nat} (h : Pc.b k ∈ ps) : k ∈ bxN ps := List.mem_flatMap.mpr ⟨_, h, List.mem_singleton.mpr rfl⟩
section
variable {m lo d g c T : Nat} {S : Sto} {C : Nat → List Vl → Q.M Vl}
abbrev enM (d : Nat) (b1 b2 b3 b4 b5 b6 b7 b8 b9 b10 b11 b12 : Option Vl) : En := [some (.ref d), b1, b2, b3, b4, b5, b6, b7, b8, b9, b10, b11, b12]
theorem draw_m (hC : C = (lev (m + 4)).1) {room : Int} (s : St lo d g c T S) (hT : T < bigT) (h1 : 0 < room) (h2 : room < 1073741824) :
    wpe (C 21 [.ref d, .int room] S) noE fun r S' => ∃ k : Nat, r = .int k ∧ (k : Int) < room ∧ St lo d g c (T + 1) S' ∧ Gr lo S S' := by
  rw [hC]; exact draw_w (n := m + 2) s hT h1 h2
theorem pick_m (hC : C = (lev (m + 4)).1) {r : Nat} {xs : List Vl} (s : St lo d g c T S) (hT : T < bigT) (hr : S.at_ r = .lst xs) (hl : lo ≤ r) (hn : r < S.n) (h1 : xs ≠ []) (h2 : xs.length < 1000000) :
    wpe (C 22 [.ref d, .ref r] S) noE fun v S' => v ∈ xs ∧ St lo d g c (T + 1) S' ∧ Gr lo S S' := by
  rw [hC]; exact pick_w (n := m + 1) s hT hr hl hn h1 h2
theorem fills_w (hC : C = (lev (m + 4)).1) {f q2 N size gl : Nat} {gv : Vl} {ss : List Nat} {b1 b3 b4 b5 b6 b7 b8 b9 b10 : Option Vl} (s : St lo d g c T S) (hT : T + 200 < bigT) (hf : lo ≤ f) (hf2 : f < S.n) (ha : S.at_ f = .lst ((List.range N).map natV)) (hN : N ≤ 4)
    (hq2 : S.at_ q2 = .lst (ss.map natV)) (hg : gv = .int (gl : Int)) (hs : ss[gl]? = some size) (hsz : size ≤ 4) (hss : ss.length ≤ 4) :
    wpe (mLc (mItR1 (mCons (mBin bSub' (mSlot 2) (mSlot 11)) mNil)) (.nm 10) mTrue (mCall (C 36) [] (mCons (mSlot 0) (mCons (mSlot 12) (mCons (mCall (C 21) [] (mCons (mSlot 0) (mCons (mC (.int 4)) mNil))) mNil)))) [10] (enM d b1 (some (.ref q2)) b3 b4 b5 b6 b7 b8 b9 b10 (some gv) (some (.ref f))) S) noE
      fun r S' => ∃ fl : List (List Pc), r = .ref S.n ∧ S.n < S'.n ∧ S'.at_ S.n = .lst (fl.map pcsV) ∧ FlOk N size fl ∧ St lo d g c (T + size * 9) S' ∧ GrX lo f S S' := by
  have lS := s.ln
  refine w_lc ?_
  rw [w_itR1]
  refine a_cons (a_bin (a_slot ⟨_, rfl, a_slot ⟨_, rfl, ?_⟩⟩))
  rw [hg, o_atl (v := natV size) (getR_l hq2) (by rw [List.getElem?_map, hs]; rfl) (by have := (List.getElem?_eq_some_iff.mp hs).1; omega) (by unfold getD; rw [hq2])]
  refine a_nil ⟨_, rfl, by omega, by omega, rng size, fun i acc S1 => ∃ (fl : List (List Pc)) (fs : List Nat), acc = fl.map pcsV ∧ fl.length = i ∧ (∀ ps ∈ fl, PcsOk N ps) ∧ (fl.flatMap bxN ++ fs).Perm (List.range N) ∧ S1.at_ f = .lst (fs.map natV) ∧ S1.at_ S.n = .lst acc ∧ S.n < S1.n ∧ St lo d g c (T + i * 9) S1 ∧ GrX lo f S S1, ⟨[], List.range N, rfl, rfl, by simp, .refl _, (push_lt hf2).trans ha, push_same, Nat.lt_succ_self _, by rw [Nat.zero_mul]; exact s.gr Gr.push, grX0 Gr.push⟩, fun i acc S1 _ _ => by rw [Int.toNat_natCast]; exact rng_at, ?_, ?_⟩
  · rintro i x acc S1 hx ⟨fl, fs, rfl, p1, p2, p3, p4, p5, p6, s1, g1⟩
    obtain ⟨rfl, hi⟩ := rng_get hx
    refine ⟨_, rfl, ?_⟩
    rw [w_true, if_pos rfl]
    obtain ⟨xv, hxv⟩ : ∃ xv, xv = Vl.int (i : Int) := ⟨_, rfl⟩
    rw [← hxv]
    show wpe (mCall (C 36) [] (mCons (mSlot 0) (mCons (mSlot 12) (mCons (mCall (C 21) [] (mCons (mSlot 0) (mCons (mC (.int 4)) mNil))) mNil))) (enM d b1 (some (.ref q2)) b3 b4 b5 b6 b7 b8 b9 (some xv) (some gv) (some (.ref f))) S1) _ _
    refine a_call (a_cons (a_slot ⟨_, rfl, a_cons (a_slot ⟨_, rfl, a_cons (a_call (a_cons (a_slot ⟨_, rfl, a_cons (a_c (a_nil ?_))⟩)))⟩)⟩))
    have hb : i * 9 + 9 ≤ 36 := by omega
    refine wpe_mono (draw_m hC s1 (by omega) (by decide) (by decide)) ?_ (fun _ _ _ _ z => z.elim)
    rintro _ S2 ⟨k, rfl, hk, s2, g2⟩
    refine a_nil ?_
    have f1 := Nat.lt_of_lt_of_le hf2 g1.n
    have hfs : fs.length ≤ 4 := by
      have := p3.length_eq
      rw [List.length_append, List.length_range] at this
      omega
    have q : wpe (C 36 [.ref d, .ref f, .int (k : Int)] S2) noE fun r S' => ∃ (ps : List Pc) (fs' : List Nat), r = pcsV ps ∧ ps.length = k ∧ (∀ z, Pc.t z ∈ ps → z ∈ pls) ∧ (bxN ps ++ fs').Perm fs ∧ S'.at_ f = .lst (fs'.map natV) ∧ St lo d g c (T + i * 9 + 1 + k * 2) S' ∧ GrX lo f S2 S' := by
      exact pieces_w hC rfl (by omega) s2 (by omega) hf (Nat.lt_of_lt_of_le f1 g2.n) ((g2.at_ _ hf f1).trans p4) hfs
    refine wpe_mono q ?_ (fun _ _ _ _ z => z.elim)
    rintro _ S3 ⟨ps, fs', rfl, r1, r2, r3, r4, s3, g3⟩
    have hne : S.n ≠ f := by omega
    have a3 : S3.at_ S.n = .lst (fl.map pcsV) := (g3.at_ _ lS (Nat.lt_of_lt_of_le p6 g2.n) hne).trans ((g2.at_ _ lS p6).trans p5)
    refine ⟨a3, by rw [List.length_map, p1, show sizeLine = 16777216 from rfl]; omega, fl ++ [ps], fs', ?_, by rw [List.length_append, p1]; rfl, ?_, ?_, by rw [set_ne (Ne.symm hne)]; exact r4, set_same, Nat.lt_of_lt_of_le p6 (Nat.le_trans g2.n g3.n), (s3.mono (by omega)).setNew lS, ((g1.trans (grX g2)).trans g3).set_new (Nat.le_refl _)⟩
    · rw [List.map_append]; rfl
    · intro qs hqs
      rcases List.mem_append.mp hqs with h | h
      · exact p2 qs h
      · rw [List.mem_singleton.mp h]
        refine ⟨by omega, r2, fun j hj => ?_⟩
        have h1 : j ∈ fs := r3.mem_iff.mp (List.mem_append_left _ (bx_mem hj))
        exact List.mem_range.mp (p3.mem_iff.mp (List.mem_append_right _ h1))
    · rw [List.flatMap_append]
      show ((fl.flatMap bxN ++ (bxN ps ++ [])) ++ fs').Perm (List.range N)
      rw [List.append_nil, List.append_assoc]
      exact (List.Perm.append_left _ r3).trans p3
  · rintro acc S1 ⟨fl, fs, rfl, p1, p2, p3, p4, p5, p6, s1, g1⟩
    rw [rng_len] at p1 s1
    refine ⟨fl, rfl, p6, p5, ⟨p1, p2, ?_⟩, s1, g1⟩
    have nd : (fl.flatMap bxN ++ fs).Nodup := p3.nodup_iff.mpr List.nodup_range
    exact (List.nodup_append.mp nd).1
end
end G

set_option linter.all false
set_option maxRecDepth 100000
set_option maxHeartbeats 4000000
namespace G
open PySem PySem.Spec PyProof.Rows L2 Q

section
variable {m lo d g c T : Nat} {S : Sto} {C : Nat → List Vl → Q.M Vl}
noncomputable abbrev mvD (C : Nat → List Vl → Q.M Vl) : MS := (sSeq (sAsg (mTup (mCons (mCall (C 21) [] (mCons (mSlot 0) (mCons (mBi bLen (mCons (mSlot 2) mNil)) mNil))) (mCons (mListR (mSlot 4)) mNil))) (gTp ((gNm 11) :: ((gNm 12) :: []))))
    (sSeq (sAsg (mLc (mItR1 (mCons (mBin bSub' (mSlot 2) (mSlot 11)) mNil)) (.nm 10) mTrue (mCall (C 36) [] (mCons (mSlot 0) (mCons (mSlot 12) (mCons (mCall (C 21) [] (mCons (mSlot 0) (mCons (mC (.int 4)) mNil))) mNil)))) [10]) (gNm 9))
    (sExp (mMet "list" mtAppend (mSlot 6) (mCons (mTup (mCons (mSlot 11) (mCons (mBi bTuple (mCons (mSlot 9) mNil)) mNil))) mNil)))))
theorem moves_for (hC : C = (lev (m + 4)).1) {ls : Str} {q2 q6 N : Nat} {kv : Vl} {ss : List Nat} {b3 b5 b7 b8 b9 b10 b11 b12 : Option Vl} (s : St lo d g c T S) (hT : T + 400 < bigT) (hls : ls.length ≤ 3) (hkv : kv = .int (N : Int)) (hN : N ≤ 4)
    (hq2 : S.at_ q2 = .lst (ss.map natV)) (l2 : lo ≤ q2) (n2 : q2 < S.n) (h26 : q2 ≠ q6) (hs1 : 1 ≤ ss.length) (hs4 : ss.length ≤ 4) (hs5 : ∀ k ∈ ss, k < 5) (h6 : S.at_ q6 = .lst []) (l6 : lo ≤ q6) (n6 : q6 < S.n) :
    wps (sFor (mIt (mSlot 1)) (gNm 7) (mvD C) (enM d (some (.str ls)) (some (.ref q2)) b3 (some kv) b5 (some (.ref q6)) b7 b8 b9 b10 b11 b12) S)
      ⟨fun ρ S1 => ∃ b7 b8 b9 b10 b11 b12, ∃ mvs : List (Nat × List (List Pc)), ρ = enM d (some (.str ls)) (some (.ref q2)) b3 (some kv) b5 (some (.ref q6)) b7 b8 b9 b10 b11 b12 ∧ S1.at_ q6 = .lst (mvs.map mvV) ∧ mvs.length = ls.length ∧ (∀ p ∈ mvs, MvOk ss N p) ∧ St lo d g c (T + 120) S1 ∧ GrX lo q6 S S1, fun _ _ => False, fun _ _ => False, fun _ _ => False, noE⟩ := by
  have lS := s.ln
  refine s_for ?_
  rw [w_it]
  refine a_slot ⟨_, rfl, .inr (.inr ⟨ls, rfl, chV ls, fun i ρ S1 => ∃ b7 b8 b9 b10 b11 b12, ∃ mvs : List (Nat × List (List Pc)), ρ = enM d (some (.str ls)) (some (.ref q2)) b3 (some kv) b5 (some (.ref q6)) b7 b8 b9 b10 b11 b12 ∧ S1.at_ q6 = .lst (mvs.map mvV) ∧ mvs.length = i ∧ (∀ p ∈ mvs, MvOk ss N p) ∧ St lo d g c (T + i * 40) S1 ∧ GrX lo q6 S S1, ⟨_, _, _, _, _, _, [], rfl, h6, rfl, by simp, by rw [Nat.zero_mul]; exact s, GrX.refl⟩, fun i ρ S3 _ _ => nxS_at, ?_, ?_⟩)⟩
  · rintro i x ρ S1 hx ⟨b7, b8, b9, b10, b11, b12, mvs, rfl, p1, p2, p3, s1, g1⟩
    have hi : i < ls.length := by
      have := (List.getElem?_eq_some_iff.mp hx).1
      rw [chV_len] at this; exact this
    have hbi : i * 40 + 40 ≤ 120 := by omega
    refine a_gnm ?_
    show wps (mvD C (enM d (some (.str ls)) (some (.ref q2)) b3 (some kv) b5 (some (.ref q6)) (some x) b8 b9 b10 b11 b12) S1) _
    have a2 := (g1.at_ _ l2 n2 h26).trans hq2
    refine a_let2 ?_
    refine a_tup (a_cons (a_call (a_cons (a_slot ⟨_, rfl, a_cons (a_bi (a_cons (a_slot ⟨_, rfl, a_nil ?_⟩)))⟩))))
    rw [o_lenl a2, List.length_map]
    refine a_nil ?_
    refine wpe_mono (draw_m hC s1 (by omega) (by omega) (by omega)) ?_ (fun _ _ _ _ z => z.elim)
    rintro gv S2 ⟨gl, hgv, hgl, s2, g2⟩
    have hgl : gl < ss.length := by omega
    refine a_cons ?_
    refine w_listR (a_slot ⟨_, rfl, N, hkv, by omega, a_nil ⟨by show 2 ≤ sizeLine; decide, _, _, rfl, ?_⟩⟩)
    have gp : Gr 0 S2 (S2.push (.lst (rng N))) := Gr.push
    have ap : (S2.push (.lst (rng N))).at_ S2.n = .lst ((List.range N).map natV) := push_same
    have np : S2.n < (S2.push (.lst (rng N))).n := Nat.lt_succ_self _
    have sp := s2.gr gp
    generalize S2.push (.lst (rng N)) = S3 at gp ap np sp ⊢
    have n6' := Nat.lt_of_lt_of_le n6 g1.n
    have n2' := Nat.lt_of_lt_of_le n2 g1.n
    have g13 : Gr lo S1 S3 := g2.trans (gp.up (Nat.zero_le _))
    show wps (sSeq _ _ (enM d (some (.str ls)) (some (.ref q2)) b3 (some kv) b5 (some (.ref q6)) (some x) b8 b9 b10 (some gv) (some (.ref S2.n))) S3) _
    with_reducible refine a_let ?_
    have hsz := hs5 _ (List.getElem_mem hgl)
    refine wpe_mono (fills_w hC (size := ss[gl]) sp (by omega) s2.ln np ap hN ((g13.at_ _ l2 n2').trans a2) hgv (List.getElem?_eq_getElem hgl) (by omega) hs4) ?_ (fun _ _ _ _ z => z.elim)
    rintro _ S4 ⟨fl, rfl, f1, f2, f3, s4, g4⟩
    have ne6 : q6 ≠ S2.n := by have := g2.n; omega
    have a6 : S4.at_ q6 = .lst (mvs.map mvV) := (g4.at_ _ l6 (Nat.lt_of_lt_of_le n6' g13.n) ne6).trans ((g13.at_ _ l6 n6').trans p1)
    refine a_exp (a_met (a_slot ⟨_, rfl, o_tyl a6, ?_⟩))
    refine a_cons (a_tup (a_cons (a_slot ⟨_, rfl, a_cons (a_bi (a_cons (a_slot ⟨_, rfl, a_nil ?_⟩)))⟩)))
    rw [o_tuple (getR_l f2)]
    refine a_nil ⟨by show 2 ≤ sizeLine; decide, a_nil ?_⟩
    rw [o_append a6 (by rw [List.length_map, p2, show sizeLine = 16777216 from rfl]; omega)]
    have g14 : Gr lo S1 S4 := g4.gr g13 g2.n
    have hTT : T + i * 40 + 1 + ss[gl] * 9 ≤ T + (i + 1) * 40 := by omega
    refine ⟨_, _, _, _, _, _, mvs ++ [(gl, fl)], rfl, ?_, by rw [List.length_append, p2]; rfl, ?_, (s4.mono hTT).setNew l6, (g1.trans (grX g14)).trans GrX.set⟩
    · rw [set_same, List.map_append, hgv]; rfl
    · intro p hp
      rcases List.mem_append.mp hp with h | h
      · exact p3 p h
      · rw [List.mem_singleton.mp h]
        exact ⟨ss[gl], List.getElem?_eq_getElem hgl, f3⟩
  · rintro ρ S1 ⟨b7, b8, b9, b10, b11, b12, mvs, rfl, p1, p2, p3, s1, g1⟩
    rw [chV_len] at p2 s1
    exact ⟨_, _, _, _, _, _, mvs, rfl, p1, p2, p3, s1.mono (by omega), g1⟩
end
end G

set_option linter.all false
set_option maxRecDepth 100000
set_option maxHeartbeats 4000000
namespace G
open PySem PySem.Spec PyProof.Rows L2 Q

section
variable {m lo d g c T : Nat} {S : Sto} {C : Nat → List Vl → Q.M Vl}
noncomputable abbrev rwD (C : Nat → List Vl → Q.M Vl) : MS := (sSeq (sAsg (mLst mNil) (gNm 6))
    (sSeq (sFor (mIt (mSlot 1)) (gNm 7) (mvD C))
    (sExp (mMet "list" mtAppend (mSlot 3) (mCons (mTup (mCons (mSlot 4) (mCons (mBi bTuple (mCons (mSlot 6) mNil)) (mCons (mCall (C 36) [] (mCons (mSlot 0) (mCons (mListR (mSlot 4)) (mCons (mCall (C 21) [] (mCons (mSlot 0) (mCons (mC (.int 5)) mNil))) mNil)))) mNil)))) mNil)))))
theorem rows_for (hC : C = (lev (m + 4)).1) {ls : Str} {q2 q3 : Nat} {ss : List Nat} (s : St lo d g c T S) (hT : T + 1000 < bigT) (hls : ls.length ≤ 3)
    (hq2 : S.at_ q2 = .lst (ss.map natV)) (l2 : lo ≤ q2) (n2 : q2 < S.n) (h23 : q2 ≠ q3) (hs1 : 1 ≤ ss.length) (hs4 : ss.length ≤ 4) (hs5 : ∀ k ∈ ss, k < 5) (h3 : S.at_ q3 = .lst []) (l3 : lo ≤ q3) (n3 : q3 < S.n) {b4 b5 b6 b7 b8 b9 b10 b11 b12 : Option Vl} :
    wps (sFor (mIt (mSlot 2)) (gNm 4) (rwD C) (enM d (some (.str ls)) (some (.ref q2)) (some (.ref q3)) b4 b5 b6 b7 b8 b9 b10 b11 b12) S)
      ⟨fun ρ S1 => ∃ b4 b6 b7 b8 b9 b10 b11 b12, ∃ rws : List Rw, ρ = enM d (some (.str ls)) (some (.ref q2)) (some (.ref q3)) b4 b5 b6 b7 b8 b9 b10 b11 b12 ∧ S1.at_ q3 = .lst (rws.map Rw.v) ∧ rws.map (·.many) = ss ∧ (∀ r ∈ rws, RwOk ss ls.length r) ∧ St lo d g c (T + 560) S1 ∧ GrX lo q3 S S1, fun _ _ => False, fun _ _ => False, fun _ _ => False, noE⟩ := by
  refine s_for ?_
  rw [w_it]
  refine a_slot ⟨_, rfl, .inr (.inl ⟨q2, _, rfl, getR_l hq2, ss.map natV, fun i ρ S1 => ∃ b4 b6 b7 b8 b9 b10 b11 b12, ∃ rws : List Rw, ρ = enM d (some (.str ls)) (some (.ref q2)) (some (.ref q3)) b4 b5 b6 b7 b8 b9 b10 b11 b12 ∧ S1.at_ q3 = .lst (rws.map Rw.v) ∧ rws.map (·.many) = ss.take i ∧ (∀ r ∈ rws, RwOk ss ls.length r) ∧ St lo d g c (T + i * 140) S1 ∧ GrX lo q3 S S1, ⟨_, _, _, _, _, _, _, _, [], rfl, h3, rfl, by simp, by rw [Nat.zero_mul]; exact s, GrX.refl⟩, ?_, ?_, ?_⟩)⟩
  · rintro i ρ S1 _ ⟨b4, b6, b7, b8, b9, b10, b11, b12, rws, rfl, p1, p2, p3, s1, g1⟩
    exact nxL_at (getR_l ((g1.at_ _ l2 n2 h23).trans hq2))
  · rintro i x ρ S1 hx ⟨b4, b6, b7, b8, b9, b10, b11, b12, rws, rfl, p1, p2, p3, s1, g1⟩
    have hi : i < ss.length := by
      have := (List.getElem?_eq_some_iff.mp hx).1
      rw [List.length_map] at this; exact this
    rw [List.getElem?_map, List.getElem?_eq_getElem hi] at hx
    obtain ⟨N, hN⟩ : ∃ N, N = ss[i] := ⟨_, rfl⟩
    have hx : x = natV N := by rw [hN]; cases hx; rfl
    have hN5 : N < 5 := by rw [hN]; exact hs5 _ (List.getElem_mem hi)
    have hkv : x = .int (N : Int) := hx
    have hbi : i * 140 + 140 ≤ 560 := by omega
    have a2 := (g1.at_ _ l2 n2 h23).trans hq2
    have n2' := Nat.lt_of_lt_of_le n2 g1.n
    have n3' := Nat.lt_of_lt_of_le n3 g1.n
    refine a_gnm ?_
    show wps (rwD C (enM d (some (.str ls)) (some (.ref q2)) (some (.ref q3)) (some x) b5 b6 b7 b8 b9 b10 b11 b12) S1) _
    refine a_let ?_
    refine a_lst (a_nil ⟨by decide, ?_⟩)
    have gp : Gr 0 S1 (S1.push (.lst [])) := Gr.push
    have ap : (S1.push (.lst [])).at_ S1.n = .lst [] := push_same
    have np : S1.n < (S1.push (.lst [])).n := Nat.lt_succ_self _
    have sp := s1.gr gp
    generalize S1.push (.lst []) = S2 at gp ap np sp ⊢
    show wps (sSeq _ _ (enM d (some (.str ls)) (some (.ref q2)) (some (.ref q3)) (some x) b5 (some (.ref S1.n)) b7 b8 b9 b10 b11 b12) S2) _
    refine s_cut _ (wps_mono (moves_for hC sp (by omega) hls hkv (by omega) ((gp.at_ _ (Nat.zero_le _) n2').trans a2) l2 (Nat.lt_of_lt_of_le n2' gp.n) (by omega) hs1 hs4 hs5 ap s1.ln np) (fun _ _ z => z) (fun _ _ z => z.elim) (fun _ _ z => z.elim) (fun _ _ z => z.elim) (fun _ _ _ _ z => z.elim)) ?_
    rintro _ S3 ⟨c7, c8, c9, c10, c11, c12, mvs, rfl, r1, r2, r3, s3, g3⟩
    have g13 : Gr lo S1 S3 := g3.gr (gp.up (Nat.zero_le _)) (Nat.le_refl _)
    have a3 := (g13.at_ _ l3 n3').trans p1
    refine a_exp (a_met (a_slot ⟨_, rfl, o_tyl a3, ?_⟩))
    refine a_cons (a_tup (a_cons (a_slot ⟨_, rfl, a_cons (a_bi (a_cons (a_slot ⟨_, rfl, a_nil ?_⟩)))⟩)))
    rw [o_tuple (getR_l r1)]
    refine a_cons (a_call (a_cons (a_slot ⟨_, rfl, a_cons (w_listR (a_slot ⟨_, rfl, N, hkv, by omega, a_cons (a_call (a_cons (a_slot ⟨_, rfl, a_cons (a_c (a_nil ?_))⟩)))⟩))⟩)))
    have gq : Gr 0 S3 (S3.push (.lst (rng N))) := Gr.push
    have aq : (S3.push (.lst (rng N))).at_ S3.n = .lst ((List.range N).map natV) := push_same
    have nq : S3.n < (S3.push (.lst (rng N))).n := Nat.lt_succ_self _
    have sq := s3.gr gq
    generalize S3.push (.lst (rng N)) = S4 at gq aq nq sq ⊢
    refine wpe_mono (draw_m hC sq (by omega) (by decide) (by decide)) ?_ (fun _ _ _ _ z => z.elim)
    rintro _ S5 ⟨k, rfl, hk, s5, g5⟩
    refine a_nil ?_
    have l3n := s3.ln
    refine wpe_mono (pieces_w hC (fs := List.range N) rfl (by omega) s5 (by omega) l3n (Nat.lt_of_lt_of_le nq g5.n) ((g5.at_ _ l3n nq).trans aq) (by rw [List.length_range]; omega)) ?_ (fun _ _ _ _ z => z.elim)
    rintro _ S6 ⟨ps, fs', rfl, t1, t2, t3, t4, s6, g6⟩
    have g16 : Gr lo S1 S6 := g6.gr ((g13.trans (gq.up (Nat.zero_le _))).trans g5) g13.n
    have a6 := (g16.at_ _ l3 n3').trans p1
    refine a_nil ⟨by show 3 ≤ sizeLine; decide, a_nil ?_⟩
    have lr : rws.length ≤ 4 := by
      have := congrArg List.length p2
      rw [List.length_map, List.length_take] at this; omega
    rw [o_append a6 (by rw [List.length_map, show sizeLine = 16777216 from rfl]; omega)]
    have hTT : T + i * 140 + 120 + 1 + k * 2 ≤ T + (i + 1) * 140 := by omega
    refine ⟨_, _, _, _, _, _, _, _, rws ++ [⟨N, mvs, ps⟩], rfl, ?_, ?_, ?_, (s6.mono hTT).setNew l3, (g1.trans (grX g16)).trans GrX.set⟩
    · rw [set_same, List.map_append, hkv]; rfl
    · rw [List.map_append, p2, List.take_add_one, List.getElem?_eq_getElem hi, hN]; rfl
    · intro r hr
      rcases List.mem_append.mp hr with h | h
      · exact p3 r h
      · rw [List.mem_singleton.mp h]
        refine ⟨hN5, r2, r3, rfl, fun qs hqs => ?_, ?_⟩
        · rw [List.mem_singleton.mp hqs]
          exact ⟨by show ps.length ≤ 4; omega, t2, fun j hj => List.mem_range.mp (t3.mem_iff.mp (List.mem_append_left _ (bx_mem hj)))⟩
        · have nd : (bxN ps ++ fs').Nodup := t3.nodup_iff.mpr List.nodup_range
          have nd := (List.nodup_append.mp nd).1
          show ([ps].flatMap bxN).Nodup
          simpa using nd
  · rintro ρ S1 ⟨b4, b6, b7, b8, b9, b10, b11, b12, rws, rfl, p1, p2, p3, s1, g1⟩
    rw [List.length_map] at p2 s1
    rw [List.take_length] at p2
    exact ⟨_, _, _, _, _, _, _, _, rws, rfl, p1, p2, p3, s1.mono (by omega), g1⟩
theorem made_w {C0 : Nat → List Vl → Q.M Vl} (hC0 : C0 = (lev (m + 5)).1) (s : St lo d g c T S) (hT : T + 2000 < bigT) : wpe (C0 37 [.ref d] S) noE fun r S' => ∃ B : Bx, r = B.v ∧ B.Ok ∧ St lo d g c (T + 600) S' ∧ Gr lo S S' := by
  rw [hC0, lv__law_made]
  with_reducible refine w_run rfl ?_
  unfold b__law_made
  obtain ⟨C, hC⟩ : ∃ C, C = (lev (m + 4)).1 := ⟨_, rfl⟩
  rw [← hC]
  have lS := s.ln
  with_reducible refine a_let ?_
  refine a_call (a_cons (a_slot ⟨_, rfl, a_cons (a_lst (a_cons (a_c (a_cons (a_c (a_cons (a_c (a_nil ⟨by decide, a_nil ?_⟩))))))))⟩))
  have gp : Gr 0 S (S.push (.lst [Vl.str "a", .str "ab", .str "xyz"])) := Gr.push
  refine wpe_mono (pick_m hC (s.gr gp) (by omega) push_same s.ln (Nat.lt_succ_self _) (by simp) (by show 3 < _; decide)) ?_ (fun _ _ _ _ z => z.elim)
  rintro v S1 ⟨hv, s1, g1⟩
  have g01 : Gr lo S S1 := (gp.up (Nat.zero_le _)).trans g1
  obtain ⟨ls, hls, rfl⟩ : ∃ z, z ∈ lsx ∧ v = .str z := by
    simp only [List.mem_cons, List.not_mem_nil, or_false] at hv
    unfold lsx
    rcases hv with rfl | rfl | rfl <;> exact ⟨_, by simp, rfl⟩
  have hl3 : ls.length ≤ 3 := (by decide +kernel : ∀ z ∈ lsx, z.length ≤ 3) ls hls
  show wps (sSeq _ _ (enM d (some (.str ls)) none none none none none none none none none none none) S1) _
  with_reducible refine a_let ?_
  with_reducible refine w_lcd (lo := lo) (d := d) (g := g) (c := c) (T := T + 2) (B := 1) (fun y => ∃ k, k < 5 ∧ y = natV k) ?_
  rw [w_itR1]
  refine a_cons (a_bin (a_c (a_call (a_cons (a_slot ⟨_, rfl, a_cons (a_c (a_nil ?_))⟩)))))
  refine wpe_mono (draw_m hC s1 (by omega) (by decide) (by decide)) ?_ (fun _ _ _ _ z => z.elim)
  rintro _ S2 ⟨k, rfl, hk, s2, g2⟩
  refine g_add (a_nil ⟨_, rfl, by omega, by omega, rng (k + 1), by rw [rng_len]; omega, s2.mono (by omega), fun j S3 _ _ => by rw [show (1 + (k : Int)).toNat = k + 1 by omega]; exact rng_at, fun x hx S3 T3 hT3 s3 g3 => ?_, fun ys S3 hyl hys s3 g3 n3 h3 => ?_⟩)
  · rw [rng_len] at hT3
    show wpe (mCall (C 21) [] (mCons (mSlot 0) (mCons (mC (.int 5)) mNil)) (enM d (some (.str ls)) none none none none none none (some x) none none none none) S3) noE _
    refine a_call (a_cons (a_slot ⟨_, rfl, a_cons (a_c (a_nil ?_))⟩))
    refine wpe_mono (draw_m hC s3 (by omega) (by decide) (by decide)) ?_ (fun _ _ _ _ z => z.elim)
    rintro _ S4 ⟨j, rfl, hj, s4, g4⟩
    exact ⟨⟨j, by omega, rfl⟩, s4, g4⟩
  rw [rng_len] at hyl s3
  obtain ⟨ss, rfl, hss⟩ := nats_of hys
  rw [List.length_map] at hyl
  have l2 := s2.ln
  generalize S2.n = q2 at n3 h3 l2 ⊢
  have g03 : Gr lo S S3 := (g01.trans g2).trans g3
  show wps (sSeq _ _ (enM d (some (.str ls)) (some (.ref q2)) none none none none none none none none none none) S3) _
  with_reducible refine a_let ?_
  refine a_lst (a_nil ⟨by decide, ?_⟩)
  have gq : Gr 0 S3 (S3.push (.lst [])) := Gr.push
  have aq : (S3.push (.lst [])).at_ S3.n = .lst [] := push_same
  have nq : S3.n < (S3.push (.lst [])).n := Nat.lt_succ_self _
  have sq := s3.gr gq
  generalize S3.push (.lst []) = S4 at gq aq nq sq ⊢
  show wps (sSeq _ _ (enM d (some (.str ls)) (some (.ref q2)) (some (.ref S3.n)) none none none none none none none none none) S4) _
  refine s_cut _ (wps_mono (rows_for hC sq (by omega) hl3 ((gq.at_ _ (Nat.zero_le _) n3).trans h3) l2 (Nat.lt_of_lt_of_le n3 gq.n) (by omega) (by omega) (by omega) hss aq s3.ln nq) (fun _ _ z => z) (fun _ _ z => z.elim) (fun _ _ z => z.elim) (fun _ _ z => z.elim) (fun _ _ _ _ z => z.elim)) ?_
  rintro _ S5 ⟨c4, c6, c7, c8, c9, c10, c11, c12, rws, rfl, p1, p2, p3, s5, g5⟩
  have g35 : Gr lo S3 S5 := g5.gr (gq.up (Nat.zero_le _)) (Nat.le_refl _)
  have a2 := (g35.at_ _ l2 n3).trans h3
  obtain ⟨s0, sr, hs0⟩ : ∃ s0 sr, ss = s0 :: sr := by
    cases ss with
    | nil => simp at hyl
    | cons a b => exact ⟨a, b, rfl⟩
  have hs05 : s0 < 5 := hss s0 (by rw [hs0]; simp)
  with_reducible refine a_let ?_
  with_reducible refine w_lcd (lo := lo) (d := d) (g := g) (c := c) (T := T + 580) (B := 1) (fun y => ∃ z, z ∈ bgs ∧ y = .str z) ?_
  rw [w_itR1]
  refine a_cons (a_bin (a_slot ⟨_, rfl, a_c ?_⟩))
  rw [show (Vl.int 0) = .int ((0 : Nat) : Int) from rfl, o_atl (v := natV s0) (getR_l a2) (by rw [hs0]; rfl) (by decide) (by unfold getD; rw [a2])]
  refine a_nil ⟨_, rfl, by omega, by omega, rng s0, by rw [rng_len]; omega, s5.mono (by omega), fun j S6 _ _ => by rw [Int.toNat_natCast]; exact rng_at, fun x hx S6 T6 hT6 s6 g6 => ?_, fun ys S6 hyl2 hys s6 g6 n6 h6 => ?_⟩
  · rw [rng_len] at hT6
    show wpe (mCall (C 22) [] (mCons (mSlot 0) (mCons (mLst (mCons (mC (.str "")) (mCons (mC (.str "a")) (mCons (mC (.str "bc")) (mCons (mC (.str "zz")) mNil))))) mNil)) (enM d (some (.str ls)) (some (.ref q2)) (some (.ref S3.n)) c4 none c6 c7 c8 c9 (some x) c11 c12) S6) noE _
    refine a_call (a_cons (a_slot ⟨_, rfl, a_cons (a_lst (a_cons (a_c (a_cons (a_c (a_cons (a_c (a_cons (a_c (a_nil ⟨by decide, a_nil ?_⟩))))))))))⟩))
    have gp : Gr 0 S6 (S6.push (.lst [.str "", .str "a", .str "bc", .str "zz"])) := Gr.push
    refine wpe_mono (pick_m hC (s6.gr gp) (by omega) push_same s6.ln (Nat.lt_succ_self _) (by simp) (by show 4 < _; decide)) ?_ (fun _ _ _ _ z => z.elim)
    rintro v S7 ⟨hv, s7, g7⟩
    refine ⟨?_, s7, (gp.up (Nat.zero_le _)).trans g7⟩
    simp only [List.mem_cons, List.not_mem_nil, or_false] at hv
    unfold bgs
    rcases hv with rfl | rfl | rfl | rfl <;> exact ⟨_, by simp, rfl⟩
  rw [rng_len] at hyl2 s6
  obtain ⟨bs, rfl, hbs⟩ := strs_of hys
  rw [List.length_map] at hyl2
  have g06 : Gr lo S S6 := (g03.trans g35).trans g6
  have a6 := (g6.at_ _ s3.ln (Nat.lt_of_lt_of_le nq g5.n)).trans p1
  generalize S5.n = q5 at n6 h6 ⊢
  show wps (sRet _ (enM d (some (.str ls)) (some (.ref q2)) (some (.ref S3.n)) c4 (some (.ref q5)) c6 c7 c8 c9 c10 c11 c12) S6) _
  refine a_ret (a_tup (a_cons (a_c (a_cons (a_slot ⟨_, rfl, a_cons (a_bi (a_cons (a_slot ⟨_, rfl, a_nil ?_⟩)))⟩)))))
  rw [o_tuple (getR_l h6)]
  refine a_cons (a_bi (a_cons (a_slot ⟨_, rfl, a_nil ?_⟩)))
  rw [o_tuple (getR_l a6)]
  have lr : rws.length = ss.length := by rw [← p2, List.length_map]
  refine a_nil ⟨by show 4 ≤ sizeLine; decide, ⟨ls, bs, rws⟩, rfl, ⟨hls, by show 1 ≤ rws.length; omega, by show rws.length ≤ 4; omega, by show ∀ r ∈ rws, RwOk (rws.map (·.many)) ls.length r; rw [p2]; exact p3, by show bs.length = (rws.map (·.many)).headD 0; rw [p2, hs0]; exact hyl2, hbs⟩, s6.mono (by omega), g06⟩
end
end G

set_option linter.all false
set_option maxRecDepth 100000
set_option maxHeartbeats 4000000
namespace G
open PySem PySem.Spec PyProof.Rows L2 Q

/-! ### drawn ones are box machines -/
theorem pls_ok : ∀ z ∈ pls, upOk z = true ∧ isLtr (.str z) = true ∧ z.length = 1 := by decide +kernel
theorem bgs_ok : ∀ z ∈ bgs, upOk z = true ∧ isTx (.str z) = true ∧ z.length ≤ 2 := by decide +kernel
theorem lsx_ok : ∀ z ∈ lsx, upOk z = true ∧ isLet (.str z) = true ∧ 1 ≤ z.length ∧ z.length ≤ 3 := by decide +kernel
theorem box_up : upOk "boxes" = true := by decide +kernel
theorem PcsOk.pl {n : Nat} (hn : n ≤ 5) {ps : List Pc} (h : PcsOk n ps) : Pl 1 (pcsV ps) := by
  refine ⟨by rw [List.length_map]; have := h.1; omega, fun x hx => ?_⟩
  obtain ⟨p, hp, rfl⟩ := List.mem_map.mp hx
  cases p with
  | t z => exact (pls_ok z (h.2.1 z hp)).1
  | b k => have := h.2.2 k hp; exact ⟨by omega, by omega⟩
theorem PcsOk.nd {n : Nat} {ps : List Pc} (h : PcsOk n ps) : nds (pcsV ps) ≤ 5 := by
  have e : ndsL (ps.map Pc.v) ≤ (ps.map Pc.v).length * 1 := ndsL_le fun y hy => by
    obtain ⟨p, _, rfl⟩ := List.mem_map.mp hy
    cases p with
    | t z => rw [Pc.v, nds]; exact Nat.le_refl _; intro _ q; cases q
    | b k => rw [Pc.v, nds_nat]; exact Nat.le_refl _
  rw [List.length_map] at e
  have := h.1
  unfold pcsV
  rw [nds]; omega
theorem FlOk.pl {n size : Nat} (hn : n ≤ 5) {fl : List (List Pc)} (h : FlOk n size fl) (hs : size ≤ 5) : Pl 2 (.tup (fl.map pcsV)) := by
  refine ⟨by rw [List.length_map, h.1]; omega, fun x hx => ?_⟩
  obtain ⟨p, hp, rfl⟩ := List.mem_map.mp hx
  exact (h.2.1 p hp).pl hn
theorem FlOk.nd {n size : Nat} {fl : List (List Pc)} (h : FlOk n size fl) (hs : size ≤ 5) : nds (.tup (fl.map pcsV)) ≤ 26 := by
  have e : ndsL (fl.map pcsV) ≤ (fl.map pcsV).length * 5 := ndsL_le fun y hy => by
    obtain ⟨p, hp, rfl⟩ := List.mem_map.mp hy
    exact (h.2.1 p hp).nd
  rw [List.length_map, h.1] at e
  rw [nds]; omega
section
variable {B : Bx}
theorem Bx.Ok.many (h : B.Ok) : ∀ k ∈ B.rows.map (·.many), k < 5 := fun k hk => by
  obtain ⟨r, hr, rfl⟩ := List.mem_map.mp hk
  exact (h.row r hr).many
theorem mv_pl (h : B.Ok) {r : Rw} (hr : r ∈ B.rows) {p : Nat × List (List Pc)} (hp : p ∈ r.moves) : Pl 3 (mvV p) ∧ nds (mvV p) ≤ 28 := by
  obtain ⟨s, hs, hf⟩ := (h.row r hr).mv p hp
  have h5 := h.many s (List.mem_of_getElem? hs)
  have hm := (h.row r hr).many
  have hg := (List.getElem?_eq_some_iff.mp hs).1
  rw [List.length_map] at hg
  have := h.r4
  have hnd := hf.nd (by omega)
  constructor
  · refine ⟨by show 2 ≤ 30; decide, fun x hx => ?_⟩
    simp only [List.mem_cons, List.not_mem_nil, or_false] at hx
    rcases hx with rfl | rfl
    · exact ⟨by omega, by omega⟩
    · exact hf.pl (by omega) (by omega)
  · unfold mvV
    simp only [nds, ndsL, nds_nat] at hnd ⊢
    omega
theorem rw_pl (h : B.Ok) {r : Rw} (hr : r ∈ B.rows) : Pl 5 r.v ∧ nds r.v ≤ 100 := by
  have hm := (h.row r hr).many
  have hl3 := (lsx_ok _ h.ls).2.2.2
  have hl := (h.row r hr).len
  have ho := (h.row r hr).out.2.1 r.out (by simp)
  constructor
  · refine ⟨by show 3 ≤ 30; decide, fun x hx => ?_⟩
    simp only [List.mem_cons, List.not_mem_nil, or_false] at hx
    rcases hx with rfl | rfl | rfl
    · exact ⟨by omega, by omega⟩
    · refine ⟨by rw [List.length_map]; omega, fun x hx => ?_⟩
      obtain ⟨p, hp, rfl⟩ := List.mem_map.mp hx
      exact (mv_pl h hr hp).1
    · refine ⟨by rw [List.length_map]; have := ho.1; omega, fun x hx => ?_⟩
      obtain ⟨p, hp, rfl⟩ := List.mem_map.mp hx
      cases p with
      | t z => exact (pls_ok z (ho.2.1 z hp)).1
      | b k => have := ho.2.2 k hp; exact ⟨by omega, by omega⟩
  · have e : ndsL (r.moves.map mvV) ≤ (r.moves.map mvV).length * 28 := ndsL_le fun y hy => by
      obtain ⟨p, hp, rfl⟩ := List.mem_map.mp hy
      exact (mv_pl h hr hp).2
    rw [List.length_map] at e
    have e2 := ho.nd
    unfold Rw.v
    simp only [nds, ndsL, nds_nat]
    omega
theorem Bx.Ok.pl (h : B.Ok) : Pl 7 B.v := by
  refine ⟨by show 4 ≤ 30; decide, fun x hx => ?_⟩
  simp only [List.mem_cons, List.not_mem_nil, or_false] at hx
  rcases hx with rfl | rfl | rfl | rfl
  · exact box_up
  · exact (lsx_ok _ h.ls).1
  · have hb := h.beg
    have h0 : (B.rows.map (·.many)).headD 0 ≤ 5 := by
      cases hr : B.rows.map (·.many) with
      | nil => exact Nat.zero_le _
      | cons a r => have := h.many a (by rw [hr]; simp); show a ≤ 5; omega
    refine ⟨by rw [List.length_map]; omega, fun x hx => ?_⟩
    obtain ⟨p, hp, rfl⟩ := List.mem_map.mp hx
    exact (bgs_ok _ (h.bg p hp)).1
  · refine ⟨by rw [List.length_map]; have := h.r4; omega, fun x hx => ?_⟩
    obtain ⟨p, hp, rfl⟩ := List.mem_map.mp hx
    exact (rw_pl h hp).1
theorem Bx.Ok.nd (h : B.Ok) : nds B.v ≤ 1000 := by
  have e : ndsL (B.rows.map Rw.v) ≤ (B.rows.map Rw.v).length * 100 := ndsL_le fun y hy => by
    obtain ⟨p, hp, rfl⟩ := List.mem_map.mp hy
    exact (rw_pl h hp).2
  have e2 : ndsL (B.begun.map Vl.str) ≤ (B.begun.map Vl.str).length * 1 := ndsL_le fun y hy => by
    obtain ⟨p, hp, rfl⟩ := List.mem_map.mp hy
    rw [nds]; exact Nat.le_refl _; intro _ q; cases q
  have hb := h.beg
  have h0 : (B.rows.map (·.many)).headD 0 ≤ 5 := by
    cases hr : B.rows.map (·.many) with
    | nil => exact Nat.zero_le _
    | cons a r => have := h.many a (by rw [hr]; simp); show a ≤ 5; omega
  have := h.r4
  rw [List.length_map] at e e2
  unfold Bx.v
  simp only [nds, ndsL]
  omega
theorem isNum_nat {k n : Nat} (h : k < n) : isNum (natV k) (n : Int) = true := by
  show (decide (0 ≤ (k : Int)) && decide ((k : Int) < (n : Int))) = true
  rw [decide_eq_true (by omega), decide_eq_true (by omega)]; rfl
theorem bxs_pcs (ps : List Pc) : bxs (pcsV ps) = (bxN ps).map natV := by
  show (ps.map Pc.v).filter (fun v => !isStr v) = _
  induction ps with
  | nil => rfl
  | cons p ps ih =>
    cases p with
    | t z => exact ih
    | b k =>
      show natV k :: (ps.map Pc.v).filter (fun v => !isStr v) = natV k :: (bxN ps).map natV
      rw [ih]
theorem isFl_of {n size : Nat} {fl : List (List Pc)} (h : FlOk n size fl) : isFl n size (.tup (fl.map pcsV)) = true := by
  show (decide (((fl.map pcsV).length : Int) = (size : Int)) && (fl.map pcsV).all (arePcs n) && decide (usd (fl.map pcsV)).Nodup) = true
  have e1 : (fl.map pcsV).all (arePcs n) = true := by
    rw [List.all_map]
    refine List.all_eq_true.mpr fun ps hps => ?_
    show (ps.map Pc.v).all (isPc n) = true
    rw [List.all_map]
    refine List.all_eq_true.mpr fun p hp => ?_
    obtain ⟨_, h2, h3⟩ := h.2.1 ps hps
    cases p with
    | t z => show (isLtr (.str z) || isNum (.str z) (n : Int)) = true; rw [(pls_ok z (h2 z hp)).2.1]; rfl
    | b k => show (isLtr (natV k) || isNum (natV k) (n : Int)) = true; rw [isNum_nat (h3 k hp), Bool.or_true]
  have e2 : usd (fl.map pcsV) = (fl.flatMap bxN).map fun (k : Nat) => (k : Int) := by
    unfold usd
    rw [List.flatMap_map]
    have : (fl.flatMap fun a => bxs (pcsV a)) = (fl.flatMap bxN).map natV := by
      rw [List.map_flatMap]
      congr 1
      funext a
      exact bxs_pcs a
    rw [this, List.map_map]; rfl
  have e3 : (usd (fl.map pcsV)).Nodup := by
    rw [e2]
    exact List.pairwise_map.mpr (h.2.2.imp fun {a b} q => by omega)
  rw [e1, decide_eq_true e3, List.length_map, h.1, decide_eq_true rfl]; rfl
theorem szs_rows (rows : List Rw) : szs (rows.map Rw.v) = rows.map fun r => (r.many : Int) := by
  unfold szs
  rw [List.map_map]; rfl
theorem Bx.Ok.isBx (h : B.Ok) : isBx B.v = true := by
  unfold Bx.v
  obtain ⟨_, k2, k3, k4⟩ := lsx_ok _ h.ls
  rw [isBx_eq]
  have e1 : headOk (.str "boxes") (.str B.ls) (.tup (B.begun.map Vl.str)) (.tup (B.rows.map Rw.v)) = true := by
    unfold headOk
    rw [k2, show isB (.str "boxes") = true from by decide]
    show (true && (true && (true && (B.begun.map Vl.str).all isTx)) && (true && (decide (1 ≤ (B.rows.map Rw.v).length) && decide ((B.rows.map Rw.v).length ≤ 400)))) = true
    have e : (B.begun.map Vl.str).all isTx = true := by
      rw [List.all_map]
      exact List.all_eq_true.mpr fun z hz => (bgs_ok z (h.bg z hz)).2.1
    rw [e, List.length_map, decide_eq_true h.r1, decide_eq_true (show B.rows.length ≤ 400 by have := h.r4; omega)]; rfl
  have e2 : formsOk (.str B.ls) (.tup (B.begun.map Vl.str)) (.tup (B.rows.map Rw.v)) = true := by
    show ((B.rows.map Rw.v).all (isForm B.ls.length) && decide ((szs (B.rows.map Rw.v)).headD 0 = (((B.begun.map Vl.str).length : Nat) : Int))) = true
    have e : (B.rows.map Rw.v).all (isForm B.ls.length) = true := by
      rw [List.all_map]
      refine List.all_eq_true.mpr fun r hr => ?_
      show (isNum (natV r.many) 61 && (true && decide ((r.moves.map mvV).length = B.ls.length))) = true
      have := (h.row r hr).many
      rw [show (61 : Int) = ((61 : Nat) : Int) from rfl, isNum_nat (by omega), List.length_map, (h.row r hr).len, decide_eq_true rfl]; rfl
    have e3 : (szs (B.rows.map Rw.v)).headD 0 = (((B.begun.map Vl.str).length : Nat) : Int) := by
      rw [szs_rows, List.length_map, h.beg]
      cases B.rows <;> rfl
    rw [e, decide_eq_true e3]; rfl
  rw [e1, e2]
  show (true && true && (B.rows.map Rw.v).all (isRw (szs (B.rows.map Rw.v)))) = true
  rw [Bool.true_and, Bool.true_and, List.all_map, szs_rows]
  refine List.all_eq_true.mpr fun r hr => ?_
  show (isFl r.many 1 (.tup [pcsV r.out]) && (r.moves.map mvV).all (isMv r.many (B.rows.map fun r => (r.many : Int)))) = true
  have e3 := isFl_of (h.row r hr).out
  have e4 : isFl (r.many : Int) 1 (.tup [pcsV r.out]) = true := e3
  rw [e4, Bool.true_and, List.all_map]
  refine List.all_eq_true.mpr fun p hp => ?_
  obtain ⟨s, hs, hf⟩ := (h.row r hr).mv p hp
  have hg := (List.getElem?_eq_some_iff.mp hs).1
  rw [List.length_map] at hg
  rw [List.getElem?_map] at hs
  show (isNum (natV p.1) ((B.rows.map fun r => (r.many : Int)).length : Nat) && isFl r.many ((B.rows.map fun r => (r.many : Int)).getD ((p.1 : Int)).toNat 0) (.tup (p.2.map pcsV))) = true
  have e5 : (B.rows.map fun r => (r.many : Int)).getD ((p.1 : Int)).toNat 0 = (s : Int) := by
    rw [Int.toNat_natCast, List.getD_eq_getElem?_getD, List.getElem?_map]
    cases hq : B.rows[p.1]? with
    | none => rw [hq] at hs; cases hs
    | some q => rw [hq] at hs; cases hs; rfl
  rw [List.length_map, isNum_nat hg, e5, isFl_of hf]; rfl
theorem Bx.Ok.gd (h : B.Ok) {lo : Nat} {S : Sto} : Good lo S B.v := h.pl.good
end
end G

set_option linter.all false
set_option maxRecDepth 100000
set_option maxHeartbeats 4000000
namespace G
open PySem PySem.Spec PyProof.Rows L2 Q

/-! ### what is filled, and where a text leads -/
theorem join_len (zs : List Str) : (Txt.join "" zs).length = (zs.map (·.length)).sum := by
  have key : ∀ L : List (List Nat), TL.joinL [] L = L.flatten := by
    intro L
    induction L with
    | nil => rfl
    | cons p L ih =>
      cases L with
      | nil => simp [TL.joinL]
      | cons q r => rw [TL.joinL, ih]; simp
  rw [← len_cps]
  have e : (Txt.join "" zs).cps.toList = (zs.map fun z => z.cps.toList).flatten := by
    show TL.tl (Txt.join "" zs) = _
    rw [TL.join_eq, TL.tl_join]
    show TL.joinL [] _ = _
    rw [key]
  rw [e, List.length_flatten, List.map_map]
  congr 1
theorem sum_le {b : Nat} : ∀ {ns : List Nat}, (∀ n ∈ ns, n ≤ b) → ns.sum ≤ ns.length * b
  | [], _ => Nat.zero_le _
  | n :: ns, h => by
    have ih := sum_le (ns := ns) fun m hm => h m (List.mem_cons_of_mem _ hm)
    have := h n List.mem_cons_self
    rw [List.sum_cons, List.length_cons, Nat.succ_mul]; omega
def tx (ts : List Str) : Pc → Str
  | .t z => z
  | .b k => ts.getD k ""
def fil (ts : List Str) (ps : List Pc) : Str := Txt.join "" (ps.map (tx ts))
/-- the texts within bounds -/
def TsOk (n b : Nat) (ts : List Str) : Prop := ts.length = n ∧ ∀ z ∈ ts, z.length ≤ b
theorem tx_len {n b : Nat} {ts : List Str} (h : TsOk n b ts) (hb : 1 ≤ b) {ps : List Pc} (hp : PcsOk n ps) {p : Pc} (hm : p ∈ ps) : (tx ts p).length ≤ b := by
  cases p with
  | t z => have := (pls_ok z (hp.2.1 z hm)).2.2; show z.length ≤ b; omega
  | b k =>
    have hk := hp.2.2 k hm
    have hk2 : k < ts.length := by rw [h.1]; exact hk
    show (ts.getD k "").length ≤ b
    rw [List.getD_eq_getElem?_getD, List.getElem?_eq_getElem hk2]
    exact h.2 _ (List.getElem_mem hk2)
theorem fil_sum {n b : Nat} {ts : List Str} (h : TsOk n b ts) (hb : 1 ≤ b) {ps : List Pc} (hp : PcsOk n ps) : ((ps.map (tx ts)).map (·.length)).sum ≤ 4 * b := by
  have h1 := sum_le (b := b) (ns := (ps.map (tx ts)).map (·.length)) fun k hk => by
    obtain ⟨z, hz, rfl⟩ := List.mem_map.mp hk
    obtain ⟨p, hm, rfl⟩ := List.mem_map.mp hz
    exact tx_len h hb hp hm
  rw [List.length_map, List.length_map] at h1
  exact Nat.le_trans h1 (Nat.mul_le_mul_right _ hp.1)
theorem fil_len {n b : Nat} {ts : List Str} (h : TsOk n b ts) (hb : 1 ≤ b) {ps : List Pc} (hp : PcsOk n ps) : (fil ts ps).length ≤ 4 * b := by
  unfold fil
  rw [join_len]
  exact fil_sum h hb hp
theorem fil_run {C L : Nat → List Vl → Q.M Vl} {S : Sto} {n b k : Nat} {ts : List Str} {ps : List Pc} (h : TsOk n b ts) (hb : 1 ≤ b) (hb2 : b ≤ 100000) (hp : PcsOk n ps) (hn : n ≤ 5) (hk : k < S.n) (ha : S.at_ k = .lst (ts.map Vl.str)) : wpe (runF 3 2 (b_filled C L) [pcsV ps, .ref k] S) noE fun r S' => r = .str (fil ts ps) ∧ Gr 0 S S' := by
  refine w_run rfl ?_
  unfold b_filled
  refine a_ret (a_met (a_c ⟨rfl, ?_⟩))
  refine a_cons ?_
  refine w_lcmap ?_
  rw [w_it]
  refine a_slot ⟨_, rfl, .inl ⟨ps.map Pc.v, rfl, ps.map Pc.v, (ps.map (tx ts)).map Vl.str, by simp, by rw [List.length_map]; have := hp.1; omega, fun j S2 _ _ => rfl, fun i x y S2 hx hy g => ?_, fun S2 g h1 h2 => ?_⟩⟩
  · refine ⟨_, rfl, ?_⟩
    rw [w_true]
    refine ⟨rfl, Gr.refl, ?_⟩
    rw [List.getElem?_map] at hx
    rw [List.getElem?_map, List.getElem?_map] at hy
    cases hq : ps[i]? with
    | none => rw [hq] at hx; cases hx
    | some p =>
      rw [hq] at hx hy
      cases hx; cases hy
      have hm := List.mem_of_getElem? hq
      show wpe (mIte (mTst (mBi bIsi (mCons (mSlot 2) (mCons (mC (.ty "str")) mNil)))) (mSlot 2) (mBin bSub' (mSlot 1) (mSlot 2)) [some (pcsV ps), some (.ref k), some p.v] S2) noE _
      refine a_ite (a_tst (a_bi (a_cons (a_slot ⟨_, rfl, a_cons (a_c (a_nil ?_))⟩))))
      cases p with
      | t z =>
        rw [o_isStr (t := "str") rfl]
        exact ⟨_, rfl, ifp rfl (a_slot ⟨_, rfl, rfl, Gr.refl⟩)⟩
      | b j =>
        have hj := hp.2.2 j hm
        have hj2 : j < ts.length := by rw [h.1]; exact hj
        rw [o_isStr (t := "int") rfl]
        refine ⟨_, rfl, ifn rfl (a_bin (a_slot ⟨_, rfl, a_slot ⟨_, rfl, ?_⟩⟩))⟩
        have a2 := (g.at_ _ (Nat.zero_le _) hk).trans ha
        rw [show (Pc.b j).v = .int (j : Int) from rfl, o_atl (v := .str ts[j]) (getR_l a2) (by rw [List.getElem?_map, List.getElem?_eq_getElem hj2]; rfl) (by omega) (by unfold getD; rw [a2])]
        refine ⟨?_, Gr.refl⟩
        show _ = Vl.str (ts.getD j "")
        rw [List.getD_eq_getElem?_getD, List.getElem?_eq_getElem hj2]; rfl
  · refine a_nil ?_
    have hs := fil_sum h hb hp
    rw [o_joinl h2 (by omega)]
    exact ⟨rfl, g⟩
end G

set_option linter.all false
set_option maxRecDepth 100000
set_option maxHeartbeats 4000000
namespace G
open PySem PySem.Spec PyProof.Rows L2 Q

def mvAt (B : Bx) (row c : Nat) : Nat × List (List Pc) := (((B.rows[row]?.map (·.moves)).getD [])[B.ls.cps.toList.idxOf c]?).getD (0, [])
def manyAt (B : Bx) (row : Nat) : Nat := (B.rows[row]?.map (·.many)).getD 0
def stepB (B : Bx) (st : Nat × List Str) (c : Nat) : Nat × List Str := ((mvAt B st.1 c).1, (mvAt B st.1 c).2.map (fil st.2))
def contB (B : Bx) (cs : List Nat) : Nat × List Str := cs.foldl (stepB B) (0, B.begun)
structure InvB (B : Bx) (b : Nat) (st : Nat × List Str) : Prop where
  lt : st.1 < B.rows.length
  ts : TsOk (manyAt B st.1) b st.2
theorem idx_at {cs : List Nat} {c : Nat} (h : c ∈ cs) : cs[cs.idxOf c]? = some c ∧ ∀ i, i < cs.idxOf c → cs[i]? ≠ some c := by
  constructor
  · have hl := List.idxOf_lt_length_iff.mpr h
    rw [List.getElem?_eq_getElem hl, List.getElem_idxOf hl]
  · intro i hi e
    obtain ⟨hi2, e2⟩ := List.getElem?_eq_some_iff.mp e
    have := List.not_of_lt_findIdx (p := fun x => x == c) (xs := cs) (i := i) hi
    rw [e2] at this
    simp at this
section
variable {B : Bx}
theorem many_at (h : B.Ok) {row : Nat} (hr : row < B.rows.length) : manyAt B row = B.rows[row].many ∧ manyAt B row < 5 := by
  have e : manyAt B row = B.rows[row].many := by unfold manyAt; rw [List.getElem?_eq_getElem hr]; rfl
  exact ⟨e, by rw [e]; exact (h.row _ (List.getElem_mem hr)).many⟩
theorem mv_facts (h : B.Ok) {row c : Nat} (hr : row < B.rows.length) (hc : c ∈ B.ls.cps.toList) : B.rows[row].moves[B.ls.cps.toList.idxOf c]? = some (mvAt B row c) ∧ (mvAt B row c).1 < B.rows.length ∧ FlOk (manyAt B row) (manyAt B (mvAt B row c).1) (mvAt B row c).2 := by
  have ok := h.row _ (List.getElem_mem hr)
  have hi : B.ls.cps.toList.idxOf c < B.rows[row].moves.length := by
    rw [ok.len, ← len_cps]
    exact List.idxOf_lt_length_iff.mpr hc
  have e : mvAt B row c = B.rows[row].moves[B.ls.cps.toList.idxOf c] := by
    unfold mvAt
    rw [List.getElem?_eq_getElem hr]
    show ((B.rows[row].moves)[B.ls.cps.toList.idxOf c]?).getD (0, []) = _
    rw [List.getElem?_eq_getElem hi]; rfl
  obtain ⟨s, hs, hf⟩ := ok.mv _ (List.getElem_mem hi)
  rw [← e] at hs hf
  have hg := (List.getElem?_eq_some_iff.mp hs).1
  rw [List.length_map] at hg
  refine ⟨by rw [e, List.getElem?_eq_getElem hi], hg, ?_⟩
  rw [(many_at h hr).1]
  have es : manyAt B (mvAt B row c).1 = s := by
    unfold manyAt
    rw [← List.getElem?_map, hs]; rfl
  rw [es]; exact hf
theorem step_inv (h : B.Ok) {b : Nat} (hb : 1 ≤ b) {st : Nat × List Str} (v : InvB B b st) {c : Nat} (hc : c ∈ B.ls.cps.toList) : InvB B (4 * b) (stepB B st c) := by
  obtain ⟨_, h2, h3⟩ := mv_facts h v.lt hc
  refine ⟨h2, by show ((mvAt B st.1 c).2.map (fil st.2)).length = _; rw [List.length_map]; exact h3.1, fun z hz => ?_⟩
  obtain ⟨ps, hps, rfl⟩ := List.mem_map.mp hz
  exact fil_len v.ts hb (h3.2.1 ps hps)
theorem cont_inv (h : B.Ok) : ∀ (cs : List Nat), (∀ c ∈ cs, c ∈ B.ls.cps.toList) → ∀ {b : Nat} {st : Nat × List Str}, 1 ≤ b → InvB B b st → InvB B (4 ^ cs.length * b) (cs.foldl (stepB B) st)
  | [], _, b, st, _, v => by rw [List.length_nil, Nat.pow_zero, Nat.one_mul]; exact v
  | c :: cs, hc, b, st, hb, v => by
    have := cont_inv h cs (fun d hd => hc d (List.mem_cons_of_mem _ hd)) (b := 4 * b) (by omega) (step_inv h hb v (hc c List.mem_cons_self))
    rw [List.length_cons, Nat.pow_succ, Nat.mul_assoc]
    exact this
theorem beg_inv (h : B.Ok) : InvB B 2 (0, B.begun) := by
  refine ⟨h.r1, ?_, fun z hz => (bgs_ok z (h.bg z hz)).2.2⟩
  show B.begun.length = manyAt B 0
  rw [h.beg]
  unfold manyAt
  cases B.rows <;> rfl
theorem pre_inv (h : B.Ok) {cs : List Nat} (hc : ∀ c ∈ cs, c ∈ B.ls.cps.toList) (hl : cs.length ≤ 6) (i : Nat) : InvB B 10000 (contB B (cs.take i)) := by
  have v := cont_inv h (cs.take i) (fun c hc2 => hc c (List.mem_of_mem_take hc2)) (b := 2) (by decide) (beg_inv h)
  have hp : 4 ^ (cs.take i).length * 2 ≤ 10000 := by
    have : 4 ^ (cs.take i).length ≤ 4 ^ 6 := Nat.pow_le_pow_right (by decide) (by rw [List.length_take]; omega)
    omega
  exact ⟨v.lt, v.ts.1, fun z hz => Nat.le_trans (v.ts.2 z hz) hp⟩
theorem look_w (h : B.Ok) {ρ : En} {S : Sto} {E : XP} {Z : Vl → Sto → Prop} {r l row c : Nat} {rv : Vl} (h0 : ρ[0]? = some (some B.v)) (hr : ρ[r]? = some (some rv)) (hrv : rv = natV row) (hl : ρ[l]? = some (some (.str ⟨#[c]⟩))) (hrow : row < B.rows.length) (hc : c ∈ B.ls.cps.toList) (hZ : Z (mvV (mvAt B row c)) S) :
    wpe (mBin bSub' (mBin bSub' (mBin bSub' (mBin bSub' (mSlot 0) (mC (.int 3))) (mSlot r)) (mC (.int 1))) (mMet "str" mtIndexS (mBin bSub' (mSlot 0) (mC (.int 1))) (mCons (mSlot l) mNil)) ρ S) E Z := by
  have e3 : ∀ Z : Vl → Sto → Prop, wpo (bSub' B.v (.int 3) S) Z = Z (.tup (B.rows.map Rw.v)) S := fun Z => o_at (k := 3) (xs := [.str "boxes", .str B.ls, .tup (B.begun.map Vl.str), .tup (B.rows.map Rw.v)]) rfl (by decide)
  have e1 : ∀ Z : Vl → Sto → Prop, wpo (bSub' B.v (.int 1) S) Z = Z (.str B.ls) S := fun Z => o_at (k := 1) (xs := [.str "boxes", .str B.ls, .tup (B.begun.map Vl.str), .tup (B.rows.map Rw.v)]) rfl (by decide)
  have r4 := h.r4
  obtain ⟨f1, f2, f3⟩ := mv_facts h hrow hc
  obtain ⟨i1, i2⟩ := idx_at hc
  have hil := List.idxOf_lt_length_iff.mpr hc
  rw [len_cps] at hil
  have hl3 := (lsx_ok _ h.ls).2.2.2
  refine a_bin (a_bin (a_bin (a_bin (a_slot ⟨_, h0, a_c ?_⟩))))
  rw [e3]
  refine a_slot ⟨_, hr, ?_⟩
  rw [hrv]
  unfold natV
  rw [o_at (v := B.rows[row].v) (by rw [List.getElem?_map, List.getElem?_eq_getElem hrow]; rfl) (by omega)]
  refine a_c ?_
  refine g_at1 ?_
  refine a_met (a_bin (a_slot ⟨_, h0, a_c ?_⟩))
  rw [e1]
  refine ⟨rfl, a_cons (a_slot ⟨_, hl, a_nil ?_⟩)⟩
  rw [o_index i1 i2]
  rw [o_at (v := mvV (mvAt B row c)) (by rw [List.getElem?_map, f1]; rfl) (by omega)]
  exact hZ
theorem fils_w (h : B.Ok) {F : List Vl → Q.M Vl} {ρ : En} {S : Sto} {E : XP} {Z : Vl → Sto → Prop} {s k row c : Nat} {fv : Vl} {ts : List Str} (hF : ∀ ps S1, PcsOk (manyAt B row) ps → k < S1.n → S1.at_ k = .lst (ts.map Vl.str) → wpe (F [pcsV ps, .ref k] S1) noE fun r S' => r = .str (fil ts ps) ∧ Gr 0 S1 S')
    (hfv : fv = .tup ((mvAt B row c).2.map pcsV)) (h5 : ρ[5]? = some (some fv)) (hs : ρ[s]? = some (some (.ref k))) (hs6 : s ≠ 6) (hl6 : 6 < ρ.length) (hrow : row < B.rows.length) (hc : c ∈ B.ls.cps.toList) (hk : k < S.n) (ha : S.at_ k = .lst (ts.map Vl.str))
    (hZ : ∀ S', S.n < S'.n → S'.at_ S.n = .lst (((mvAt B row c).2.map (fil ts)).map Vl.str) → Gr 0 S S' → Z (.ref S.n) S') :
    wpe (mLc (mIt (mSlot 5)) (.nm 6) mTrue (mCall F [] (mCons (mSlot 6) (mCons (mSlot s) mNil))) [6] ρ S) E Z := by
  obtain ⟨f1, f2, f3⟩ := mv_facts h hrow hc
  have f2' := (many_at h f2).2
  refine w_lcmap ?_
  rw [w_it]
  refine a_slot ⟨_, h5, .inl ⟨_, hfv, (mvAt B row c).2.map pcsV, ((mvAt B row c).2.map (fil ts)).map Vl.str, by simp, by rw [List.length_map, f3.1]; omega, fun j S2 _ _ => rfl, fun i x y S2 hx hy g => ?_, fun S2 g h1 h2 => hZ S2 h1 h2 g⟩⟩
  refine ⟨_, rfl, ?_⟩
  rw [w_true]
  refine ⟨rfl, Gr.refl, ?_⟩
  rw [List.getElem?_map] at hx
  rw [List.getElem?_map, List.getElem?_map] at hy
  cases hq : (mvAt B row c).2[i]? with
  | none => rw [hq] at hx; cases hx
  | some ps =>
    rw [hq] at hx hy
    cases hx; cases hy
    have hm := List.mem_of_getElem? hq
    have hl2 : 6 < (wipeE ρ [6]).length := by show 6 < (ρ.set 6 none).length; rw [List.length_set]; exact hl6
    refine a_call (a_cons (a_slot ⟨_, List.getElem?_set_self hl2, a_cons (a_slot ⟨.ref k, ?_, a_nil ?_⟩)⟩))
    · rw [List.getElem?_set_ne (Ne.symm hs6)]
      show (ρ.set 6 none)[s]? = _
      rw [List.getElem?_set_ne (Ne.symm hs6)]
      exact hs
    · exact hF ps S2 (f3.2.1 ps hm) (Nat.lt_of_lt_of_le hk g.n) ((g.at_ _ (Nat.zero_le _) hk).trans ha)
end
end G

set_option linter.all false
set_option maxRecDepth 100000
set_option maxHeartbeats 4000000
namespace G
open PySem PySem.Spec PyProof.Rows L2 Q

section
variable {B : Bx} {n : Nat} {S : Sto} {C : Nat → List Vl → Q.M Vl}
def OverB (B : Bx) (w : Str) : Prop := ∀ c ∈ w.cps.toList, c ∈ B.ls.cps.toList
theorem filled_w (hC : C = (lev (n + 1)).1) {m b k : Nat} {ts : List Str} {ps : List Pc} (h : TsOk m b ts) (hb : 1 ≤ b) (hb2 : b ≤ 100000) (hp : PcsOk m ps) (hn : m ≤ 5) (hk : k < S.n) (ha : S.at_ k = .lst (ts.map Vl.str)) : wpe (C 12 [pcsV ps, .ref k] S) noE fun r S' => r = .str (fil ts ps) ∧ Gr 0 S S' := by
  rw [hC, lv_filled]
  exact fil_run h hb hb2 hp hn hk ha
theorem jn_filled_w (hC : C = (lev (n + 1)).1) {m b k : Nat} {ts : List Str} {ps : List Pc} (h : TsOk m b ts) (hb : 1 ≤ b) (hb2 : b ≤ 100000) (hp : PcsOk m ps) (hn : m ≤ 5) (hk : k < S.n) (ha : S.at_ k = .lst (ts.map Vl.str)) : wpe (C 33 [pcsV ps, .ref k] S) noE fun r S' => r = .str (fil ts ps) ∧ Gr 0 S S' := by
  rw [hC, lv__law_jn_filled]
  exact fil_run (C := (lev n).1) (L := (lev n).2.2) h hb hb2 hp hn hk ha
theorem moved_w (hB : B.Ok) (hC : C = (lev (n + 2)).1) {k c : Nat} {st : Nat × List Str} {rv : Vl} (hrv : rv = natV st.1) (v : InvB B 10000 st) (hc : c ∈ B.ls.cps.toList) (hk : k < S.n) (ha : S.at_ k = .lst (st.2.map Vl.str)) :
    wpe (C 13 [B.v, rv, .ref k, .str ⟨#[c]⟩] S) noE fun r S' => r = .tup [natV (stepB B st c).1, .ref S.n] ∧ S.n < S'.n ∧ S'.at_ S.n = .lst ((stepB B st c).2.map Vl.str) ∧ Gr 0 S S' := by
  rw [hC, lv_moved_on]
  with_reducible refine w_run rfl ?_
  unfold b_moved_on
  obtain ⟨C1, hC1⟩ : ∃ C1, C1 = (lev (n + 1)).1 := ⟨_, rfl⟩
  rw [← hC1]
  have h5 := (many_at hB v.lt).2
  refine a_let2 ?_
  refine look_w hB (row := st.1) (c := c) rfl rfl hrv rfl v.lt hc ?_
  refine ⟨_, _, rfl, ?_⟩
  show wps (sRet _ [some B.v, some rv, some (.ref k), some (.str ⟨#[c]⟩), some (natV (mvAt B st.1 c).1), some (.tup ((mvAt B st.1 c).2.map pcsV)), none] S) _
  refine a_ret (a_tup (a_cons (a_slot ⟨_, rfl, a_cons ?_⟩)))
  refine fils_w hB (row := st.1) (c := c) (ts := st.2) (k := k) (fun ps S1 hp l a => filled_w hC1 v.ts (by decide) (by decide) hp (by omega) l a) rfl rfl rfl (by decide) (by show 6 < 7; decide) v.lt hc hk ha fun S1 n1 a1 g1 => ?_
  exact a_nil ⟨by show 2 ≤ sizeLine; decide, rfl, n1, a1, g1⟩
theorem contents_w (hB : B.Ok) (hC : C = (lev (n + 3)).1) {w : Str} (hw : OverB B w) (hl : w.length ≤ 6) :
    wpe (C 14 [B.v, .str w] S) noE fun r S' => ∃ k, r = .tup [natV (contB B w.cps.toList).1, .ref k] ∧ S.n ≤ k ∧ k < S'.n ∧ S'.at_ k = .lst ((contB B w.cps.toList).2.map Vl.str) ∧ Gr 0 S S' := by
  rw [hC, lv_contents_of]
  with_reducible refine w_run rfl ?_
  unfold b_contents_of
  obtain ⟨C1, hC1⟩ : ∃ C1, C1 = (lev (n + 2)).1 := ⟨_, rfl⟩
  rw [← hC1]
  have hl6 : w.cps.toList.length ≤ 6 := by rw [len_cps]; exact hl
  have e2 : ∀ Z : Vl → Sto → Prop, wpo (bSub' B.v (.int 2) S) Z = Z (.tup (B.begun.map Vl.str)) S := fun Z => o_at (k := 2) (xs := [.str "boxes", .str B.ls, .tup (B.begun.map Vl.str), .tup (B.rows.map Rw.v)]) rfl (by decide)
  refine a_pars (a_cons (a_c (a_cons (a_bi (a_cons (a_bin (a_slot ⟨_, rfl, a_c ?_⟩)))))))
  rw [e2]
  refine a_nil ?_
  rw [o_listt]
  refine a_nil ⟨rfl, ?_⟩
  show wps (sSeq _ _ [some B.v, some (.str w), none, some (natV 0), some (.ref S.n)] (S.push (.lst (B.begun.map Vl.str)))) _
  refine s_cut (fun ρ S1 => ∃ last rv k, ρ = [some B.v, some (.str w), last, some rv, some (.ref k)] ∧ rv = natV (contB B w.cps.toList).1 ∧ S.n ≤ k ∧ k < S1.n ∧ S1.at_ k = .lst ((contB B w.cps.toList).2.map Vl.str) ∧ Gr 0 S S1) ?_ ?_
  · refine s_for ?_
    rw [w_it]
    refine a_slot ⟨_, rfl, .inr (.inr ⟨w, rfl, chV w, fun i ρ S1 => ∃ last rv k, ρ = [some B.v, some (.str w), last, some rv, some (.ref k)] ∧ rv = natV (contB B (w.cps.toList.take i)).1 ∧ S.n ≤ k ∧ k < S1.n ∧ S1.at_ k = .lst ((contB B (w.cps.toList.take i)).2.map Vl.str) ∧ Gr 0 S S1, ⟨none, natV 0, S.n, rfl, rfl, Nat.le_refl _, Nat.lt_succ_self _, push_same, Gr.push⟩, fun i ρ S3 _ _ => nxS_at, ?_, ?_⟩)⟩
    · rintro i x ρ S1 hx ⟨last, rv, k, rfl, hrv, k1, k2, k3, g1⟩
      unfold chV at hx
      rw [List.getElem?_map] at hx
      cases hc : w.cps.toList[i]? with
      | none => rw [hc] at hx; cases hx
      | some c =>
        rw [hc] at hx
        cases hx
        have hm := hw c (List.mem_of_getElem? hc)
        refine a_gnm ?_
        show wps (sAsg _ _ [some B.v, some (.str w), some (.str ⟨#[c]⟩), some rv, some (.ref k)] S1) _
        refine s_asg2 ?_
        refine a_call (a_cons (a_slot ⟨_, rfl, a_cons (a_slot ⟨_, rfl, a_cons (a_slot ⟨_, rfl, a_cons (a_slot ⟨_, rfl, a_nil ?_⟩)⟩)⟩)⟩))
        refine wpe_mono (moved_w hB hC1 hrv (pre_inv hB hw hl6 i) hm k2 k3) ?_ (fun _ _ _ _ z => z.elim)
        rintro _ S2 ⟨rfl, n2, a2, g2⟩
        refine ⟨_, _, rfl, _, _, _, rfl, ?_, Nat.le_trans k1 (Nat.le_of_lt (Nat.lt_of_lt_of_le k2 (Nat.le_refl _))), n2, ?_, g1.trans g2⟩
        · rw [take_snoc hc]
          unfold contB
          rw [List.foldl_append]; rfl
        · rw [a2, take_snoc hc]
          unfold contB
          rw [List.foldl_append]; rfl
    · rintro ρ S1 ⟨last, rv, k, rfl, hrv, k1, k2, k3, g1⟩
      rw [chV_len, ← len_cps, List.take_length] at hrv k3
      exact ⟨last, rv, k, rfl, hrv, k1, k2, k3, g1⟩
  · rintro _ S1 ⟨last, rv, k, rfl, hrv, k1, k2, k3, g1⟩
    refine a_ret (a_tup (a_cons (a_slot ⟨_, rfl, a_cons (a_slot ⟨_, rfl, a_nil ⟨by show 2 ≤ sizeLine; decide, k, by rw [hrv], k1, k2, k3, g1⟩⟩)⟩)))
theorem jn_contents_w (hB : B.Ok) (hC : C = (lev (n + 2)).1) {w : Str} (hw : OverB B w) (hl : w.length ≤ 6) :
    wpe (C 34 [B.v, .str w] S) noE fun r S' => ∃ k, r = .tup [natV (contB B w.cps.toList).1, .ref k] ∧ S.n ≤ k ∧ k < S'.n ∧ S'.at_ k = .lst ((contB B w.cps.toList).2.map Vl.str) ∧ Gr 0 S S' := by
  rw [hC, lv__law_jn_contents]
  with_reducible refine w_run rfl ?_
  unfold b__law_jn_contents
  obtain ⟨C1, hC1⟩ : ∃ C1, C1 = (lev (n + 1)).1 := ⟨_, rfl⟩
  rw [← hC1]
  have hl6 : w.cps.toList.length ≤ 6 := by rw [len_cps]; exact hl
  have e2 : ∀ Z : Vl → Sto → Prop, wpo (bSub' B.v (.int 2) S) Z = Z (.tup (B.begun.map Vl.str)) S := fun Z => o_at (k := 2) (xs := [.str "boxes", .str B.ls, .tup (B.begun.map Vl.str), .tup (B.rows.map Rw.v)]) rfl (by decide)
  refine a_let2 (a_tup (a_cons (a_c (a_cons (a_bi (a_cons (a_bin (a_slot ⟨_, rfl, a_c ?_⟩))))))))
  rw [e2]
  refine a_nil ?_
  rw [o_listt]
  refine a_nil ⟨by show 2 ≤ sizeLine; decide, _, _, rfl, ?_⟩
  show wps (sSeq _ _ [some B.v, some (.str w), none, some (natV 0), some (.ref S.n), none, none] (S.push (.lst (B.begun.map Vl.str)))) _
  refine s_cut (fun ρ S1 => ∃ last rv k b5 b6, ρ = [some B.v, some (.str w), last, some rv, some (.ref k), b5, b6] ∧ rv = natV (contB B w.cps.toList).1 ∧ S.n ≤ k ∧ k < S1.n ∧ S1.at_ k = .lst ((contB B w.cps.toList).2.map Vl.str) ∧ Gr 0 S S1) ?_ ?_
  · refine s_for ?_
    rw [w_it]
    refine a_slot ⟨_, rfl, .inr (.inr ⟨w, rfl, chV w, fun i ρ S1 => ∃ last rv k b5 b6, ρ = [some B.v, some (.str w), last, some rv, some (.ref k), b5, b6] ∧ rv = natV (contB B (w.cps.toList.take i)).1 ∧ S.n ≤ k ∧ k < S1.n ∧ S1.at_ k = .lst ((contB B (w.cps.toList.take i)).2.map Vl.str) ∧ Gr 0 S S1, ⟨none, natV 0, S.n, none, none, rfl, rfl, Nat.le_refl _, Nat.lt_succ_self _, push_same, Gr.push⟩, fun i ρ S3 _ _ => nxS_at, ?_, ?_⟩)⟩
    · rintro i x ρ S1 hx ⟨last, rv, k, b5, b6, rfl, hrv, k1, k2, k3, g1⟩
      unfold chV at hx
      rw [List.getElem?_map] at hx
      cases hc : w.cps.toList[i]? with
      | none => rw [hc] at hx; cases hx
      | some c =>
        rw [hc] at hx
        cases hx
        have hm := hw c (List.mem_of_getElem? hc)
        have v := pre_inv hB hw hl6 i
        have h5 := (many_at hB v.lt).2
        refine a_gnm ?_
        show wps (sSeq _ _ [some B.v, some (.str w), some (.str ⟨#[c]⟩), some rv, some (.ref k), b5, b6] S1) _
        refine a_let2 ?_
        refine look_w hB (row := (contB B (w.cps.toList.take i)).1) (c := c) rfl rfl hrv rfl v.lt hm ?_
        refine ⟨_, _, rfl, ?_⟩
        show wps (sAsg _ _ [some B.v, some (.str w), some (.str ⟨#[c]⟩), some (natV (mvAt B (contB B (w.cps.toList.take i)).1 c).1), some (.ref k), some (.tup ((mvAt B (contB B (w.cps.toList.take i)).1 c).2.map pcsV)), b6] S1) _
        refine a_set ?_
        refine fils_w hB (row := (contB B (w.cps.toList.take i)).1) (c := c) (ts := (contB B (w.cps.toList.take i)).2) (k := k) (fun ps S1 hp l a => jn_filled_w hC1 v.ts (by decide) (by decide) hp (by omega) l a) rfl rfl rfl (by decide) (by show 6 < 7; decide) v.lt hm k2 k3 fun S2 n2 a2 g2 => ?_
        refine ⟨_, _, _, _, _, rfl, ?_, Nat.le_trans k1 (Nat.le_of_lt k2), n2, ?_, g1.trans g2⟩
        · rw [take_snoc hc]
          unfold contB
          rw [List.foldl_append]; rfl
        · rw [a2, take_snoc hc]
          unfold contB
          rw [List.foldl_append]; rfl
    · rintro ρ S1 ⟨last, rv, k, b5, b6, rfl, hrv, k1, k2, k3, g1⟩
      rw [chV_len, ← len_cps, List.take_length] at hrv k3
      exact ⟨last, rv, k, b5, b6, rfl, hrv, k1, k2, k3, g1⟩
  · rintro _ S1 ⟨last, rv, k, b5, b6, rfl, hrv, k1, k2, k3, g1⟩
    refine a_ret (a_tup (a_cons (a_slot ⟨_, rfl, a_cons (a_slot ⟨_, rfl, a_nil ⟨by show 2 ≤ sizeLine; decide, k, by rw [hrv], k1, k2, k3, g1⟩⟩)⟩)))
end
end G

set_option linter.all false
set_option maxRecDepth 100000
set_option maxHeartbeats 4000000
namespace G
open PySem PySem.Spec PyProof.Rows L2 Q

def outAt (B : Bx) (row : Nat) : List Pc := (B.rows[row]?.map (·.out)).getD []
def wrB (B : Bx) (w : Str) : Str := fil (contB B w.cps.toList).2 (outAt B (contB B w.cps.toList).1)
abbrev badE (S : Sto) (x : Str) : XP := fun c g w S' => c = x ∧ g = "" ∧ w = .non ∧ Gr 0 S S'
section
variable {B : Bx} {n lo : Nat} {S : Sto} {C : Nat → List Vl → Q.M Vl}
theorem out_facts (h : B.Ok) {row : Nat} (hr : row < B.rows.length) : PcsOk (manyAt B row) (outAt B row) ∧ outAt B row = B.rows[row].out := by
  have e : outAt B row = B.rows[row].out := by unfold outAt; rw [List.getElem?_eq_getElem hr]; rfl
  refine ⟨?_, e⟩
  rw [e, (many_at h hr).1]
  exact (h.row _ (List.getElem_mem hr)).out.2.1 _ (by simp)
theorem out_w (h : B.Ok) {ρ : En} {S : Sto} {E : XP} {Z : Vl → Sto → Prop} {r row : Nat} {rv : Vl} (h0 : ρ[0]? = some (some B.v)) (hr : ρ[r]? = some (some rv)) (hrv : rv = natV row) (hrow : row < B.rows.length) (hZ : Z (pcsV (outAt B row)) S) :
    wpe (mBin bSub' (mBin bSub' (mBin bSub' (mSlot 0) (mC (.int 3))) (mSlot r)) (mC (.int 2)) ρ S) E Z := by
  have e3 : ∀ Z : Vl → Sto → Prop, wpo (bSub' B.v (.int 3) S) Z = Z (.tup (B.rows.map Rw.v)) S := fun Z => o_at (k := 3) (xs := [.str "boxes", .str B.ls, .tup (B.begun.map Vl.str), .tup (B.rows.map Rw.v)]) rfl (by decide)
  have r4 := h.r4
  rw [(out_facts h hrow).2] at hZ
  refine a_bin (a_bin (a_bin (a_slot ⟨_, h0, a_c ?_⟩)))
  rw [e3]
  refine a_slot ⟨_, hr, ?_⟩
  rw [hrv]
  unfold natV
  rw [o_at (v := B.rows[row].v) (by rw [List.getElem?_map, List.getElem?_eq_getElem hrow]; rfl) (by omega)]
  refine a_c ?_
  exact g_at2 hZ
theorem text_of_w (hB : B.Ok) (hC : C = (lev (n + 4)).1) {w : Str} (hw : OverB B w) (hl : w.length ≤ 6) : wpe (C 17 [B.v, .str w] S) noE fun r S' => r = .str (wrB B w) ∧ Gr 0 S S' := by
  rw [hC, lv_text_of_boxes]
  with_reducible refine w_run rfl ?_
  unfold b_text_of_boxes
  obtain ⟨C1, hC1⟩ : ∃ C1, C1 = (lev (n + 3)).1 := ⟨_, rfl⟩
  rw [← hC1]
  refine a_let2 (a_call (a_cons (a_slot ⟨_, rfl, a_cons (a_slot ⟨_, rfl, a_nil ?_⟩)⟩)))
  refine wpe_mono (contents_w hB hC1 hw hl) ?_ (fun _ _ _ _ z => z.elim)
  rintro _ S1 ⟨k, rfl, k1, k2, k3, g1⟩
  refine ⟨_, _, rfl, ?_⟩
  have v := pre_inv hB hw (by rw [len_cps]; exact hl) w.cps.toList.length
  rw [List.take_length] at v
  have h5 := (many_at hB v.lt).2
  show wps (sRet _ [some B.v, some (.str w), some (natV (contB B w.cps.toList).1), some (.ref k)] S1) _
  refine a_ret (a_call (a_cons ?_))
  refine out_w hB (row := (contB B w.cps.toList).1) rfl rfl rfl v.lt ?_
  refine a_cons (a_slot ⟨_, rfl, a_nil ?_⟩)
  refine wpe_mono (filled_w (n := n + 2) hC1 v.ts (by decide) (by decide) (out_facts hB v.lt).1 (by omega) k2 k3) ?_ (fun _ _ _ _ z => z.elim)
  rintro _ S2 ⟨rfl, g2⟩
  exact ⟨rfl, g1.trans g2⟩
theorem written_w (hB : B.Ok) (hC : C = (lev (n + 3)).1) {w : Str} (hw : OverB B w) (hl : w.length ≤ 6) : wpe (C 35 [B.v, .str w] S) noE fun r S' => r = .str (wrB B w) ∧ Gr 0 S S' := by
  rw [hC, lv__law_jn_written]
  with_reducible refine w_run rfl ?_
  unfold b__law_jn_written
  obtain ⟨C1, hC1⟩ : ∃ C1, C1 = (lev (n + 2)).1 := ⟨_, rfl⟩
  rw [← hC1]
  refine a_let2 (a_call (a_cons (a_slot ⟨_, rfl, a_cons (a_slot ⟨_, rfl, a_nil ?_⟩)⟩)))
  refine wpe_mono (jn_contents_w hB hC1 hw hl) ?_ (fun _ _ _ _ z => z.elim)
  rintro _ S1 ⟨k, rfl, k1, k2, k3, g1⟩
  refine ⟨_, _, rfl, ?_⟩
  have v := pre_inv hB hw (by rw [len_cps]; exact hl) w.cps.toList.length
  rw [List.take_length] at v
  have h5 := (many_at hB v.lt).2
  show wps (sRet _ [some B.v, some (.str w), some (natV (contB B w.cps.toList).1), some (.ref k)] S1) _
  refine a_ret (a_call (a_cons ?_))
  refine out_w hB (row := (contB B w.cps.toList).1) rfl rfl rfl v.lt ?_
  refine a_cons (a_slot ⟨_, rfl, a_nil ?_⟩)
  refine wpe_mono (jn_filled_w (n := n + 1) hC1 v.ts (by decide) (by decide) (out_facts hB v.lt).1 (by omega) k2 k3) ?_ (fun _ _ _ _ z => z.elim)
  rintro _ S2 ⟨rfl, g2⟩
  exact ⟨rfl, g1.trans g2⟩
theorem need_ok (hC : C = (lev (n + 7)).1) {v : Vl} (hv : GoodH lo S v) (h : isBx v = true) : wpe (C 11 [v] S) noE fun r S' => Gr 0 S S' := by
  rw [hC, lv_need_boxes]
  with_reducible refine w_run rfl ?_
  unfold b_need_boxes
  refine a_if (a_not (a_tst (a_call (a_cons (a_slot ⟨_, rfl, a_nil ?_⟩)))))
  refine wpe_mono (is_boxes_w (n := n) hv) ?_ (fun _ _ _ _ z => z.elim)
  rintro _ S1 ⟨rfl, g1⟩
  rw [h]
  exact ⟨_, rfl, ifn rfl (a_skip g1)⟩
theorem need_bad (hC : C = (lev (n + 7)).1) {v : Vl} (hv : GoodH lo S v) (h : isBx v = false) : wpe (C 11 [v] S) (badE S "BadBoxes") fun _ _ => False := by
  rw [hC, lv_need_boxes]
  with_reducible refine w_run rfl ?_
  unfold b_need_boxes
  refine a_if (a_not (a_tst (a_call (a_cons (a_slot ⟨_, rfl, a_nil ?_⟩)))))
  refine wpe_mono (is_boxes_w (n := n) hv) ?_ (fun _ _ _ _ z => z.elim)
  rintro _ S1 ⟨rfl, g1⟩
  rw [h]
  refine ⟨_, rfl, ifp rfl ?_⟩
  rw [s_raise]
  exact ⟨rfl, rfl, rfl, g1⟩
/-- texts of the letters -/
def isTof (ls : Str) : Vl → Bool
  | .str z => isTxt z && z.cps.toList.all fun c => inS ⟨#[c]⟩ ls
  | _ => false
theorem lsx_all : ∀ z ∈ lsx, (z.cps.toList.all fun c => decide (c < 128) && inS ⟨#[c]⟩ ltrs) = true := by decide +kernel
theorem OverB.tof {w : Str} (h : B.Ok) (hw : OverB B w) : isTof B.ls (.str w) = true := by
  have a := List.all_eq_true.mp (lsx_all _ h.ls)
  show (isTxt w && _) = true
  rw [Bool.and_eq_true]
  refine ⟨List.all_eq_true.mpr fun c hc => ?_, List.all_eq_true.mpr fun c hc => ?_⟩
  · have := a c (hw c hc)
    rw [Bool.and_eq_true] at this
    exact this.2
  · rw [inS_one]; exact decide_eq_true (hw c hc)
theorem OverB.okz {w : Str} (h : B.Ok) (hw : OverB B w) : okZ w = true := by
  have a := List.all_eq_true.mp (lsx_all _ h.ls)
  unfold okZ
  refine Array.all_eq_true_iff_forall_mem.mpr fun c hc => ?_
  have := a c (hw c (by simpa using hc))
  rw [Bool.and_eq_true, decide_eq_true_iff] at this
  exact decide_eq_true (by omega)
theorem text_end (hB : B.Ok) (hC : C = (lev (n + 8)).1) {v : Vl} {E : XP} {Z : Vl → Sto → Prop} (hv : Good lo S v) (h1 : isTof B.ls v = true → ∀ S', Gr 0 S S' → Z .non S') (h2 : isTof B.ls v = false → ∀ S', Gr 0 S S' → E "BadText" "" .non S') : wpe (C 15 [B.v, v] S) E Z := by
  rw [hC, lv_need_box_text]
  with_reducible refine w_run rfl ?_
  unfold b_need_box_text
  obtain ⟨C1, hC1⟩ : ∃ C1, C1 = (lev (n + 7)).1 := ⟨_, rfl⟩
  rw [← hC1]
  refine a_do (a_call (a_cons (a_slot ⟨_, rfl, a_nil ?_⟩)))
  refine wpe_mono (need_ok hC1 (hB.gd (lo := lo)).toH hB.isBx) ?_ (fun _ _ _ _ z => z.elim)
  intro _ S0 g0
  have hv0 := hv.gr (g0.up (Nat.zero_le _))
  refine a_if (a_or (a_not (a_tst (a_call (a_cons (a_slot ⟨_, rfl, a_nil ?_⟩))))))
  have q : wpe (C1 1 [v] S0) noE fun r S' => r = .bl (isTx v) ∧ Gr 0 S0 S' := by
    rw [hC1]; exact is_text_w (n := n + 6) hv0.ty (fun z e => by rw [e] at hv0; exact hv0.len)
  refine wpe_mono q ?_ (fun _ _ _ _ z => z.elim)
  rintro _ S1 ⟨rfl, g1⟩
  refine ⟨_, rfl, ?_⟩
  have g01 := g0.trans g1
  cases hT : isTx v with
  | false =>
    refine ifp rfl (ifp rfl ?_)
    rw [s_raise]
    refine h2 ?_ _ g01
    cases v with
    | str z => show (isTxt z && _) = false; rw [show isTxt z = false from hT]; rfl
    | _ => rfl
  | true =>
    obtain ⟨z, rfl⟩ : ∃ z, v = .str z := by
      cases v with
      | str z => exact ⟨z, rfl⟩
      | _ => cases hT
    have hl := hv.len
    have eT : isTof B.ls (.str z) = z.cps.toList.all fun c => inS ⟨#[c]⟩ B.ls := by
      show (isTxt z && _) = _
      rw [show isTxt z = true from hT, Bool.true_and]
    refine ifn rfl ?_
    refine a_not (a_tst ?_)
    refine w_all ?_
    rw [w_it]
    refine a_slot ⟨_, rfl, .inr (.inr ⟨z, rfl, chV z, fun x => match x with | .str y => inS y B.ls | _ => false, by rw [chV_len]; omega, fun j S2 _ _ => nxS_at, fun x hx S2 g => ?_, fun S2 g => ?_⟩)⟩
    · unfold chV at hx
      obtain ⟨c, _, rfl⟩ := List.mem_map.mp hx
      show wpe (mBin (bIn false) (mSlot 2) (mBin bSub' (mSlot 0) (mC (.int 1))) [some B.v, some (.str z), some (.str ⟨#[c]⟩)] S2) noE _
      have e1 : ∀ Z : Vl → Sto → Prop, wpo (bSub' B.v (.int 1) S2) Z = Z (.str B.ls) S2 := fun Z => o_at (k := 1) (xs := [.str "boxes", .str B.ls, .tup (B.begun.map Vl.str), .tup (B.rows.map Rw.v)]) rfl (by decide)
      refine a_bin (a_slot ⟨_, rfl, a_bin (a_slot ⟨_, rfl, a_c ?_⟩)⟩)
      rw [e1, o_inStr]
      exact ⟨rfl, Gr.refl⟩
    · have e : ((chV z).all fun x => match x with | .str y => inS y B.ls | _ => false) = isTof B.ls (.str z) := by
        rw [eT]
        unfold chV
        rw [List.all_map]
        rfl
      rw [e]
      refine ⟨_, rfl, ?_⟩
      cases hO : isTof B.ls (.str z) with
      | true => exact ifn rfl (a_skip (h1 hO _ (g01.trans g)))
      | false =>
        refine ifp rfl ?_
        rw [s_raise]
        exact h2 hO _ (g01.trans g)
theorem text_bad (hC : C = (lev (n + 8)).1) {v t : Vl} (hv : GoodH lo S v) (h : isBx v = false) : wpe (C 15 [v, t] S) (badE S "BadBoxes") fun _ _ => False := by
  rw [hC, lv_need_box_text]
  with_reducible refine w_run rfl ?_
  unfold b_need_box_text
  refine a_do (a_call (a_cons (a_slot ⟨_, rfl, a_nil ?_⟩)))
  exact wpe_mono (need_bad (n := n) rfl hv h) (fun _ _ z => z.elim) (fun _ _ _ _ z => z)
theorem cont_bad (hC : C = (lev (n + 9)).1) {v t : Vl} (hv : GoodH lo S v) (h : isBx v = false) : wpe (C 16 [v, t] S) (badE S "BadBoxes") fun _ _ => False := by
  rw [hC, lv_box_contents]
  with_reducible refine w_run rfl ?_
  unfold b_box_contents
  refine a_do (a_call (a_cons (a_slot ⟨_, rfl, a_cons (a_slot ⟨_, rfl, a_nil ?_⟩)⟩)))
  exact wpe_mono (text_bad (n := n) rfl hv h) (fun _ _ z => z.elim) (fun _ _ _ _ z => z)
theorem box_bad (hC : C = (lev (n + 9)).1) {v t : Vl} (hv : GoodH lo S v) (h : isBx v = false) : wpe (C 18 [v, t] S) (badE S "BadBoxes") fun _ _ => False := by
  rw [hC, lv_box_text]
  with_reducible refine w_run rfl ?_
  unfold b_box_text
  refine a_do (a_call (a_cons (a_slot ⟨_, rfl, a_cons (a_slot ⟨_, rfl, a_nil ?_⟩)⟩)))
  exact wpe_mono (text_bad (n := n) rfl hv h) (fun _ _ z => z.elim) (fun _ _ _ _ z => z)
theorem cont_odd (hB : B.Ok) (hC : C = (lev (n + 9)).1) {t : Vl} (ht : Good lo S t) (h : isTof B.ls t = false) : wpe (C 16 [B.v, t] S) (badE S "BadText") fun _ _ => False := by
  rw [hC, lv_box_contents]
  with_reducible refine w_run rfl ?_
  unfold b_box_contents
  refine a_do (a_call (a_cons (a_slot ⟨_, rfl, a_cons (a_slot ⟨_, rfl, a_nil ?_⟩)⟩)))
  exact text_end (n := n) hB rfl ht (fun z => by rw [h] at z; cases z) (fun _ S' g => ⟨rfl, rfl, rfl, g⟩)
theorem box_odd (hB : B.Ok) (hC : C = (lev (n + 9)).1) {t : Vl} (ht : Good lo S t) (h : isTof B.ls t = false) : wpe (C 18 [B.v, t] S) (badE S "BadText") fun _ _ => False := by
  rw [hC, lv_box_text]
  with_reducible refine w_run rfl ?_
  unfold b_box_text
  refine a_do (a_call (a_cons (a_slot ⟨_, rfl, a_cons (a_slot ⟨_, rfl, a_nil ?_⟩)⟩)))
  exact text_end (n := n) hB rfl ht (fun z => by rw [h] at z; cases z) (fun _ S' g => ⟨rfl, rfl, rfl, g⟩)
theorem cont_w (hB : B.Ok) (hC : C = (lev (n + 9)).1) {w : Str} (hw : OverB B w) (hl : w.length ≤ 6) :
    wpe (C 16 [B.v, .str w] S) noE fun r S' => ∃ k, r = .tup [natV (contB B w.cps.toList).1, .ref k] ∧ S.n ≤ k ∧ k < S'.n ∧ S'.at_ k = .lst ((contB B w.cps.toList).2.map Vl.str) ∧ Gr 0 S S' := by
  rw [hC, lv_box_contents]
  with_reducible refine w_run rfl ?_
  unfold b_box_contents
  obtain ⟨C1, hC1⟩ : ∃ C1, C1 = (lev (n + 8)).1 := ⟨_, rfl⟩
  rw [← hC1]
  refine a_do (a_call (a_cons (a_slot ⟨_, rfl, a_cons (a_slot ⟨_, rfl, a_nil ?_⟩)⟩)))
  refine text_end (lo := 0) hB hC1 (good_str (hw.okz hB) (by omega)) (fun _ S1 g1 => ?_) (fun z => by rw [hw.tof hB] at z; cases z)
  refine a_ret (a_call (a_cons (a_slot ⟨_, rfl, a_cons (a_slot ⟨_, rfl, a_nil ?_⟩)⟩)))
  refine wpe_mono (contents_w (n := n + 5) hB hC1 hw hl) ?_ (fun _ _ _ _ z => z.elim)
  rintro _ S2 ⟨k, rfl, k1, k2, k3, g2⟩
  exact ⟨k, rfl, Nat.le_trans g1.n k1, k2, k3, g1.trans g2⟩
theorem box_w (hB : B.Ok) (hC : C = (lev (n + 9)).1) {w : Str} (hw : OverB B w) (hl : w.length ≤ 6) :
    wpe (C 18 [B.v, .str w] S) noE fun r S' => r = .str (wrB B w) ∧ Gr 0 S S' := by
  rw [hC, lv_box_text]
  with_reducible refine w_run rfl ?_
  unfold b_box_text
  obtain ⟨C1, hC1⟩ : ∃ C1, C1 = (lev (n + 8)).1 := ⟨_, rfl⟩
  rw [← hC1]
  refine a_do (a_call (a_cons (a_slot ⟨_, rfl, a_cons (a_slot ⟨_, rfl, a_nil ?_⟩)⟩)))
  refine text_end (lo := 0) hB hC1 (good_str (hw.okz hB) (by omega)) (fun _ S1 g1 => ?_) (fun z => by rw [hw.tof hB] at z; cases z)
  refine a_ret (a_call (a_cons (a_slot ⟨_, rfl, a_cons (a_slot ⟨_, rfl, a_nil ?_⟩)⟩)))
  refine wpe_mono (text_of_w (n := n + 4) hB hC1 hw hl) ?_ (fun _ _ _ _ z => z.elim)
  rintro _ S2 ⟨rfl, g2⟩
  exact ⟨rfl, g1.trans g2⟩
end
end G

set_option linter.all false
set_option maxRecDepth 100000
set_option maxHeartbeats 4000000
namespace G
open PySem PySem.Spec PyProof.Rows L2 Q

/-! ### the same, shown -/
section
open PyProof
theorem tt_len (ts : List Str) (h : ts ≠ []) : (tupleText ts).length ≤ piled ts + 1 := by
  have e := join_length_add ts h
  have l1 : ((("," : String) : Str)).length = 1 := rfl
  have l2 : ((("(" : String) : Str)).length = 1 := rfl
  unfold tupleText
  rw [PySem.Str.length_append, PySem.Str.length_append, l2]
  have : ((if ts.length == 1 then ",)" else ")" : String) : Str).length ≤ 2 := by split <;> decide
  omega
abbrev Shw (d : PyData) : Prop := d.showable = true ∧ d.shown.length ≤ sizeLine ∧ d.depth ≤ 190 ∧ d.hasDict = false
theorem str_shown {z : Str} (h : okZ z = true) : (PyData.shown (.str z)).length ≤ 10 * z.length + 2 := by
  refine StrLaws.reprText_len z fun c hc => ?_
  have h3 := Array.all_eq_true_iff_forall_mem.mp h c (Array.mem_toList_iff.mp hc)
  have h4 : c < 0x110000 := by simpa using h3
  have e : (16 : Nat) ^ 8 = 4294967296 := by decide
  omega
theorem strs_shown : ∀ l : List Str, (∀ z ∈ l, okZ z = true ∧ z.length ≤ 40000) → ((PyData.shownAll (l.map PyData.str)).map (·.length)).sum ≤ 400002 * l.length ∧ (PyData.shownAll (l.map PyData.str)).length = l.length ∧ PyData.showableAll (l.map PyData.str) = true ∧ PyData.hasDictAll (l.map PyData.str) = false ∧ PyData.depthAll (l.map PyData.str) ≤ 0
  | [], _ => ⟨by decide, by simp [PyData.shownAll], by simp [PyData.showableAll], by simp [PyData.hasDictAll], by simp [PyData.depthAll]⟩
  | z :: l, h => by
    obtain ⟨h1, h2, h3, h4, h5⟩ := strs_shown l fun d hd => h d (List.mem_cons_of_mem _ hd)
    obtain ⟨k1, k2⟩ := h z List.mem_cons_self
    have k3 := str_shown k1
    refine ⟨?_, ?_, ?_, ?_, ?_⟩
    · simp only [List.map_cons, PyData.shownAll, List.sum_cons, List.length_cons]; omega
    · simp only [List.map_cons, PyData.shownAll, List.length_cons, h2]
    · simp [PyData.showableAll, PyData.showable]; simpa using h3
    · simp [PyData.hasDictAll, PyData.hasDict]; simpa using h4
    · simp only [List.map_cons, PyData.depthAll, PyData.depth]; omega
theorem pair_shw {l : List Str} {r : Nat} (hr : r < 10) (h : ∀ z ∈ l, okZ z = true ∧ z.length ≤ 40000) (hl : l.length ≤ 10) : Shw (.tuple [.int (r : Int), .list (l.map PyData.str)]) := by
  obtain ⟨h1, h2, h3, h4, h5⟩ := strs_shown l h
  obtain ⟨i1, i2⟩ := (by decide +kernel : ∀ i : Fin 10, (PyData.shown (.int ((i : Nat) : Int))).length ≤ 3 ∧ PyData.showable (.int ((i : Nat) : Int)) = true) ⟨r, hr⟩
  simp only at i1 i2
  have e1 : (PyData.shown (.list (l.map PyData.str))).length ≤ 4100000 := by
    show (listText (PyData.shownAll (l.map PyData.str))).length ≤ _
    unfold listText
    have h6 := textFrom_len_le (PyData.shownAll (l.map PyData.str)) 0 "["
    have l2 : ((("[" : String) : Str)).length = 1 := rfl
    have l3 : ((("]" : String) : Str)).length = 1 := rfl
    rw [PySem.Str.length_append]
    omega
  refine ⟨?_, ?_, ?_, ?_⟩
  · show (PyData.showable (.int (r : Int)) && (PyData.showableAll (l.map PyData.str) && true)) = true
    rw [i2, h3]; rfl
  · show (tupleText [PyData.shown (.int (r : Int)), PyData.shown (.list (l.map PyData.str))]).length ≤ sizeLine
    have h7 := tt_len [PyData.shown (.int (r : Int)), PyData.shown (.list (l.map PyData.str))] (by simp)
    rw [piled_cons, piled_cons, piled_nil] at h7
    rw [show sizeLine = 16777216 from rfl]
    omega
  · simp only [PyData.depth, PyData.depthAll]; omega
  · show (false || (PyData.hasDictAll (l.map PyData.str) || false)) = false
    rw [h4]; rfl
theorem str_shw {z : Str} (h : okZ z = true) (hl : z.length ≤ 40000) : Shw (.str z) := by
  have h3 := str_shown h
  exact ⟨rfl, by rw [show sizeLine = 16777216 from rfl]; omega, Nat.zero_le _, rfl⟩
end
theorem same2_w {n : Nat} {S : Sto} {C : Nat → List Vl → Q.M Vl} (hC : C = (lev (n + 1)).1) {v w : Vl} {d : PyData} (h : toD S v = some d) (h2 : toD S w = some d) (c : Shw d) : wpe (C 25 [v, w] S) noE fun r S' => r = .bl true ∧ S' = S := by
  rw [hC, lv__law_oh_same]
  refine w_run rfl ?_
  unfold b__law_oh_same
  refine a_ret (a_bin (a_bi (a_cons (a_slot ⟨_, rfl, a_nil ?_⟩))))
  rw [o_repr h c]
  refine a_bi (a_cons (a_slot ⟨_, rfl, a_nil ?_⟩))
  rw [o_repr h2 c, o_strs]
  simp
theorem toDWs_strs {lk : Nat → Option PyData} : ∀ zs : List Str, toDWs lk (zs.map Vl.str) = some (zs.map PyData.str)
  | [] => rfl
  | n :: ns => by rw [List.map_cons, toDWs, toDWs_strs ns]; rfl
theorem toD_pair {S : Sto} {k r : Nat} {ts : List Str} (h : S.at_ k = .lst (ts.map Vl.str)) : toD S (.tup [natV r, .ref k]) = some (.tuple [.int (r : Int), .list (ts.map PyData.str)]) := by
  have e : lkN S 6 k = some (.list (ts.map PyData.str)) := toD_list h (toDWs_strs ts)
  show (toDWs (lkN S 6) [natV r, .ref k]).map PyData.tuple = _
  have e2 : toDWs (lkN S 6) [natV r, .ref k] = some [.int (r : Int), .list (ts.map PyData.str)] := by
    rw [toDWs, toDWs, toDWs]
    show (match some (PyData.int (r : Int)), (match lkN S 6 k, some [] with | some d, some ds => some (d :: ds) | _, _ => none) with | some d, some ds => some (d :: ds) | _, _ => none) = _
    rw [e]
  rw [e2]; rfl
theorem join_cps (zs : List Str) : (Txt.join "" zs).cps.toList = (zs.map fun z => z.cps.toList).flatten := by
  have key : ∀ L : List (List Nat), TL.joinL [] L = L.flatten := by
    intro L
    induction L with
    | nil => rfl
    | cons p L ih =>
      cases L with
      | nil => simp [TL.joinL]
      | cons q r => rw [TL.joinL, ih]; simp
  show TL.tl (Txt.join "" zs) = _
  rw [TL.join_eq, TL.tl_join]
  show TL.joinL [] _ = _
  rw [key]
theorem okZ_iff {z : Str} : okZ z = true ↔ ∀ c ∈ z.cps.toList, c < 0x110000 := by
  unfold okZ
  rw [Array.all_eq_true_iff_forall_mem]
  constructor
  · intro h c hc
    have := h c (by simpa using hc)
    simpa using this
  · intro h c hc
    have := h c (by simpa using hc)
    simpa using this
theorem pls_z : ∀ z ∈ pls, okZ z = true := by decide +kernel
theorem bgs_z : ∀ z ∈ bgs, okZ z = true := by decide +kernel
theorem fil_okZ {n : Nat} {ts : List Str} (h : ∀ z ∈ ts, okZ z = true) {ps : List Pc} (hp : PcsOk n ps) : okZ (fil ts ps) = true := by
  rw [okZ_iff]
  unfold fil
  rw [join_cps, List.map_map]
  intro c hc
  obtain ⟨l, hl, hc⟩ := List.mem_flatten.mp hc
  obtain ⟨p, hpm, rfl⟩ := List.mem_map.mp hl
  have hz : okZ (tx ts p) = true := by
    cases p with
    | t z => exact pls_z z (hp.2.1 z hpm)
    | b k =>
      show okZ (ts.getD k "") = true
      rw [List.getD_eq_getElem?_getD]
      cases hk : ts[k]? with
      | none => exact bgs_z "" (by decide +kernel)
      | some z => exact h z (List.mem_of_getElem? hk)
  exact okZ_iff.mp hz c hc
section
variable {B : Bx}
theorem cont_okZ (h : B.Ok) : ∀ (cs : List Nat), (∀ c ∈ cs, c ∈ B.ls.cps.toList) → ∀ {b : Nat} {st : Nat × List Str}, 1 ≤ b → InvB B b st → (∀ z ∈ st.2, okZ z = true) → ∀ z ∈ (cs.foldl (stepB B) st).2, okZ z = true
  | [], _, b, st, _, _, hz => hz
  | c :: cs, hc, b, st, hb, v, hz => by
    refine cont_okZ h cs (fun d hd => hc d (List.mem_cons_of_mem _ hd)) (b := 4 * b) (by omega) (step_inv h hb v (hc c List.mem_cons_self)) ?_
    intro z hz2
    obtain ⟨ps, hps, rfl⟩ := List.mem_map.mp hz2
    exact fil_okZ hz ((mv_facts h v.lt (hc c List.mem_cons_self)).2.2.2.1 ps hps)
theorem cont_shw (h : B.Ok) {w : Str} (hw : OverB B w) (hl : w.length ≤ 6) : Shw (.tuple [.int ((contB B w.cps.toList).1 : Int), .list ((contB B w.cps.toList).2.map PyData.str)]) ∧ Shw (.str (wrB B w)) := by
  have v := pre_inv h hw (by rw [len_cps]; exact hl) w.cps.toList.length
  rw [List.take_length] at v
  have hz := cont_okZ h w.cps.toList hw (b := 2) (by decide) (beg_inv h) (fun z hz => bgs_z z (h.bg z hz))
  have h5 := (many_at h v.lt).2
  have r4 := h.r4
  have hlt := v.lt
  refine ⟨pair_shw (by omega) (fun z hz2 => ⟨hz z hz2, Nat.le_trans (v.ts.2 z hz2) (by decide)⟩) (by rw [v.ts.1]; omega), str_shw (fil_okZ hz (out_facts h v.lt).1) ?_⟩
  exact fil_len v.ts (by decide) (out_facts h v.lt).1
end
end G

set_option linter.all false
set_option maxRecDepth 100000
set_option maxHeartbeats 4000000
namespace G
open PySem PySem.Spec PyProof.Rows L2 Q

def mkS (w : List Nat) : Str := ⟨w.toArray⟩
theorem mkS_len (w : List Nat) : (mkS w).length = w.length := by rw [← len_cps]; rfl
theorem lsx_len : ∀ z ∈ lsx, 1 ≤ z.length ∧ z.length ≤ 4 := by decide +kernel
theorem some_w {n lo d g c T : Nat} {S : Sto} {ls : Str} {mi mo : Int} (hmi : mi = 3) (hmo : mo = 6) (s : St lo d g c T S) (hT : T + 200 < bigT) (hls : ls ∈ lsx) :
    wpe ((lev (n + 4)).1 32 [.ref d, .str ls, .int mi, .int mo] S) noE fun r S' => ∃ (k : Nat) (ws : List Str), r = .ref k ∧ S.n ≤ k ∧ k < S'.n ∧ S'.at_ k = .lst (ws.map Vl.str) ∧ (∀ w ∈ ws, w.length ≤ 6 ∧ ∀ c ∈ w.cps.toList, c ∈ ls.cps.toList) ∧ ws.length = 3 ∧ St lo d g c (T + 120) S' ∧ Gr lo S S' := by
  obtain ⟨l1, l4⟩ := lsx_len ls hls
  rw [lv__law_jn_some]
  with_reducible refine w_run rfl ?_
  unfold b__law_jn_some
  with_reducible refine a_let ?_
  refine a_lst (a_nil ⟨by decide, ?_⟩)
  show wps (sSeq _ _ [some (.ref d), some (.str ls), some (.int mi), some (.int mo), some (.ref S.n), none, none] (S.push (.lst []))) _
  refine s_cut (fun ρ1 S1 => ∃ (ws : List Str) (b5 b6 : Option Vl), ρ1 = [some (.ref d), some (.str ls), some (.int mi), some (.int mo), some (.ref S.n), b5, b6] ∧ S.n < S1.n ∧ S1.at_ S.n = .lst (ws.map Vl.str) ∧ (∀ w ∈ ws, w.length ≤ 6 ∧ ∀ c ∈ w.cps.toList, c ∈ ls.cps.toList) ∧ ws.length = 3 ∧ St lo d g c (T + 3 * 40) S1 ∧ Gr lo S S1) ?_ ?_
  · refine s_for ?_
    rw [w_itR1]
    refine a_cons (a_slot ⟨_, rfl, a_nil ⟨_, rfl, by omega, by omega, rng 3, fun i ρ1 S1 => ∃ (ws : List Str) (b5 b6 : Option Vl), ρ1 = [some (.ref d), some (.str ls), some (.int mi), some (.int mo), some (.ref S.n), b5, b6] ∧ S.n < S1.n ∧ S1.at_ S.n = .lst (ws.map Vl.str) ∧ (∀ w ∈ ws, w.length ≤ 6 ∧ ∀ c ∈ w.cps.toList, c ∈ ls.cps.toList) ∧ ws.length = i ∧ St lo d g c (T + i * 40) S1 ∧ Gr lo S S1, ⟨[], none, none, rfl, Nat.lt_succ_self _, push_same, by simp, rfl, by rw [Nat.zero_mul]; exact s.gr Gr.push, Gr.push⟩, fun i ρ1 S1 _ _ => by rw [hmi]; exact rng_at, ?_, ?_⟩⟩)
    · rintro i x ρ1 S1 hx ⟨ws, b5, b6, rfl, hn, hat, hws, hwl, s1, g1⟩
      obtain ⟨_, hi⟩ := rng_get hx
      refine a_gnm ?_
      refine a_exp ?_
      refine a_met (a_slot ⟨_, rfl, o_tyl hat, ?_⟩)
      refine a_cons (a_met (a_c ⟨rfl, ?_⟩))
      refine a_cons ?_
      with_reducible refine w_lcd (lo := lo) (d := d) (g := g) (c := c) (T := T + i * 40 + 1) (B := 1) (fun y => ∃ c ∈ ls.cps.toList, y = .str ⟨#[c]⟩) ?_
      rw [w_itR1]
      refine a_cons (a_call (a_cons (a_slot ⟨_, rfl, a_cons (a_bin (a_slot ⟨_, rfl, a_c (g_add (a_nil ?_))⟩))⟩)))
      obtain ⟨mp, hmp⟩ : ∃ mp : Int, mp = mo + 1 := ⟨_, rfl⟩
      rw [← hmp]
      refine wpe_mono (draw_w (n := n + 1) s1 (by omega) (by omega) (by omega)) ?_ (fun _ _ _ _ z => z.elim)
      rintro r0 S2 ⟨k, e0, hk, s2, g2⟩
      refine a_nil ⟨(k : Int), by rw [e0], by omega, by omega, rng k, by rw [rng_len]; omega, s2, fun j S3 _ _ => by rw [Int.toNat_natCast]; exact rng_at, fun z hz S3 T3 hb3 s3 g3 => ?_, fun zs S3 hzl hzs s3 g3 hn3 hs3 => ?_⟩
      · rw [rng_len] at hb3
        refine a_call (a_cons (a_slot ⟨_, rfl, a_cons (a_bi (a_cons (a_slot ⟨_, rfl, a_nil ?_⟩)))⟩))
        rw [o_listS (by omega)]
        refine a_nil ?_
        refine wpe_mono (pick_w (n := n) (lo := lo) (r := S3.n) (xs := (sgs ls).map Vl.str) (s3.gr Gr.push) (by omega) push_same s3.ln (Nat.lt_succ_self _) (by
          intro z
          have := congrArg List.length z
          rw [List.length_map, sgs_len] at this
          have h0 : ls.length = 0 := this
          omega) (by rw [List.length_map, sgs_len]; show ls.length < _; omega)) ?_ (fun _ _ _ _ z => z.elim)
        rintro y S4 ⟨hy, s4, g4⟩
        obtain ⟨y1, hy1, rfl⟩ := List.mem_map.mp hy
        unfold sgs at hy1
        obtain ⟨c1, hc1, rfl⟩ := List.mem_map.mp hy1
        exact ⟨⟨c1, hc1, rfl⟩, s4, Gr.push.trans g4⟩
      · rw [rng_len] at s3 hzl
        obtain ⟨cs, rfl, hcs⟩ : ∃ cs : List Nat, zs = (cs.map fun c => (⟨#[c]⟩ : Str)).map Vl.str ∧ ∀ c ∈ cs, c ∈ ls.cps.toList := by
          clear hzl hs3 s3 g3
          induction zs with
          | nil => exact ⟨[], rfl, by simp⟩
          | cons z zs ih =>
            obtain ⟨c1, h1, rfl⟩ := hzs z List.mem_cons_self
            obtain ⟨cs, rfl, h2⟩ := ih fun y hy => hzs y (List.mem_cons_of_mem _ hy)
            refine ⟨c1 :: cs, rfl, fun c2 hc2 => ?_⟩
            rcases List.mem_cons.mp hc2 with e | e
            · rw [e]; exact h1
            · exact h2 c2 e
        rw [List.length_map, List.length_map] at hzl
        refine a_nil ?_
        have sl : ((cs.map fun c => (⟨#[c]⟩ : Str)).map (·.length)).sum ≤ 1000000 := by
          have key : ∀ cs : List Nat, ((cs.map fun c => (⟨#[c]⟩ : Str)).map (·.length)).sum = cs.length := by
            intro cs
            induction cs with
            | nil => rfl
            | cons c cs ih => rw [List.map_cons, List.map_cons, List.sum_cons, ih, List.length_cons]; show 1 + _ = _; omega
          rw [key]; omega
        rw [o_joinl hs3 sl, join_sgs]
        refine a_nil ?_
        have g13 : Gr lo S1 S3 := g2.trans g3
        have lS : lo ≤ S.n := s.ln
        have hat3 : S3.at_ S.n = .lst (ws.map Vl.str) := (g13.at_ _ lS hn).trans hat
        rw [o_append hat3 (by rw [List.length_map, show sizeLine = 16777216 from rfl]; omega)]
        refine ⟨ws ++ [mkS cs], _, _, rfl, Nat.lt_of_lt_of_le hn g13.n, ?_, fun w hw => ?_, by rw [List.length_append, hwl]; rfl, ?_, (g1.trans g13).set_new (Nat.le_refl _)⟩
        · rw [set_same, List.map_append]
          rfl
        · rcases List.mem_append.mp hw with q | q
          · exact hws w q
          · rw [List.mem_singleton.mp q]
            exact ⟨by rw [mkS_len]; omega, fun c hc => hcs c hc⟩
        · exact (s3.mono (by omega)).setNew lS
    · rintro ρ1 S1 ⟨ws, b5, b6, rfl, hn, hat, hws, hwl, s1, g1⟩
      rw [rng_len] at hwl s1
      exact ⟨ws, b5, b6, rfl, hn, hat, hws, hwl, s1, g1⟩
  · rintro _ S1 ⟨ws, b5, b6, rfl, hn, hat, hws, hwl, s1, g1⟩
    refine a_ret (a_slot ⟨_, rfl, S.n, ws, rfl, Nat.le_refl _, hn, hat, hws, hwl, s1, g1⟩)
section
variable {B : Bx} {lo d g c T m : Nat} {S : Sto} {C : Nat → List Vl → Q.M Vl}
theorem bv3 {Z : Vl → Sto → Prop} : wpo (bSub' B.v (.int 3) S) Z = Z (.tup (B.rows.map Rw.v)) S := o_at (k := 3) (xs := [.str "boxes", .str B.ls, .tup (B.begun.map Vl.str), .tup (B.rows.map Rw.v)]) rfl (by decide)
theorem bv1 {Z : Vl → Sto → Prop} : wpo (bSub' B.v (.int 1) S) Z = Z (.str B.ls) S := o_at (k := 1) (xs := [.str "boxes", .str B.ls, .tup (B.begun.map Vl.str), .tup (B.rows.map Rw.v)]) rfl (by decide)
theorem doubled_w (hB : B.Ok) (hC : C = (lev (m + 3)).1) (s : St lo d g c T S) (hT : T + 10 < bigT) : wpe (C 41 [.ref d, B.v] S) noE fun r S' => Good lo S' r ∧ St lo d g c (T + 1) S' ∧ Gr lo S S' := by
  rw [hC, lv__law_doubled]
  with_reducible refine w_run rfl ?_
  unfold b__law_doubled
  obtain ⟨C1, hC1⟩ : ∃ C1, C1 = (lev (m + 2)).1 := ⟨_, rfl⟩
  rw [← hC1]
  have r4 := hB.r4
  have r1 := hB.r1
  refine a_pars (a_cons (a_bin (a_slot ⟨_, rfl, a_c ?_⟩)))
  rw [bv3]
  refine a_cons (a_call (a_cons (a_slot ⟨_, rfl, a_cons (a_bi (a_cons (a_bin (a_slot ⟨_, rfl, a_c ?_⟩))))⟩)))
  rw [bv3]
  refine a_nil (g_lent (a_nil ?_))
  rw [List.length_map]
  have q : wpe (C1 21 [.ref d, .int (B.rows.length : Int)] S) noE fun r S' => ∃ k : Nat, r = .int k ∧ (k : Int) < (B.rows.length : Int) ∧ St lo d g c (T + 1) S' ∧ Gr lo S S' := by
    rw [hC1]; exact draw_w (n := m) s (by omega) (by omega) (by omega)
  refine wpe_mono q ?_ (fun _ _ _ _ z => z.elim)
  rintro av S1 ⟨k, hav, hk, s1, g1⟩
  have hk : k < B.rows.length := by omega
  refine a_nil ⟨rfl, ?_⟩
  show wps (sSeq _ _ [some (.ref d), some B.v, none, some (.tup (B.rows.map Rw.v)), some av] S1) _
  have er : ∀ Z : Vl → Sto → Prop, wpo (bSub' (.tup (B.rows.map Rw.v)) av S1) Z = Z B.rows[k].v S1 := fun Z => by
    rw [hav, o_at (v := B.rows[k].v) (by rw [List.getElem?_map, List.getElem?_eq_getElem hk]; rfl) (by omega)]
  have gB : Good lo S1 B.v := hB.gd
  have gm := gB.mem.2
  have grs : Good lo S1 (.tup (B.rows.map Rw.v)) := gm _ (by simp)
  have gr := grs.mem.2
  have gk : Good lo S1 B.rows[k].v := gr _ (List.mem_map.mpr ⟨_, List.getElem_mem hk, rfl⟩)
  with_reducible refine a_ifs ?_
  refine a_tst (a_bin (a_bin (a_bin (a_slot ⟨_, rfl, a_slot ⟨_, rfl, ?_⟩⟩))))
  rw [er]
  refine a_c (g_at0 (a_c ?_))
  refine g_eqi ⟨_, rfl, ?_⟩
  by_cases h0 : ((B.rows[k].many : Nat) : Int) = 0
  · exact ifp (by rw [h0]; rfl) (a_rets (a_slot ⟨_, rfl, gB, s1, g1⟩))
  · refine ifn (by rw [beq_eq_false_iff_ne]; exact h0) ?_
    with_reducible refine a_let ?_
    refine a_bin (a_sl (a_bin (a_slot ⟨_, rfl, a_slot ⟨_, rfl, ?_⟩⟩)))
    rw [er]
    refine a_no (a_so (a_c ⟨_, rfl, ?_⟩))
    unfold Rw.v
    rw [o_slt]
    refine a_tup (a_cons (a_tup (a_cons (a_c (a_cons (a_c (a_cons (a_c (a_nil ⟨by show 3 ≤ sizeLine; decide, a_nil ⟨sz1, ?_⟩⟩)))))))))
    rw [o_addt]
    have lk : ∀ (xs : List Vl) (lo hi : Option Int) (b : Nat), xs.length ≤ b → (cutL xs lo hi).length ≤ b := fun xs lo hi b h => Nat.le_trans (cutL_len xs lo hi) h
    have hk3 := lk [natV B.rows[k].many, .tup (B.rows[k].moves.map mvV), pcsV B.rows[k].out] none (some 2) 3 (Nat.le_refl _)
    refine ⟨lenL (by show _ + 1 ≤ _; omega), ?_⟩
    have gnew : Good lo S1 (.tup (cutL [natV B.rows[k].many, .tup (B.rows[k].moves.map mvV), pcsV B.rows[k].out] none (some 2) ++ [.tup [.int 0, .str "a", .int 0]])) := by
      refine good_tup (fun x hx => ?_) (by rw [List.length_append]; show _ + 1 ≤ _; omega)
      rcases List.mem_append.mp hx with h | h
      · exact gk.mem.2 x (cutL_mem h)
      · rw [List.mem_singleton.mp h]
        refine good_tup (fun x hx => ?_) (by show 3 ≤ 61; decide)
        simp only [List.mem_cons, List.not_mem_nil, or_false] at hx
        rcases hx with rfl | rfl | rfl
        · exact good_int 0
        · exact good_str (by decide +kernel) (by decide)
        · exact good_int 0
    generalize Vl.tup (cutL [natV B.rows[k].many, .tup (B.rows[k].moves.map mvV), pcsV B.rows[k].out] none (some 2) ++ [.tup [.int 0, .str "a", .int 0]]) = nv at gnew ⊢
    show wps (sRet _ [some (.ref d), some B.v, some nv, some (.tup (B.rows.map Rw.v)), some av] S1) _
    refine a_ret (a_bin (a_sl (a_slot ⟨_, rfl, a_no (a_so (a_c ⟨_, rfl, ?_⟩))⟩)))
    unfold Bx.v at gm ⊢
    rw [o_slt]
    refine a_tup (a_cons (a_bin (a_bin (a_sl (a_slot ⟨_, rfl, a_no (a_so (a_slot ⟨_, rfl, _, hav, ?_⟩))⟩)))))
    rw [o_slt]
    refine a_tup (a_cons (a_slot ⟨_, rfl, a_nil ⟨sz1, ?_⟩⟩))
    have h1 := lk (B.rows.map Rw.v) none (some (k : Int)) 4 (by rw [List.length_map]; exact r4)
    have h2 := lk (B.rows.map Rw.v) (some ((k : Int) + 1)) none 4 (by rw [List.length_map]; exact r4)
    rw [o_addt]
    refine ⟨lenL (by show _ + 1 ≤ _; omega), ?_⟩
    refine a_sl (a_slot ⟨_, rfl, a_so (a_bin (a_slot ⟨_, rfl, a_c ?_⟩))⟩)
    rw [hav]
    refine g_add ⟨_, rfl, a_no ?_⟩
    rw [o_slt, o_addt]
    refine ⟨lenL (by rw [List.length_append]; show _ + 1 + _ ≤ _; omega), ?_⟩
    refine a_nil ⟨sz1, ?_⟩
    have h3 := lk [Vl.str "boxes", .str B.ls, .tup (B.begun.map Vl.str), .tup (B.rows.map Rw.v)] none (some 3) 4 (Nat.le_refl _)
    rw [o_addt]
    refine ⟨lenL (by show _ + 1 ≤ _; omega), good_tup (fun x hx => ?_) (by rw [List.length_append]; show _ + 1 ≤ _; omega), s1, g1⟩
    rcases List.mem_append.mp hx with h | h
    · exact gm x (cutL_mem h)
    · rw [List.mem_singleton.mp h]
      refine good_tup (fun x hx => ?_) (by rw [List.length_append, List.length_append]; show _ + 1 + _ ≤ _; omega)
      rcases List.mem_append.mp hx with h | h
      · rcases List.mem_append.mp h with h | h
        · exact gr x (cutL_mem h)
        · rw [List.mem_singleton.mp h]; exact gnew
      · exact gr x (cutL_mem h)
end
end G

set_option linter.all false
set_option maxRecDepth 100000
set_option maxHeartbeats 4000000
namespace G
open PySem PySem.Spec PyProof.Rows L2 Q

def wideV (k : Int) (n : Nat) : Vl := .tup [.str "boxes", .str "a", .tup (List.replicate n (.str "")), .tup [.tup [.int k, .tup [.tup [.int 0, .tup (List.replicate n (.tup []))]], .tup []]]]
def rowH : Vl := .tup [.int 0, .tup [.tup [.int 0, .tup []]], .tup []]
def highV (n : Nat) : Vl := .tup [.str "boxes", .str "a", .tup [], .tup (List.replicate n rowH)]
theorem wide_is : isBx (wideV 59 59) = true ∧ isBx (wideV 60 60) = true ∧ isBx (wideV 61 61) = false := by decide +kernel
theorem high_is : isBx (highV 399) = true ∧ isBx (highV 400) = true ∧ isBx (highV 401) = false := by decide +kernel
theorem rowH_good {lo : Nat} {S : Sto} : Good lo S rowH := by
  refine good_tup (fun x hx => ?_) (by show 3 ≤ 61; decide)
  simp only [List.mem_cons, List.not_mem_nil, or_false] at hx
  rcases hx with rfl | rfl | rfl
  · exact good_int 0
  · refine good_tup (fun x hx => ?_) (by show 1 ≤ 61; decide)
    rw [List.mem_singleton.mp hx]
    refine good_tup (fun x hx => ?_) (by show 2 ≤ 61; decide)
    simp only [List.mem_cons, List.not_mem_nil, or_false] at hx
    rcases hx with rfl | rfl
    · exact good_int 0
    · exact good_tup (by simp) (by decide)
  · exact good_tup (by simp) (by decide)
theorem wide_good {lo : Nat} {S : Sto} {k : Int} {n : Nat} (hn : n ≤ 61) : GoodH lo S (wideV k n) := by
  refine Good.toH (good_tup (fun x hx => ?_) (by show 4 ≤ 61; decide))
  simp only [List.mem_cons, List.not_mem_nil, or_false] at hx
  rcases hx with rfl | rfl | rfl | rfl
  · exact good_str (by decide +kernel) (by decide)
  · exact good_str (by decide +kernel) (by decide)
  · refine good_tup (fun x hx => ?_) (by rw [List.length_replicate]; exact hn)
    rw [List.eq_of_mem_replicate hx]
    exact good_str (by decide +kernel) (by decide)
  · refine good_tup (fun x hx => ?_) (by show 1 ≤ 61; decide)
    rw [List.mem_singleton.mp hx]
    refine good_tup (fun x hx => ?_) (by show 3 ≤ 61; decide)
    simp only [List.mem_cons, List.not_mem_nil, or_false] at hx
    rcases hx with rfl | rfl | rfl
    · exact good_int _
    · refine good_tup (fun x hx => ?_) (by show 1 ≤ 61; decide)
      rw [List.mem_singleton.mp hx]
      refine good_tup (fun x hx => ?_) (by show 2 ≤ 61; decide)
      simp only [List.mem_cons, List.not_mem_nil, or_false] at hx
      rcases hx with rfl | rfl
      · exact good_int 0
      · refine good_tup (fun x hx => ?_) (by rw [List.length_replicate]; exact hn)
        rw [List.eq_of_mem_replicate hx]
        exact good_tup (by simp) (by decide)
    · exact good_tup (by simp) (by decide)
theorem high_good {lo : Nat} {S : Sto} {n : Nat} (hn : n ≤ 401) : GoodH lo S (highV n) := by
  have g : ∀ x ∈ List.replicate n rowH, Good lo S x := fun x hx => by rw [List.eq_of_mem_replicate hx]; exact rowH_good
  constructor
  · refine dat_tup fun x hx => ?_
    simp only [List.mem_cons, List.not_mem_nil, or_false] at hx
    rcases hx with rfl | rfl | rfl | rfl
    · exact ⟨_, .str _ (by decide +kernel)⟩
    · exact ⟨_, .str _ (by decide +kernel)⟩
    · exact dat_tup (by simp)
    · exact dat_tup fun x hx => (g x hx).1
  · refine ⟨by show 4 ≤ 1000; decide, fun x hx => ?_⟩
    simp only [List.mem_cons, List.not_mem_nil, or_false] at hx
    rcases hx with rfl | rfl | rfl | rfl
    · show _ ≤ 1000; decide
    · show _ ≤ 1000; decide
    · exact ⟨by show 0 ≤ 1000; decide, by simp⟩
    · exact ⟨by rw [List.length_replicate]; omega, fun x hx => (g x hx).2⟩
theorem flat_one {α : Type} (x : α) : ∀ n : Nat, (List.replicate n [x]).flatten = List.replicate n x
  | 0 => rfl
  | n + 1 => by rw [List.replicate_succ, List.flatten_cons, flat_one x n]; rfl
theorem edges_w {lo d g c T m : Nat} {S : Sto} {C : Nat → List Vl → Q.M Vl} (hC : C = (lev (m + 7)).1) (s : St lo d g c T S) (hT : T + 10 < bigT) : wpe (C 42 [.ref d] S) noE fun r S' => r = .bl true := by
  rw [hC, lv__law_edges_right]
  with_reducible refine w_run rfl ?_
  unfold b__law_edges_right
  obtain ⟨C1, hC1⟩ : ∃ C1, C1 = (lev (m + 6)).1 := ⟨_, rfl⟩
  rw [← hC1]
  have pk : ∀ {S : Sto} {T r : Nat} {xs : List Vl}, St lo d g c T S → T < bigT → S.at_ r = .lst xs → lo ≤ r → r < S.n → xs ≠ [] → xs.length < 1000000 → wpe (C1 22 [.ref d, .ref r] S) noE fun v S' => v ∈ xs ∧ St lo d g c (T + 1) S' ∧ Gr lo S S' := fun s h1 h2 h3 h4 h5 h6 => by
    rw [hC1]; exact pick_w (n := m + 3) s h1 h2 h3 h4 h5 h6
  refine a_pars (a_cons (a_call (a_cons (a_slot ⟨_, rfl, a_cons (a_lst (a_cons (a_c (a_cons (a_c (a_cons (a_c (a_nil ⟨by decide, a_nil ?_⟩))))))))⟩))))
  have g0 : Gr 0 S (S.push (.lst [Vl.int 59, .int 60, .int 61])) := Gr.push
  refine wpe_mono (pk (s.gr g0) (by omega) push_same s.ln (Nat.lt_succ_self _) (by simp) (by show 3 < _; decide)) ?_ (fun _ _ _ _ z => z.elim)
  rintro v1 S1 ⟨hv1, s1, g1⟩
  refine a_cons (a_call (a_cons (a_slot ⟨_, rfl, a_cons (a_lst (a_cons (a_c (a_cons (a_c (a_cons (a_c (a_nil ⟨by decide, a_nil ?_⟩))))))))⟩)))
  have g2 : Gr 0 S1 (S1.push (.lst [Vl.int 399, .int 400, .int 401])) := Gr.push
  refine wpe_mono (pk (s1.gr g2) (by omega) push_same s1.ln (Nat.lt_succ_self _) (by simp) (by show 3 < _; decide)) ?_ (fun _ _ _ _ z => z.elim)
  rintro v2 S2 ⟨hv2, s2, g3⟩
  obtain ⟨k, n, hk, hkn, k2, k61, hm⟩ : ∃ (k : Int) (n : Nat), v1 = .int k ∧ k = n ∧ 59 ≤ n ∧ n ≤ 61 ∧ isBx (wideV k n) = decide (k ≤ 60) := by
    simp only [List.mem_cons, List.not_mem_nil, or_false] at hv1
    obtain ⟨q1, q2, q3⟩ := wide_is
    rcases hv1 with h | h | h
    · exact ⟨59, 59, h, rfl, by decide, by decide, q1⟩
    · exact ⟨60, 60, h, rfl, by decide, by decide, q2⟩
    · exact ⟨61, 61, h, rfl, by decide, by decide, q3⟩
  obtain ⟨j, p, hj, hjp, j2, j401, hh⟩ : ∃ (k : Int) (n : Nat), v2 = .int k ∧ k = n ∧ 399 ≤ n ∧ n ≤ 401 ∧ isBx (highV n) = decide (k ≤ 400) := by
    simp only [List.mem_cons, List.not_mem_nil, or_false] at hv2
    obtain ⟨q1, q2, q3⟩ := high_is
    rcases hv2 with h | h | h
    · exact ⟨399, 399, h, rfl, by decide, by decide, q1⟩
    · exact ⟨400, 400, h, rfl, by decide, by decide, q2⟩
    · exact ⟨401, 401, h, rfl, by decide, by decide, q3⟩
  rw [hk, hj]
  clear hv1 hv2
  refine a_nil ⟨rfl, ?_⟩
  show wps (sSeq _ _ [some (.ref d), none, none, some (.int k), some (.int j)] S2) _
  with_reducible refine a_let ?_
  refine a_tup (a_cons (a_c (a_cons (a_c (a_cons (a_bin (a_tup (a_cons (a_c (a_nil ⟨sz1, a_slot ⟨_, rfl, ?_⟩⟩))))))))))
  rw [o_mulT ⟨by simp, by omega, by omega, by show 1 ≤ 1000; decide⟩, flat_one, show k.toNat = n by omega]
  refine a_cons (a_tup (a_cons (a_tup (a_cons (a_slot ⟨_, rfl, ?_⟩)))))
  refine a_cons (a_tup (a_cons (a_tup (a_cons (a_c ?_)))))
  refine a_cons (a_bin (a_tup (a_cons (a_tup (a_nil ⟨by decide, ?_⟩)))))
  refine a_nil ⟨sz1, a_slot ⟨_, rfl, ?_⟩⟩
  rw [o_mulT ⟨by simp, by omega, by omega, by show 1 ≤ 1000; decide⟩, flat_one, show k.toNat = n by omega]
  refine a_nil ⟨by show 2 ≤ sizeLine; decide, a_nil ⟨sz1, ?_⟩⟩
  refine a_cons (a_tup (a_nil ⟨by decide, ?_⟩))
  refine a_nil ⟨by show 3 ≤ sizeLine; decide, a_nil ⟨sz1, a_nil ⟨by show 4 ≤ sizeLine; decide, ?_⟩⟩⟩
  have ew : wideV k n = .tup [.str "boxes", .str "a", .tup (List.replicate n (.str "")), .tup [.tup [.int k, .tup [.tup [.int 0, .tup (List.replicate n (.tup []))]], .tup []]]] := rfl
  rw [← ew]
  have gw : GoodH 0 S2 (wideV k n) := wide_good k61
  generalize wideV k n = wv at hm gw ⊢
  clear ew
  show wps (sSeq _ _ [some (.ref d), some wv, none, some (.int k), some (.int j)] S2) _
  with_reducible refine a_let ?_
  refine a_tup (a_cons (a_c (a_cons (a_c ?_))))
  refine a_cons (a_tup (a_nil ⟨by decide, ?_⟩))
  refine a_cons (a_bin (a_tup (a_cons (a_tup (a_cons (a_c ?_))))))
  refine a_cons (a_tup (a_cons (a_tup (a_cons (a_c ?_)))))
  refine a_cons (a_tup (a_nil ⟨by decide, ?_⟩))
  refine a_nil ⟨by show 2 ≤ sizeLine; decide, a_nil ⟨sz1, ?_⟩⟩
  refine a_cons (a_tup (a_nil ⟨by decide, ?_⟩))
  refine a_nil ⟨by show 3 ≤ sizeLine; decide, a_nil ⟨sz1, a_slot ⟨_, rfl, ?_⟩⟩⟩
  rw [o_mulT ⟨by simp, by omega, by omega, by show 1 ≤ 1000; decide⟩, flat_one, show j.toNat = p by omega]
  refine a_nil ⟨by show 4 ≤ sizeLine; decide, ?_⟩
  have eh : highV p = .tup [.str "boxes", .str "a", .tup [], .tup (List.replicate p (.tup [.int 0, .tup [.tup [.int 0, .tup []]], .tup []]))] := rfl
  rw [← eh]
  have gh : ∀ S, GoodH 0 S (highV p) := fun S => high_good j401
  generalize highV p = hv at hh gh ⊢
  clear eh
  show wps (sRet _ [some (.ref d), some wv, some hv, some (.int k), some (.int j)] S2) _
  have qb : ∀ (v : Vl) (S : Sto), GoodH 0 S v → wpe (C1 10 [v] S) noE fun r S' => r = .bl (isBx v) ∧ Gr 0 S S' := fun v S h => by rw [hC1]; exact is_boxes_w (n := m) h
  have qt : ∀ (a : Bool) (S : Sto), wpe (C1 24 [.bl a, .bl a] S) noE fun r S' => r = .bl true := fun a S => by
    rw [hC1]
    refine wpe_mono (is_truth_w (n := m + 5)) ?_ (fun _ _ _ _ z => z)
    rintro _ _ ⟨rfl, _⟩
    show _ = _
    rw [decide_eq_true rfl]
  refine a_ret (a_andV (a_call (a_cons (a_call (a_cons (a_slot ⟨_, rfl, a_nil ?_⟩))))))
  refine wpe_mono (qb wv S2 gw) ?_ (fun _ _ _ _ z => z.elim)
  rintro _ S3 ⟨rfl, _⟩
  refine a_cons (a_bin (a_slot ⟨_, rfl, a_c (g_le (a_nil ?_))⟩))
  rw [hm]
  refine wpe_mono (qt _ S3) ?_ (fun _ _ _ _ z => z.elim)
  rintro _ S4 rfl
  refine ⟨_, rfl, ifp rfl ?_⟩
  refine a_call (a_cons (a_call (a_cons (a_slot ⟨_, rfl, a_nil ?_⟩))))
  refine wpe_mono (qb hv S4 (gh S4)) ?_ (fun _ _ _ _ z => z.elim)
  rintro _ S5 ⟨rfl, _⟩
  refine a_cons (a_bin (a_slot ⟨_, rfl, a_c (g_le (a_nil ?_))⟩))
  rw [hh]
  refine wpe_mono (qt _ S5) ?_ (fun _ _ _ _ z => z.elim)
  rintro _ S6 rfl
  rfl
end G

set_option linter.all false
set_option maxRecDepth 100000
set_option maxHeartbeats 4000000
namespace G
open PySem PySem.Spec PyProof.Rows L2 Q

noncomputable abbrev thL (C L : Nat → List Vl → M Vl) : MS := (sIf (mNot (mTst (mCall (C 24) [] (mCons (mCallK (C 10) [0] (mCons (mSlot 4) mNil)) (mCons (mCall (C 40) [] (mCons (mSlot 4) mNil)) mNil)))))
    (sRet (mC (.bl false)))
    sSkip)
noncomputable abbrev wdL (C L : Nat → List Vl → M Vl) : MS := (sSeq (sAsg (mCall (C 34) [] (mCons (mSlot 3) (mCons (mSlot 5) mNil))) (gNm 9))
    (sSeq (sAsg (mCallKP (C 16) 1 [0] (mCons (mSlot 3) mNil) (mCons (mSlot 5) mNil)) (gNm 10))
    (sSeq (sIf (mOr (mNot (mTst (mCall (C 25) [] (mCons (mSlot 10) (mCons (mSlot 9) mNil))))) (mNot (mTst (mCall (C 25) [] (mCons (mCall (C 18) [] (mCons (mSlot 3) (mCons (mSlot 5) mNil))) (mCons (mCall (C 35) [] (mCons (mSlot 3) (mCons (mSlot 5) mNil))) mNil))))))
    (sRet (mC (.bl false)))
    sSkip)
    (sSeq (sExp (mMet "list" mtAppend (mBin bSub' (mSlot 10) (mC (.int 1))) (mCons (mC .non) mNil)))
    (sIf (mNot (mTst (mCall (C 25) [] (mCons (mCallK (C 16) [1, 0] (mCons (mSlot 5) (mCons (mSlot 3) mNil))) (mCons (mSlot 9) mNil)))))
    (sRet (mC (.bl false)))
    sSkip)))))
noncomputable abbrev bodyL (C L : Nat → List Vl → M Vl) : MS := (sSeq (sAsg (mCall (C 37) [] (mCons (mSlot 1) mNil)) (gNm 3))
    (sSeq (sFor (mIt (mBin bAdd (mLst (mCons (mSlot 3) (mCons (mCall (C 41) [] (mCons (mSlot 1) (mCons (mSlot 3) mNil))) mNil))) (mLc (mItR1 (mCons (mC (.int 8)) mNil)) (.nm 11) mTrue (mCall (C 28) [] (mCons (mSlot 1) (mCons (mSlot 3) mNil))) [11]))) (gNm 4)
    (thL C L))
    (sSeq (sFor (mIt (mCall (C 32) [] (mCons (mSlot 1) (mCons (mBin bSub' (mSlot 3) (mC (.int 1))) (mCons (mC (.int 3)) (mCons (mC (.int 6)) mNil)))))) (gNm 5)
    (wdL C L))
    (sSeq (sAsg (mCall (C 22) [] (mCons (mSlot 1) (mCons (mLst (mCons (mC .non) (mCons (mSl (mSlot 3) oNone (oSome (mC (.int 3)))) (mCons (mBi bList (mCons (mSlot 3) mNil)) (mCons (mC (.int 5)) (mCons (mBin bAdd (mTup (mCons (mC (.str "box")) mNil)) (mSl (mSlot 3) (oSome (mC (.int 1))) oNone)) mNil)))))) mNil))) (gNm 6))
    (sSeq (sAsg (mCall (C 22) [] (mCons (mSlot 1) (mCons (mLst (mCons (mC .non) (mCons (mC (.int 5)) (mCons (mC (.str "q")) (mCons (mLst (mCons (mC (.str "a")) mNil)) (mCons (mC (.str "A")) mNil)))))) mNil))) (gNm 7))
    (sSeq (sLams 8 [sJudge excSub excs excs (mCall (L 16) [] (mCons (mSlot 6) (mCons (mSlot 7) mNil))) "BadBoxes", sJudge excSub excs excs (mCall (L 18) [] (mCons (mSlot 6) (mCons (mSlot 7) mNil))) "BadBoxes"])
    (sLams 8 [sJudge excSub excs excs (mCall (L 16) [] (mCons (mSlot 3) (mCons (mSlot 7) mNil))) "BadText", sJudge excSub excs excs (mCall (L 18) [] (mCons (mSlot 3) (mCons (mSlot 7) mNil))) "BadText"])))))))
def en (a2 a3 a4 a5 a6 a7 a8 a9 a10 a11 : Option Vl) : En := [some (.ref 0), some (.ref 2), a2, a3, a4, a5, a6, a7, a8, a9, a10, a11]
abbrev EnS (ρ : En) : Prop := ∃ a2 a3 a4 a5 a6 a7 a8 a9 a10 a11, ρ = en a2 a3 a4 a5 a6 a7 a8 a9 a10 a11
theorem wpe_and {α : Type} {o : Option (Q.R α × Sto)} {E : XP} {Z1 Z2 : α → Sto → Prop} (h1 : wpe o E Z1) (h2 : wpe o noE Z2) : wpe o E fun a S => Z1 a S ∧ Z2 a S := by
  match o, h1, h2 with
  | some (.ok a, S), h1, h2 => exact ⟨h1, h2⟩
  | some (.exc c f v, S), h1, h2 => exact h1
theorem raiseSt {lo lo' d g c T : Nat} {S : Sto} (s : St lo d g c T S) (h : lo ≤ lo') (h2 : lo' ≤ S.n) : St lo' d g c T S := by
  obtain ⟨a, b, e, e1, e2, e3, e4, e5, e6, e7⟩ := s
  exact ⟨a, b, e, e1, e2, e3, by omega, by omega, by omega, h2⟩
theorem isE_m {S : Sto} {Z : Vl → Sto → Prop} : wpo (bIsE excSub excs [Vl.exc "BadBoxes" (Str.ofString "") Vl.non, Vl.gl (Str.ofString "BadBoxes")] S) Z = Z (.bl true) S := by
  have e : bIsE excSub excs [Vl.exc "BadBoxes" (Str.ofString "") Vl.non, Vl.gl (Str.ofString "BadBoxes")] S = some (.bl true, S) := by
    simp only [bIsE]
    rw [if_pos (by decide +kernel), decide_eq_true (by decide +kernel)]
  rw [e]; rfl
theorem jd_m {f : En → M Vl} {ρ : En} {S : Sto} {D : End_} (h : wpe (f ρ S) (fun x g w S' => (x = "BadBoxes" ∧ g = "" ∧ w = .non) ∧ D.nx ρ S') (fun _ _ => False)) : wps (sJudge excSub excs excs f "BadBoxes" ρ S) D := by
  unfold sJudge
  rw [s_if, w_not, w_tst, w_bi, w_cons, w_caught]
  refine wpe_mono h (fun _ _ z => z.elim) ?_
  rintro x g w S3 ⟨⟨rfl, rfl, rfl⟩, hz⟩
  refine ⟨by decide +kernel, rfl, rfl, ?_⟩
  rw [w_cons, w_c, w_nil]
  rw [isE_m]
  refine ⟨true, rfl, ?_⟩
  rw [if_neg (by decide), s_skip]
  exact hz
theorem isE_t {S : Sto} {Z : Vl → Sto → Prop} : wpo (bIsE excSub excs [Vl.exc "BadText" (Str.ofString "") Vl.non, Vl.gl (Str.ofString "BadText")] S) Z = Z (.bl true) S := by
  have e : bIsE excSub excs [Vl.exc "BadText" (Str.ofString "") Vl.non, Vl.gl (Str.ofString "BadText")] S = some (.bl true, S) := by
    simp only [bIsE]
    rw [if_pos (by decide +kernel), decide_eq_true (by decide +kernel)]
  rw [e]; rfl
theorem jd_t {f : En → M Vl} {ρ : En} {S : Sto} {D : End_} (h : wpe (f ρ S) (fun x g w S' => (x = "BadText" ∧ g = "" ∧ w = .non) ∧ D.nx ρ S') (fun _ _ => False)) : wps (sJudge excSub excs excs f "BadText" ρ S) D := by
  unfold sJudge
  rw [s_if, w_not, w_tst, w_bi, w_cons, w_caught]
  refine wpe_mono h (fun _ _ z => z.elim) ?_
  rintro x g w S3 ⟨⟨rfl, rfl, rfl⟩, hz⟩
  refine ⟨by decide +kernel, rfl, rfl, ?_⟩
  rw [w_cons, w_c, w_nil]
  rw [isE_t]
  refine ⟨true, rfl, ?_⟩
  rw [if_neg (by decide), s_skip]
  exact hz
section
variable {m lo d g c T : Nat} {S : Sto} {B : Bx} {C : Nat → List Vl → Q.M Vl} (hC : C = (lev (m + 20)).1)
include hC
theorem boxes_c {v : Vl} (hv : GoodH lo S v) : wpe (C 10 [v] S) noE fun r S' => r = .bl (isBx v) ∧ Gr 0 S S' := by
  rw [hC]; exact is_boxes_w (n := m + 14) hv
theorem judged_c {v : Vl} (hv : GoodH lo S v) : wpe (C 40 [v] S) noE fun r S' => r = .bl (isBx v) ∧ Gr 0 S S' := by
  rw [hC]; exact judged_w (m := m + 17) hv
theorem truth_c {a : Bool} : wpe (C 24 [.bl a, .bl a] S) noE fun r S' => r = .bl true ∧ S' = S := by
  rw [hC]
  refine wpe_mono (is_truth_w (n := m + 19)) ?_ (fun _ _ _ _ z => z)
  rintro _ _ ⟨rfl, h⟩
  exact ⟨by rw [decide_eq_true rfl], h⟩
theorem bent_c (hB : B.Ok) (s : St lo d g c T S) (hT : T + 10 < bigT) : wpe (C 28 [.ref d, B.v] S) noE fun r S' => Good lo S' r ∧ St lo d g c (T + 3) S' ∧ Gr lo S S' := by
  obtain ⟨k, hk, hk2⟩ : ∃ k, m + 20 = k + 1 ∧ 17 ≤ k := ⟨m + 19, rfl, by omega⟩
  rw [hC, hk]
  exact bent_w hB.pl rfl (by have := hB.nd; omega) (by decide) s hT (by omega)
theorem pick_c {r : Nat} {xs : List Vl} (s : St lo d g c T S) (hT : T < bigT) (hr : S.at_ r = .lst xs) (hl : lo ≤ r) (hn : r < S.n) (h1 : xs ≠ []) (h2 : xs.length < 1000000) :
    wpe (C 22 [.ref d, .ref r] S) noE fun v S' => v ∈ xs ∧ St lo d g c (T + 1) S' ∧ Gr lo S S' := by
  rw [hC]; exact pick_w (n := m + 17) s hT hr hl hn h1 h2
theorem some_c {ls : Str} {mi mo : Int} (hmi : mi = 3) (hmo : mo = 6) (s : St lo d g c T S) (hT : T + 200 < bigT) (hls : ls ∈ lsx) :
    wpe (C 32 [.ref d, .str ls, .int mi, .int mo] S) noE fun r S' => ∃ (k : Nat) (ws : List Str), r = .ref k ∧ S.n ≤ k ∧ k < S'.n ∧ S'.at_ k = .lst (ws.map Vl.str) ∧ (∀ w ∈ ws, w.length ≤ 6 ∧ ∀ c ∈ w.cps.toList, c ∈ ls.cps.toList) ∧ ws.length = 3 ∧ St lo d g c (T + 120) S' ∧ Gr lo S S' := by
  rw [hC]; exact some_w (n := m + 16) hmi hmo s hT hls
end
section
variable {m T : Nat} {S : Sto} {B : Bx} {C L : Nat → List Vl → Q.M Vl} {a2 a3 a4 a5 a6 a7 a8 a9 a10 a11 : Option Vl}
theorem bents (hC : C = (lev (m + 20)).1) (hB : B.Ok) (s : St 4 2 1 3 T S) (hT : T + 100 < bigT) :
    wpe (mLc (mItR1 (mCons (mC (.int 8)) mNil)) (.nm 11) mTrue (mCall (C 28) [] (mCons (mSlot 1) (mCons (mSlot 3) mNil))) [11] (en a2 (some B.v) a4 a5 a6 a7 a8 a9 a10 a11) S) noE fun r S' => ∃ k xs, r = .ref k ∧ S.n ≤ k ∧ k < S'.n ∧ S'.at_ k = .lst xs ∧ xs.length = 8 ∧ (∀ x ∈ xs, Good 4 S' x) ∧ St 4 2 1 3 (T + 24) S' ∧ Gr 4 S S' := by
  have l4 := s.ln
  with_reducible refine w_lc ?_
  rw [w_itR1]
  repeat first | (with_reducible first | refine a_c ?_ | refine a_nil ?_ | refine a_cons ?_) | (with_reducible refine a_slot ?_; refine ⟨_, rfl, ?_⟩) | (with_reducible first | refine a_bin ?_ | refine a_bi ?_ | refine a_tup ?_ | refine a_lst ?_ | refine a_tst ?_ | refine a_not ?_ | refine a_and ?_ | refine a_or ?_ | refine a_ite ?_ | refine a_andV ?_ | refine a_orV ?_ | refine a_call ?_ | refine a_callK ?_ | refine a_met ?_ | refine a_sl ?_ | refine a_no ?_ | refine a_so ?_ | refine a_exi ?_ | refine a_neg ?_ | refine a_rev ?_ | refine a_gnm ?_ | refine a_gt2 ?_ | refine a_u0 ?_ | refine a_u1 ?_ | refine a_let ?_ | refine a_do ?_ | refine a_pars ?_ | refine a_rets ?_ | refine a_ifs ?_ | refine a_skips ?_ | refine a_set ?_ | refine a_exp ?_ | refine a_ret ?_ | refine a_if ?_ | refine a_par ?_ | refine a_as ?_ | refine a_bl ?_ | refine g_at0 ?_ | refine g_at1 ?_ | refine g_at2 ?_ | refine g_at3 ?_ | refine g_strs ?_ | refine g_nstr ?_ | refine g_eqi ?_ | refine g_nei ?_ | refine g_add ?_ | refine g_sub ?_ | refine g_gt ?_ | refine g_ge ?_ | refine g_lt ?_ | refine g_le ?_ | refine g_isn ?_ | refine g_isb ?_ | refine g_isnb ?_ | refine g_lent ?_ | refine g_int ?_) | refine ⟨(lenL (by simp only [List.length_cons, List.length_nil]; omega) : List.length _ ≤ sizeLine), ?_⟩
  refine ⟨_, rfl, by decide, by decide, rng 8, fun i acc S2 => acc.length = i ∧ (∀ y ∈ acc, Good (S.n + 1) S2 y) ∧ St 4 2 1 3 (T + i * 3) S2 ∧ S2.at_ S.n = .lst acc ∧ S.n < S2.n ∧ Gr 4 S S2, ⟨rfl, by simp, by rw [Nat.zero_mul]; exact s.gr Gr.push, push_same, Nat.lt_succ_self _, Gr.push⟩, fun i acc S2 hi _ => rng_at, ?_, ?_⟩
  · rintro i x acc S2 hx ⟨q0, q1, q2, q3, q4, q5⟩
    obtain ⟨rfl, hi⟩ := rng_get hx
    refine ⟨_, rfl, ?_⟩
    rw [w_true, if_pos rfl]
    show wpe (mCall (C 28) [] (mCons (mSlot 1) (mCons (mSlot 3) mNil)) (en a2 (some B.v) a4 a5 a6 a7 a8 a9 a10 (some (.int (i : Int)))) S2) _ _
    unfold en
    refine a_call (a_cons (a_slot ⟨_, rfl, a_cons (a_slot ⟨_, rfl, a_nil ?_⟩)⟩))
    have hb := wpe_and (bent_c hC hB q2 (by omega)) (bent_c hC (lo := S.n + 1) hB (raiseSt q2 (by omega) (by omega)) (by omega))
    refine wpe_mono hb ?_ (fun _ _ _ _ z => z.elim)
    rintro y S3 ⟨⟨_, s3, g3⟩, ⟨hy, _, g3'⟩⟩
    have e3 : T + (i + 1) * 3 = T + i * 3 + 3 := by omega
    refine ⟨(g3.at_ _ l4 q4).trans q3, by rw [q0, show sizeLine = 16777216 from rfl]; omega, by rw [List.length_append, q0]; rfl, fun z hz => ?_, by rw [e3]; exact s3.setNew l4, set_same, Nat.lt_of_lt_of_le q4 g3.n, (q5.trans g3).set_new (Nat.le_refl _)⟩
    have gl : Gr (S.n + 1) S3 (S3.set S.n (.lst (acc ++ [y]))) := Gr.refl.set_low (Nat.lt_succ_self _)
    rcases List.mem_append.mp hz with h | h
    · exact ((q1 z h).gr g3').gr gl
    · rw [List.mem_singleton.mp h]; exact hy.gr gl
  · rintro acc S2 ⟨q0, q1, q2, q3, q4, q5⟩
    rw [rng_len] at q0
    refine ⟨S.n, acc, rfl, Nat.le_refl _, q4, q3, q0, fun x hx => (q1 x hx).up (by omega), ?_, q5⟩
    rw [rng_len] at q2
    exact q2
theorem th_turn (hC : C = (lev (m + 20)).1) {v : Vl} (hv : Good 4 S v) :
    wps (thL C L (en a2 a3 (some v) a5 a6 a7 a8 a9 a10 a11) S) ⟨fun ρ S1 => ρ = en a2 a3 (some v) a5 a6 a7 a8 a9 a10 a11 ∧ Gr 0 S S1, fun _ _ => False, fun _ _ => False, fun _ _ => False, noE⟩ := by
  unfold thL en
  refine a_if (a_not (a_tst (a_call (a_cons (a_callK (a_cons (a_slot ⟨_, rfl, a_nil ?_⟩)))))))
  show wpe (C 10 [v] S) _ _
  refine wpe_mono (boxes_c hC hv.toH) ?_ (fun _ _ _ _ z => z.elim)
  rintro _ S1 ⟨rfl, g1⟩
  refine a_cons (a_call (a_cons (a_slot ⟨_, rfl, a_nil ?_⟩)))
  refine wpe_mono (judged_c hC (hv.toH.gr (g1.up (Nat.zero_le _)))) ?_ (fun _ _ _ _ z => z.elim)
  rintro _ S2 ⟨rfl, g2⟩
  refine a_nil ?_
  refine wpe_mono (truth_c hC) ?_ (fun _ _ _ _ z => z.elim)
  rintro _ S3 ⟨rfl, rfl⟩
  exact ⟨_, rfl, ifn rfl (a_skip ⟨rfl, g1.trans g2⟩)⟩
theorem wd_turn (hC : C = (lev (m + 20)).1) (hB : B.Ok) {w : Str} (hw : OverB B w) (hl : w.length ≤ 6) :
    wps (wdL C L (en a2 (some B.v) a4 (some (.str w)) a6 a7 a8 a9 a10 a11) S) ⟨fun ρ S1 => (∃ b9 b10, ρ = en a2 (some B.v) a4 (some (.str w)) a6 a7 a8 b9 b10 a11) ∧ Gr 0 S S1, fun _ _ => False, fun _ _ => False, fun _ _ => False, noE⟩ := by
  obtain ⟨sw1, sw2⟩ := cont_shw hB hw hl
  unfold wdL en
  with_reducible refine a_let ?_
  refine a_call (a_cons (a_slot ⟨_, rfl, a_cons (a_slot ⟨_, rfl, a_nil ?_⟩)⟩))
  refine wpe_mono (jn_contents_w (n := m + 18) hB hC hw hl) ?_ (fun _ _ _ _ z => z.elim)
  rintro _ S1 ⟨kd, rfl, d1, d2, d3, g1⟩
  show wps _ _
  with_reducible refine a_let ?_
  with_reducible refine a_callKP ?_
  refine a_cons (a_slot ⟨_, rfl, a_nil ⟨rfl, a_cons (a_slot ⟨_, rfl, a_nil ?_⟩)⟩⟩)
  show wpe (C 16 [B.v, .str w] S1) _ _
  refine wpe_mono (cont_w (n := m + 11) hB hC hw hl) ?_ (fun _ _ _ _ z => z.elim)
  rintro _ S2 ⟨kf, rfl, f1, f2, f3, g2⟩
  have d3' := (g2.at_ _ (Nat.zero_le _) d2).trans d3
  have d2' := Nat.lt_of_lt_of_le d2 g2.n
  show wps _ _
  with_reducible refine a_ifs ?_
  refine a_or (a_not (a_tst (a_call (a_cons (a_slot ⟨_, rfl, a_cons (a_slot ⟨_, rfl, a_nil ?_⟩)⟩)))))
  refine wpe_mono (same2_w (n := m + 19) hC (toD_pair f3) (toD_pair d3') sw1) ?_ (fun _ _ _ _ z => z.elim)
  rintro _ S3 ⟨rfl, rfl⟩
  refine ⟨_, rfl, ifn rfl ?_⟩
  refine a_not (a_tst (a_call (a_cons (a_call (a_cons (a_slot ⟨_, rfl, a_cons (a_slot ⟨_, rfl, a_nil ?_⟩)⟩))))))
  refine wpe_mono (box_w (n := m + 11) hB hC hw hl) ?_ (fun _ _ _ _ z => z.elim)
  rintro _ S4 ⟨rfl, g4⟩
  refine a_cons (a_call (a_cons (a_slot ⟨_, rfl, a_cons (a_slot ⟨_, rfl, a_nil ?_⟩)⟩)))
  refine wpe_mono (written_w (n := m + 17) hB hC hw hl) ?_ (fun _ _ _ _ z => z.elim)
  rintro _ S5 ⟨rfl, g5⟩
  refine a_nil ?_
  refine wpe_mono (same2_w (n := m + 19) hC (d := .str (wrB B w)) rfl rfl sw2) ?_ (fun _ _ _ _ z => z.elim)
  rintro _ S6 ⟨rfl, rfl⟩
  refine ⟨_, rfl, ifn rfl ?_⟩
  have g25 := g4.trans g5
  have f3' := (g25.at_ _ (Nat.zero_le _) f2).trans f3
  have d3'' := (g25.at_ _ (Nat.zero_le _) d2').trans d3'
  with_reducible refine a_do ?_
  refine a_met (a_bin (a_slot ⟨_, rfl, a_c (g_at1 ⟨o_tyl f3', a_cons (a_c (a_nil ?_))⟩)⟩))
  have hlen : (contB B w.cps.toList).2.length ≤ 4 := by
    have v := pre_inv hB hw (by rw [len_cps]; exact hl) w.cps.toList.length
    rw [List.take_length] at v
    have h5 := (many_at hB v.lt).2
    rw [v.ts.1]; omega
  rw [o_append f3' (by rw [List.length_map, show sizeLine = 16777216 from rfl]; omega)]
  have g06 := ((g1.trans g2).trans g25).set_new (k := kf) (o := .lst ((contB B w.cps.toList).2.map Vl.str ++ [.non])) (by have := g1.n; omega)
  have hne : kd ≠ kf := by omega
  have d6 : (S6.set kf (.lst ((contB B w.cps.toList).2.map Vl.str ++ [.non]))).at_ kd = .lst ((contB B w.cps.toList).2.map Vl.str) := (set_ne hne).trans d3''
  have n6 : kd < (S6.set kf (.lst ((contB B w.cps.toList).2.map Vl.str ++ [.non]))).n := by rw [set_n]; exact Nat.lt_of_lt_of_le d2' g25.n
  generalize S6.set kf (Ob.lst ((contB B w.cps.toList).2.map Vl.str ++ [.non])) = S7 at g06 d6 n6 ⊢
  show wps _ _
  refine a_if (a_not (a_tst (a_call (a_cons (a_callK (a_cons (a_slot ⟨_, rfl, a_cons (a_slot ⟨_, rfl, a_nil ?_⟩)⟩)))))))
  show wpe (C 16 [B.v, .str w] S7) _ _
  refine wpe_mono (cont_w (n := m + 11) hB hC hw hl) ?_ (fun _ _ _ _ z => z.elim)
  rintro _ S8 ⟨ke, rfl, e1, e2, e3, g8⟩
  refine a_cons (a_slot ⟨_, rfl, a_nil ?_⟩)
  refine wpe_mono (same2_w (n := m + 19) hC (toD_pair e3) (toD_pair ((g8.at_ _ (Nat.zero_le _) n6).trans d6)) sw1) ?_ (fun _ _ _ _ z => z.elim)
  rintro _ S9 ⟨rfl, rfl⟩
  exact ⟨_, rfl, ifn rfl (a_skip ⟨⟨_, _, rfl⟩, g06.trans g8⟩)⟩
end
end G

set_option linter.all false
set_option maxRecDepth 100000
set_option maxHeartbeats 4000000
namespace G
open PySem PySem.Spec PyProof.Rows L2 Q

theorem odd_bad : ∀ ls ∈ lsx, isTof ls (.str "q") = false ∧ isTof ls (.str "A") = false := by decide +kernel
section
variable {m T : Nat} {S : Sto} {B : Bx} {C L : Nat → List Vl → Q.M Vl} {a2 a3 a4 a5 a6 a7 a8 a9 a10 a11 : Option Vl}
theorem bad_w (hC : C = (lev (m + 20)).1) (hB : B.Ok) (s : St 4 2 1 3 T S) (hT : T + 10 < bigT) {D : End_} {rest : MS}
    (h : ∀ b S', GoodH 4 S' b → isBx b = false → St 4 2 1 3 (T + 1) S' → wps (rest (en a2 (some B.v) a4 a5 (some b) a7 a8 a9 a10 a11) S') D) :
    wps (sSeq (sAsg (mCall (C 22) [] (mCons (mSlot 1) (mCons (mLst (mCons (mC .non) (mCons (mSl (mSlot 3) oNone (oSome (mC (.int 3)))) (mCons (mBi bList (mCons (mSlot 3) mNil)) (mCons (mC (.int 5)) (mCons (mBin bAdd (mTup (mCons (mC (.str "box")) mNil)) (mSl (mSlot 3) (oSome (mC (.int 1))) oNone)) mNil)))))) mNil))) (gNm 6)) rest (en a2 (some B.v) a4 a5 a6 a7 a8 a9 a10 a11) S) D := by
  have hlo := s.ln
  have gB : ∀ {S : Sto} (x : Vl), x ∈ [Vl.str "boxes", .str B.ls, .tup (B.begun.map Vl.str), .tup (B.rows.map Rw.v)] → Good 4 S x := fun {S} x hx => (hB.gd (lo := 4) (S := S)).mem.2 x hx
  have hB4 : B.v = .tup [.str "boxes", .str B.ls, .tup (B.begun.map Vl.str), .tup (B.rows.map Rw.v)] := rfl
  have hdat : ∃ ds, DatAll 4 (S.push (.lst [Vl.str "boxes", .str B.ls, .tup (B.begun.map Vl.str), .tup (B.rows.map Rw.v)])) 4 [Vl.str "boxes", .str B.ls, .tup (B.begun.map Vl.str), .tup (B.rows.map Rw.v)] ds := datAll_of fun x hx => (hB.pl.2 x hx).dat
  obtain ⟨bv, hbv⟩ : ∃ bv, bv = B.v := ⟨_, rfl⟩
  have sl : ∀ lo hi (S : Sto) (Z : Vl → Sto → Prop), wpo (bSl bv lo hi S) Z = Z (.tup (cutL [Vl.str "boxes", .str B.ls, .tup (B.begun.map Vl.str), .tup (B.rows.map Rw.v)] lo hi)) S := fun lo hi S Z => by rw [hbv, hB4, o_slt]
  have li : ∀ (S : Sto) (Z : Vl → Sto → Prop), wpo (bList [bv] S) Z = Z (.ref S.n) (S.push (.lst [Vl.str "boxes", .str B.ls, .tup (B.begun.map Vl.str), .tup (B.rows.map Rw.v)])) := fun S Z => by rw [hbv, hB4, o_listt]
  rw [← hbv]
  unfold en
  with_reducible refine a_let ?_
  refine a_call (a_cons (a_slot ⟨_, rfl, a_cons (a_lst (a_cons (a_c (a_cons (a_sl (a_slot ⟨_, rfl, a_no (a_so (a_c ⟨_, rfl, ?_⟩))⟩))))))⟩))
  rw [sl]
  refine a_cons (a_bi (a_cons (a_slot ⟨_, rfl, a_nil ?_⟩)))
  rw [li]
  refine a_cons (a_c (a_cons (a_bin (a_tup (a_cons (a_c (a_nil ⟨sz1, a_sl (a_slot ⟨_, rfl, a_so (a_c ⟨_, rfl, a_no ?_⟩)⟩)⟩)))))))
  rw [sl, o_addt]
  have e1 : cutL [Vl.str "boxes", .str B.ls, .tup (B.begun.map Vl.str), .tup (B.rows.map Rw.v)] none (some (3 : Int)) = [Vl.str "boxes", .str B.ls, .tup (B.begun.map Vl.str)] := cut_take (i := 3) (by show 3 ≤ 4; decide)
  have e2 : cutL [Vl.str "boxes", .str B.ls, .tup (B.begun.map Vl.str), .tup (B.rows.map Rw.v)] (some (1 : Int)) none = [.str B.ls, .tup (B.begun.map Vl.str), .tup (B.rows.map Rw.v)] := cut_drop (i := 1) (by show 1 ≤ 4; decide)
  rw [e1, e2]
  refine ⟨by show 1 + 3 ≤ sizeLine; decide, a_nil ⟨by show 5 ≤ sizeLine; decide, a_nil ?_⟩⟩
  have eE : (S.push (.lst [Vl.str "boxes", .str B.ls, .tup (B.begun.map Vl.str), .tup (B.rows.map Rw.v)])).at_ S.n = .lst [Vl.str "boxes", .str B.ls, .tup (B.begun.map Vl.str), .tup (B.rows.map Rw.v)] := push_same
  have gE : Gr 0 S (S.push (.lst [Vl.str "boxes", .str B.ls, .tup (B.begun.map Vl.str), .tup (B.rows.map Rw.v)])) := Gr.push
  have nE : S.n < (S.push (.lst [Vl.str "boxes", .str B.ls, .tup (B.begun.map Vl.str), .tup (B.rows.map Rw.v)])).n := Nat.lt_succ_self _
  generalize S.push (.lst [Vl.str "boxes", .str B.ls, .tup (B.begun.map Vl.str), .tup (B.rows.map Rw.v)]) = E at eE gE nE hdat ⊢
  obtain ⟨ds, hds⟩ := hdat
  have sE := s.gr gE
  have gp : Gr 0 E (E.push (.lst [.non, .tup [Vl.str "boxes", .str B.ls, .tup (B.begun.map Vl.str)], .ref S.n, .int 5, .tup ([.str "box"] ++ [.str B.ls, .tup (B.begun.map Vl.str), .tup (B.rows.map Rw.v)])])) := Gr.push
  refine wpe_mono (pick_c hC (sE.gr gp) (by omega) push_same sE.ln (Nat.lt_succ_self _) (by simp) (by show 5 < _; decide)) ?_ (fun _ _ _ _ z => z.elim)
  rintro b S2 ⟨hb, s2, g2⟩
  have g12 : Gr 4 E S2 := (gp.up (Nat.zero_le _)).trans g2
  rw [hbv]
  refine h b S2 ?_ ?_ s2
  · refine Good.toH ?_
    simp only [List.mem_cons, List.not_mem_nil, or_false] at hb
    rcases hb with rfl | rfl | rfl | rfl | rfl
    · exact good_non
    · refine good_tup (fun x hx => gB x ?_) (by show 3 ≤ 61; decide)
      simp only [List.mem_cons, List.not_mem_nil, or_false] at hx ⊢
      rcases hx with h | h | h
      · exact .inl h
      · exact .inr (.inl h)
      · exact .inr (.inr (.inl h))
    · have : Dat 4 E 5 (.ref S.n) (.list ds) := .lst hlo nE eE hds
      exact ⟨⟨_, this.gr g12⟩, rfl⟩
    · exact good_int 5
    · refine good_tup (fun x hx => ?_) (by show 4 ≤ 61; decide)
      rcases List.mem_append.mp hx with h | h
      · rw [List.mem_singleton.mp h]; exact good_str (by decide +kernel) (by decide)
      · exact gB x (List.mem_cons_of_mem _ h)
  · simp only [List.mem_cons, List.not_mem_nil, or_false] at hb
    rcases hb with rfl | rfl | rfl | rfl | rfl
    · rfl
    · exact isBx_4 (by show (3 : Nat) ≠ 4; decide)
    · rfl
    · rfl
    · show isBx (.tup [.str "box", .str B.ls, .tup (B.begun.map Vl.str), .tup (B.rows.map Rw.v)]) = false
      rw [isBx_eq]
      unfold headOk
      rw [show isB (.str "box") = false from by decide]; rfl
theorem odd_w (hC : C = (lev (m + 20)).1) (hB : B.Ok) (s : St 4 2 1 3 T S) (hT : T + 10 < bigT) {b : Vl} (hb : GoodH 4 S b) {D : End_} {rest : MS}
    (h : ∀ o S', GoodH 4 S' b → Good 4 S' o → isTof B.ls o = false → St 4 2 1 3 (T + 1) S' → wps (rest (en a2 (some B.v) a4 a5 (some b) (some o) a8 a9 a10 a11) S') D) :
    wps (sSeq (sAsg (mCall (C 22) [] (mCons (mSlot 1) (mCons (mLst (mCons (mC .non) (mCons (mC (.int 5)) (mCons (mC (.str "q")) (mCons (mLst (mCons (mC (.str "a")) mNil)) (mCons (mC (.str "A")) mNil)))))) mNil))) (gNm 7)) rest (en a2 (some B.v) a4 a5 (some b) a7 a8 a9 a10 a11) S) D := by
  have hlo := s.ln
  have hl := odd_bad _ hB.ls
  unfold en
  with_reducible refine a_let ?_
  refine a_call (a_cons (a_slot ⟨_, rfl, a_cons (a_lst (a_cons (a_c (a_cons (a_c (a_cons (a_c ?_)))))))⟩))
  refine a_cons (a_lst (a_cons (a_c (a_nil ⟨sz1, ?_⟩))))
  refine a_cons (a_c (a_nil ⟨by show 5 ≤ sizeLine; decide, a_nil ?_⟩))
  have eE : (S.push (.lst [Vl.str "a"])).at_ S.n = .lst [Vl.str "a"] := push_same
  have gE : Gr 0 S (S.push (.lst [Vl.str "a"])) := Gr.push
  have nE : S.n < (S.push (.lst [Vl.str "a"])).n := Nat.lt_succ_self _
  generalize S.push (.lst [Vl.str "a"]) = E at eE gE nE ⊢
  have sE := s.gr gE
  have gp : Gr 0 E (E.push (.lst [.non, .int 5, .str "q", .ref S.n, .str "A"])) := Gr.push
  refine wpe_mono (pick_c hC (sE.gr gp) (by omega) push_same sE.ln (Nat.lt_succ_self _) (by simp) (by show 5 < _; decide)) ?_ (fun _ _ _ _ z => z.elim)
  rintro o S2 ⟨ho, s2, g2⟩
  have g12 : Gr 4 E S2 := (gp.up (Nat.zero_le _)).trans g2
  have go : Good 4 S2 o ∧ isTof B.ls o = false := by
    simp only [List.mem_cons, List.not_mem_nil, or_false] at ho
    rcases ho with rfl | rfl | rfl | rfl | rfl
    · exact ⟨good_non, rfl⟩
    · exact ⟨good_int 5, rfl⟩
    · exact ⟨good_str (by decide +kernel) (by decide), hl.1⟩
    · refine ⟨⟨⟨_, .lst (n := S.n) hlo (Nat.lt_of_lt_of_le nE g12.n) ((g12.at_ _ hlo nE).trans eE) (.cons (.str _ (by decide +kernel)) .nil)⟩, rfl⟩, rfl⟩
    · exact ⟨good_str (by decide +kernel) (by decide), hl.2⟩
  exact h o S2 (hb.gr ((gE.up (Nat.zero_le _)).trans g12)) go.1 go.2 s2
theorem refused (hL : L = (lev (m + 18)).1) (hB : B.Ok) {b o : Vl} (s : St 4 2 1 3 T S) (hb : GoodH 4 S b) (hb2 : isBx b = false) (ho : Good 4 S o) (ho2 : isTof B.ls o = false) :
    wps (sSeq (sLams 8 [sJudge excSub excs excs (mCall (L 16) [] (mCons (mSlot 6) (mCons (mSlot 7) mNil))) "BadBoxes", sJudge excSub excs excs (mCall (L 18) [] (mCons (mSlot 6) (mCons (mSlot 7) mNil))) "BadBoxes"])
    (sLams 8 [sJudge excSub excs excs (mCall (L 16) [] (mCons (mSlot 3) (mCons (mSlot 7) mNil))) "BadText", sJudge excSub excs excs (mCall (L 18) [] (mCons (mSlot 3) (mCons (mSlot 7) mNil))) "BadText"]) (en a2 (some B.v) a4 a5 (some b) (some o) a8 a9 a10 a11) S)
    ⟨fun ρ S1 => EnS ρ ∧ St 4 2 1 3 T S1, fun _ _ => False, fun _ _ => False, fun _ _ => False, noE⟩ := by
  refine s_cut (fun ρ S1 => ρ = en a2 (some B.v) a4 a5 (some b) (some o) none a9 a10 a11 ∧ Gr 0 S S1) ?_ ?_
  · refine s_lams (by show 8 < 12; decide) (jd_m (a_call (a_cons (a_slot ⟨_, rfl, a_cons (a_slot ⟨_, rfl, a_nil ?_⟩)⟩))))
    refine wpe_mono (cont_bad (n := m + 9) hL hb hb2) (fun _ _ z => z.elim) ?_
    rintro c1 g1 w1 S4 ⟨h1, h2, h3, g4⟩
    refine ⟨⟨h1, h2, h3⟩, ?_⟩
    refine s_lams (by show 8 < 12; decide) (jd_m (a_call (a_cons (a_slot ⟨_, rfl, a_cons (a_slot ⟨_, rfl, a_nil ?_⟩)⟩))))
    refine wpe_mono (box_bad (n := m + 9) hL (hb.gr (g4.up (Nat.zero_le _))) hb2) (fun _ _ z => z.elim) ?_
    rintro c1 g1 w1 S5 ⟨h1, h2, h3, g5⟩
    exact ⟨⟨h1, h2, h3⟩, rfl, g4.trans g5⟩
  rintro _ S4 ⟨rfl, g4⟩
  refine s_lams (by show 8 < 12; decide) (jd_t (a_call (a_cons (a_slot ⟨_, rfl, a_cons (a_slot ⟨_, rfl, a_nil ?_⟩)⟩))))
  refine wpe_mono (cont_odd (n := m + 9) hB hL (ho.gr (g4.up (Nat.zero_le _))) ho2) (fun _ _ z => z.elim) ?_
  rintro c1 g1 w1 S5 ⟨h1, h2, h3, g5⟩
  have g5 := g4.trans g5
  refine ⟨⟨h1, h2, h3⟩, ?_⟩
  refine s_lams (by show 8 < 12; decide) (jd_t (a_call (a_cons (a_slot ⟨_, rfl, a_cons (a_slot ⟨_, rfl, a_nil ?_⟩)⟩))))
  refine wpe_mono (box_odd (n := m + 9) hB hL (ho.gr (g5.up (Nat.zero_le _))) ho2) (fun _ _ z => z.elim) ?_
  rintro c1 g1 w1 S6 ⟨h1, h2, h3, g6⟩
  exact ⟨⟨h1, h2, h3⟩, ⟨_, _, _, _, _, _, _, _, _, _, rfl⟩, s.gr (g5.trans g6)⟩
theorem law_turn (hC : C = (lev (m + 20)).1) (hL : L = (lev (m + 18)).1) (s : St 4 2 1 3 T S) (hT : T + 2500 < bigT) :
    wps (bodyL C L (en a2 a3 a4 a5 a6 a7 a8 a9 a10 a11) S) ⟨fun ρ S1 => EnS ρ ∧ St 4 2 1 3 (T + 800) S1, fun _ _ => False, fun _ _ => False, fun _ _ => False, noE⟩ := by
  unfold bodyL
  refine a_let ?_
  refine a_call (a_cons (a_slot ⟨_, rfl, a_nil ?_⟩))
  refine wpe_mono (made_w (m := m + 15) hC s (by omega)) ?_ (fun _ _ _ _ z => z.elim)
  rintro _ S1 ⟨B, rfl, hB, s1, _⟩
  show wps (sSeq _ _ (en a2 (some B.v) a4 a5 a6 a7 a8 a9 a10 a11) S1) _
  refine s_cut (fun ρ S3 => (∃ b4, ρ = en a2 (some B.v) b4 a5 a6 a7 a8 a9 a10 a11) ∧ St 4 2 1 3 (T + 625) S3) ?_ ?_
  · refine s_for ?_
    rw [w_it]
    refine a_bin (a_lst (a_cons (a_slot ⟨_, rfl, a_cons (a_call (a_cons (a_slot ⟨_, rfl, a_cons (a_slot ⟨_, rfl, a_nil ?_⟩)⟩)))⟩)))
    refine wpe_mono (doubled_w (m := m + 17) hB hC s1 (by omega)) ?_ (fun _ _ _ _ z => z.elim)
    rintro dv S2 ⟨hd, s2, g2⟩
    refine a_nil ⟨by show 2 ≤ sizeLine; decide, ?_⟩
    have gp : Gr 0 S2 (S2.push (.lst [B.v, dv])) := Gr.push
    refine wpe_mono (bents hC hB (s2.gr gp) (by omega)) ?_ (fun _ _ _ _ z => z.elim)
    rintro _ S3 ⟨k, xs, rfl, k1, k2, k3, k4, k5, s3, g3⟩
    have h1 : S3.at_ S2.n = .lst [B.v, dv] := (g3.at_ _ s2.ln (Nat.lt_succ_self _)).trans push_same
    rw [o_addl h1 k3]
    refine ⟨lenL (by rw [k4]; show 2 + 8 ≤ _; decide), ?_⟩
    have gE : Gr 0 S3 (S3.push (.lst ([B.v, dv] ++ xs))) := Gr.push
    have hE : (S3.push (.lst ([B.v, dv] ++ xs))).at_ S3.n = .lst ([B.v, dv] ++ xs) := push_same
    have nE : S3.n < (S3.push (.lst ([B.v, dv] ++ xs))).n := Nat.lt_succ_self _
    generalize S3.push (.lst ([B.v, dv] ++ xs)) = S4 at gE hE nE ⊢
    have g24 : Gr 4 S2 S4 := ((gp.up (Nat.zero_le _)).trans g3).trans (gE.up (Nat.zero_le _))
    have hall : ∀ x ∈ [B.v, dv] ++ xs, Good 4 S4 x := fun x hx => by
      rcases List.mem_append.mp hx with h | h
      · simp only [List.mem_cons, List.not_mem_nil, or_false] at h
        rcases h with rfl | rfl
        · exact hB.gd
        · exact hd.gr g24
      · exact (k5 x h).gr (gE.up (Nat.zero_le _))
    generalize [B.v, dv] ++ xs = ys at hE hall
    refine .inr (.inl ⟨S3.n, ys, rfl, getR_l hE, ys, fun i ρ S5 => (∃ b4, ρ = en a2 (some B.v) b4 a5 a6 a7 a8 a9 a10 a11) ∧ Gr 0 S4 S5, ⟨⟨a4, rfl⟩, Gr.refl⟩, ?_, ?_, ?_⟩)
    · rintro i ρ S5 _ ⟨_, g5⟩
      exact nxL_at (getR_l ((g5.at_ _ (Nat.zero_le _) nE).trans hE))
    · rintro i x ρ S5 hx ⟨⟨b7, rfl⟩, g5⟩
      refine a_gnm ?_
      show wps (thL C L (en a2 (some B.v) (some x) a5 a6 a7 a8 a9 a10 a11) S5) _
      refine wps_mono (th_turn hC ((hall x (List.mem_of_getElem? hx)).gr (g5.up (Nat.zero_le _)))) ?_ (fun _ _ z => z.elim) (fun _ _ z => z.elim) (fun _ _ z => z.elim) (fun _ _ _ _ z => z.elim)
      rintro _ S6 ⟨rfl, g6⟩
      exact ⟨⟨_, rfl⟩, g5.trans g6⟩
    · rintro ρ S5 ⟨h, g5⟩
      exact ⟨h, (s3.gr (gE.trans g5)).mono (by omega)⟩
  rintro _ S3 ⟨⟨b4, rfl⟩, s3⟩
  refine s_cut (fun ρ S4 => (∃ b5 b9 b10, ρ = en a2 (some B.v) b4 b5 a6 a7 a8 b9 b10 a11) ∧ St 4 2 1 3 (T + 745) S4) ?_ ?_
  · refine s_for ?_
    rw [w_it]
    refine a_call (a_cons (a_slot ⟨_, rfl, a_cons (a_bin (a_slot ⟨_, rfl, a_c ?_⟩))⟩))
    rw [bv1]
    refine a_cons (a_c (a_cons (a_c (a_nil ?_))))
    refine wpe_mono (some_c hC rfl rfl s3 (by omega) hB.ls) ?_ (fun _ _ _ _ z => z.elim)
    rintro _ S4 ⟨k, ws, rfl, k1, k2, k3, k4, k5, s4, g4⟩
    refine .inr (.inl ⟨k, ws.map Vl.str, rfl, getR_l k3, ws.map Vl.str, fun i ρ S5 => (∃ b5 b9 b10, ρ = en a2 (some B.v) b4 b5 a6 a7 a8 b9 b10 a11) ∧ Gr 0 S4 S5, ⟨⟨a5, a9, a10, rfl⟩, Gr.refl⟩, ?_, ?_, ?_⟩)
    · rintro i ρ S5 _ ⟨_, g5⟩
      exact nxL_at (getR_l ((g5.at_ _ (Nat.zero_le _) k2).trans k3))
    · rintro i x ρ S5 hx ⟨⟨b5, b9, b10, rfl⟩, g5⟩
      obtain ⟨w, hw, rfl⟩ := List.mem_map.mp (List.mem_of_getElem? hx)
      obtain ⟨w1, w2⟩ := k4 w hw
      refine a_gnm ?_
      show wps (wdL C L (en a2 (some B.v) b4 (some (.str w)) a6 a7 a8 b9 b10 a11) S5) _
      refine wps_mono (wd_turn hC hB w2 w1) ?_ (fun _ _ z => z.elim) (fun _ _ z => z.elim) (fun _ _ z => z.elim) (fun _ _ _ _ z => z.elim)
      rintro _ S6 ⟨⟨c9, c10, rfl⟩, g6⟩
      exact ⟨⟨_, _, _, rfl⟩, g5.trans g6⟩
    · rintro ρ S5 ⟨h, g5⟩
      exact ⟨h, (s4.gr g5).mono (by omega)⟩
  rintro _ S4 ⟨⟨b5, b9, b10, rfl⟩, s4⟩
  refine bad_w hC hB s4 (by omega) fun b S5 hb hb2 s5 => ?_
  refine odd_w hC hB s5 (by omega) hb fun o S6 hb ho ho2 s6 => ?_
  refine wps_mono (refused hL hB s6 hb hb2 ho ho2) ?_ (fun _ _ z => z.elim) (fun _ _ z => z.elim) (fun _ _ z => z.elim) (fun _ _ _ _ z => z.elim)
  rintro ρ S7 ⟨h, s7⟩
  exact ⟨h, s7.mono (by omega)⟩
end
end G

set_option linter.all false
set_option maxRecDepth 100000
set_option maxHeartbeats 4000000
namespace G
open PySem PySem.Spec PyProof.Rows L2 Q

theorem law_it {S : Sto} {ns : List Int} {a2 a3 a4 a5 a6 a7 a8 a9 a10 a11 : Option Vl} (h0 : S.at_ 0 = .ro (ns.map Vl.int)) :
    wpe (mItR1 (mCons (mBin bAdd (mC (.int 2)) (mBi bMin2 (mCons (mBi bLen (mCons (mSlot 0) mNil)) (mCons (mC (.int 5)) mNil)))) mNil) (en a2 a3 a4 a5 a6 a7 a8 a9 a10 a11) S) noE fun nx S1 => ∃ k : Nat, k ≤ 8 ∧ nx = nxR 0 k ∧ S1 = S := by
  unfold en
  rw [w_itR1]
  repeat first | (with_reducible first | refine a_c ?_ | refine a_nil ?_ | refine a_cons ?_) | (with_reducible refine a_slot ?_; refine ⟨_, rfl, ?_⟩) | (with_reducible first | refine a_bin ?_ | refine a_bi ?_ | refine a_tup ?_ | refine a_lst ?_ | refine a_tst ?_ | refine a_not ?_ | refine a_and ?_ | refine a_or ?_ | refine a_ite ?_ | refine a_andV ?_ | refine a_orV ?_ | refine a_call ?_ | refine a_callK ?_ | refine a_met ?_ | refine a_sl ?_ | refine a_no ?_ | refine a_so ?_ | refine a_exi ?_ | refine a_neg ?_ | refine a_rev ?_ | refine a_gnm ?_ | refine a_gt2 ?_ | refine a_u0 ?_ | refine a_u1 ?_ | refine a_let ?_ | refine a_do ?_ | refine a_pars ?_ | refine a_rets ?_ | refine a_ifs ?_ | refine a_skips ?_ | refine a_set ?_ | refine a_exp ?_ | refine a_ret ?_ | refine a_if ?_ | refine a_par ?_ | refine a_as ?_ | refine a_bl ?_ | refine g_at0 ?_ | refine g_at1 ?_ | refine g_at2 ?_ | refine g_at3 ?_ | refine g_strs ?_ | refine g_nstr ?_ | refine g_eqi ?_ | refine g_nei ?_ | refine g_add ?_ | refine g_sub ?_ | refine g_gt ?_ | refine g_ge ?_ | refine g_lt ?_ | refine g_le ?_ | refine g_isn ?_ | refine g_isb ?_ | refine g_isnb ?_ | refine g_lent ?_ | refine g_int ?_) | refine ⟨(lenL (by simp only [List.length_cons, List.length_nil]; omega) : List.length _ ≤ sizeLine), ?_⟩
  rw [o_lenr h0]
  repeat first | (with_reducible first | refine a_c ?_ | refine a_nil ?_ | refine a_cons ?_) | (with_reducible refine a_slot ?_; refine ⟨_, rfl, ?_⟩) | (with_reducible first | refine a_bin ?_ | refine a_bi ?_ | refine a_tup ?_ | refine a_lst ?_ | refine a_tst ?_ | refine a_not ?_ | refine a_and ?_ | refine a_or ?_ | refine a_ite ?_ | refine a_andV ?_ | refine a_orV ?_ | refine a_call ?_ | refine a_callK ?_ | refine a_met ?_ | refine a_sl ?_ | refine a_no ?_ | refine a_so ?_ | refine a_exi ?_ | refine a_neg ?_ | refine a_rev ?_ | refine a_gnm ?_ | refine a_gt2 ?_ | refine a_u0 ?_ | refine a_u1 ?_ | refine a_let ?_ | refine a_do ?_ | refine a_pars ?_ | refine a_rets ?_ | refine a_ifs ?_ | refine a_skips ?_ | refine a_set ?_ | refine a_exp ?_ | refine a_ret ?_ | refine a_if ?_ | refine a_par ?_ | refine a_as ?_ | refine a_bl ?_ | refine g_at0 ?_ | refine g_at1 ?_ | refine g_at2 ?_ | refine g_at3 ?_ | refine g_strs ?_ | refine g_nstr ?_ | refine g_eqi ?_ | refine g_nei ?_ | refine g_add ?_ | refine g_sub ?_ | refine g_gt ?_ | refine g_ge ?_ | refine g_lt ?_ | refine g_le ?_ | refine g_isn ?_ | refine g_isb ?_ | refine g_isnb ?_ | refine g_lent ?_ | refine g_int ?_) | refine ⟨(lenL (by simp only [List.length_cons, List.length_nil]; omega) : List.length _ ≤ sizeLine), ?_⟩
  obtain ⟨k, hk, e⟩ : ∃ k : Nat, k ≤ 5 ∧ bMin2 [.int ((ns.map Vl.int).length : Nat), .int 5] S = some (.int k, S) := by
    by_cases h : (5 : Int) < (((ns.map Vl.int).length : Nat) : Int)
    · exact ⟨5, by omega, by show some (Vl.int (if _ then _ else _), S) = _; rw [if_pos h]; rfl⟩
    · exact ⟨(ns.map Vl.int).length, by omega, by show some (Vl.int (if _ then _ else _), S) = _; rw [if_neg h]⟩
  rw [e]
  rw [wo_some]
  repeat first | (with_reducible first | refine a_c ?_ | refine a_nil ?_ | refine a_cons ?_) | (with_reducible refine a_slot ?_; refine ⟨_, rfl, ?_⟩) | (with_reducible first | refine a_bin ?_ | refine a_bi ?_ | refine a_tup ?_ | refine a_lst ?_ | refine a_tst ?_ | refine a_not ?_ | refine a_and ?_ | refine a_or ?_ | refine a_ite ?_ | refine a_andV ?_ | refine a_orV ?_ | refine a_call ?_ | refine a_callK ?_ | refine a_met ?_ | refine a_sl ?_ | refine a_no ?_ | refine a_so ?_ | refine a_exi ?_ | refine a_neg ?_ | refine a_rev ?_ | refine a_gnm ?_ | refine a_gt2 ?_ | refine a_u0 ?_ | refine a_u1 ?_ | refine a_let ?_ | refine a_do ?_ | refine a_pars ?_ | refine a_rets ?_ | refine a_ifs ?_ | refine a_skips ?_ | refine a_set ?_ | refine a_exp ?_ | refine a_ret ?_ | refine a_if ?_ | refine a_par ?_ | refine a_as ?_ | refine a_bl ?_ | refine g_at0 ?_ | refine g_at1 ?_ | refine g_at2 ?_ | refine g_at3 ?_ | refine g_strs ?_ | refine g_nstr ?_ | refine g_eqi ?_ | refine g_nei ?_ | refine g_add ?_ | refine g_sub ?_ | refine g_gt ?_ | refine g_ge ?_ | refine g_lt ?_ | refine g_le ?_ | refine g_isn ?_ | refine g_isb ?_ | refine g_isnb ?_ | refine g_lent ?_ | refine g_int ?_) | refine ⟨(lenL (by simp only [List.length_cons, List.length_nil]; omega) : List.length _ ≤ sizeLine), ?_⟩
  have ej : ((2 : Int) + (k : Int)).toNat = 2 + k := by omega
  exact ⟨_, rfl, by omega, by omega, 2 + k, by omega, by rw [ej], rfl⟩
theorem law_gen {m : Nat} {ns : List Int} (hl : ns.length ≤ 63) : wpe ((lev (m + 21)).1 43 [.ref 0] (S0 ns)) noE fun r _ => r = .bl true := by
  rw [lv_law]
  refine w_run rfl ?_
  unfold b_law
  obtain ⟨C, hC⟩ : ∃ C, C = (lev (m + 20)).1 := ⟨_, rfl⟩
  obtain ⟨L, hL⟩ : ∃ L, L = (lev (m + 18)).1 := ⟨_, rfl⟩
  have eL : (lev (m + 20)).2.2 = L := by rw [hL]; exact lv_lam (m + 18)
  rw [eL, ← hC]
  refine s_cut (fun ρ S1 => ρ = en none none none none none none none none none none ∧ St 4 2 1 3 0 S1 ∧ S1.at_ 0 = .ro (ns.map Vl.int)) ?_ ?_
  · refine a_set (a_call (a_cons (a_slot ⟨_, rfl, a_nil ?_⟩)))
    rw [hC]
    refine wpe_mono (begun_w (n := m + 19) hl) ?_ (fun _ _ _ _ z => z.elim)
    rintro _ S1 ⟨rfl, s1, h0⟩
    exact ⟨rfl, s1, h0⟩
  rintro _ S1 ⟨rfl, s1, h0⟩
  refine s_cut (fun ρ S1 => EnS ρ ∧ St 4 2 1 3 6400 S1) ?_ ?_
  · refine s_for ?_
    refine wpe_mono (law_it h0) ?_ (fun _ _ _ _ z => z.elim)
    rintro _ S2 ⟨k, hk, rfl, rfl⟩
    refine ⟨rng k, fun i ρ S => EnS ρ ∧ St 4 2 1 3 (800 * i) S, ⟨⟨_, _, _, _, _, _, _, _, _, _, rfl⟩, s1⟩, fun i ρ S _ _ => rng_at, ?_, fun ρ S z => ⟨z.1, z.2.mono (by rw [rng_len]; omega)⟩⟩
    rintro i x ρ S hx ⟨⟨b2, b3, b4, b5, b6, b7, b8, b9, b10, b11, rfl⟩, s⟩
    obtain ⟨rfl, hi⟩ := rng_get hx
    refine a_gnm ?_
    show wps (bodyL C L (en (some (.int (i : Int))) b3 b4 b5 b6 b7 b8 b9 b10 b11) S) _
    refine wps_mono (law_turn hC hL s (by show 800 * i + 2500 < 2 ^ 40; omega)) ?_ (fun _ _ z => z.elim) (fun _ _ z => z.elim) (fun _ _ z => z.elim) (fun _ _ _ _ z => z.elim)
    rintro ρ S1 ⟨h, s1⟩
    exact ⟨h, s1.mono (by omega)⟩
  · rintro _ S2 ⟨⟨b2, b3, b4, b5, b6, b7, b8, b9, b10, b11, rfl⟩, s2⟩
    refine a_ret (a_call (a_cons (a_slot ⟨_, rfl, a_nil ?_⟩)))
    exact edges_w (m := m + 13) hC s2 (by decide)
end G

set_option linter.all false
set_option maxRecDepth 100000
set_option maxHeartbeats 4000000
namespace G
open PySem PySem.Spec PyProof.Rows L2 Q

theorem plain : Plain := fun ns h _ => by
  obtain ⟨r, S', h1, h2⟩ := wpe_ok (law_gen (m := 208) (ns := ns) h)
  subst h2
  exact ⟨S', h1⟩
end G

theorem PySem.Challenge.cw_oneuseheads_k71_box_machines_judged_and_holds : PySem.Challenge.rw_oneuseheads_k71_box_machines_judged_and.Holds := by
  exact G.holds G.plain