import PyProof.Rows.All
import Wide.All
import OpenK.AllK
import Wide.FinOn
import HandS.ForMost
import HandS.Exc
import HandS.ExcOwn
import HandS.ExcInit
import HandS.ExcField
import HandS.TryOnly
import HandS.IsInst
import HandS.TupAny
import HandS.TupMul
import HandS.WordsExc
import HandS.CallSlots
import PySem.Challenge.RW_wholenuclei_k76_end_forms
set_option Elab.async false
set_option linter.all false
set_option maxRecDepth 100000
set_option maxHeartbeats 4000000
/-! AL1: data, heaps that stand for data, abstract readings of expressions. -/
namespace AL
open PySem PySem.Spec PyProof.Rows L2

/-! ### data -/
inductive Da where
  | non | bl (b : Bool) | int (i : Int) | str (x : Str) | tup (l : List Da) | lst (l : List Da) | ptr (a : Addr)
  /-- an own error that is held: its object, its class, its dict, its value -/
  | exc (a C dd : Addr) (d : Da)
  /-- the script -/
  | scr (ns : List Int)

/-- the script's ints stand at a -/
structure Scr (K : PySem.W.Frag) (B : Hp) (a : Addr) (ns : List Int) : Prop where
  sq : SqL K B a (ns.map V.int)
mutual
inductive Rp (K : PySem.W.Frag) (B : Hp) : V → Da → Prop
  | non : Rp K B .non .non
  | bl (b : Bool) : Rp K B (.bl b) (.bl b)
  | int (i : Int) : Rp K B (.int i) (.int i)
  | str (x : Str) : Rp K B (.str x) (.str x)
  | tup {a : Addr} {xs : List V} {l : List Da} : B a = some (.tup xs) → RpAll K B xs l → Rp K B (.ref a) (.tup l)
  | lst {a : Addr} {xs : List V} {l : List Da} : B a = some (.lst xs) → RpAll K B xs l → Rp K B (.ref a) (.lst l)
  | ptr (a : Addr) : Rp K B (.ref a) (.ptr a)
  | scr {a : Addr} {ns : List Int} : Scr K B a ns → Rp K B (.ref a) (.scr ns)
  | exc {a C dd : Addr} {v : V} {d : Da} : B dd = some (.xd [("value", v)]) → Rp K B v d → Rp K B (.ref a) (.exc a C dd d)
inductive RpAll (K : PySem.W.Frag) (B : Hp) : List V → List Da → Prop
  | nil : RpAll K B [] []
  | cons {v : V} {vs : List V} {d : Da} {ds : List Da} : Rp K B v d → RpAll K B vs ds → RpAll K B (v :: vs) (d :: ds)
end

/-- nothing that stands is changed -/
abbrev Ex := Same
theorem Ex.refl (H : Hp) : Ex H H := Same.refl H
theorem Ex.new {H : Hp} {p : Addr} {o : HO} (h : H p = none) : Ex H (upd H p o) := fun a u e => by
  rw [upd_ne (ne_of_none e h)]
  exact e

section
variable {K : PySem.W.Frag} {B B' : Hp}
mutual
theorem Rp.mono (e : Ex B B') : ∀ {v : V} {d : Da}, Rp K B v d → Rp K B' v d
  | _, _, .non => .non
  | _, _, .bl b => .bl b
  | _, _, .int i => .int i
  | _, _, .str x => .str x
  | _, _, .tup h r => .tup (e _ _ h) (RpAll.mono e r)
  | _, _, .lst h r => .lst (e _ _ h) (RpAll.mono e r)
  | _, _, .ptr a => .ptr a
  | _, _, .exc h r => .exc (e _ _ h) (Rp.mono e r)
  | _, _, .scr h => .scr ⟨Same.seq e h.sq⟩
theorem RpAll.mono (e : Ex B B') : ∀ {vs : List V} {ds : List Da}, RpAll K B vs ds → RpAll K B' vs ds
  | _, _, .nil => .nil
  | _, _, .cons r t => .cons (Rp.mono e r) (RpAll.mono e t)
end
theorem RpAll.length : ∀ {vs : List V} {ds : List Da}, RpAll K B vs ds → vs.length = ds.length
  | _, _, .nil => rfl
  | _, _, .cons _ t => by rw [List.length_cons, List.length_cons, RpAll.length t]
theorem RpAll.append : ∀ {xs ys : List V} {ds es : List Da}, RpAll K B xs ds → RpAll K B ys es → RpAll K B (xs ++ ys) (ds ++ es)
  | _, _, _, _, .nil, s => s
  | _, _, _, _, .cons r t, s => .cons r (RpAll.append t s)
theorem RpAll.get : ∀ {xs : List V} {ds : List Da} {i : Nat} {x : V}, RpAll K B xs ds → xs[i]? = some x → ∃ d, ds[i]? = some d ∧ Rp K B x d
  | _, _, _, _, .nil, e => by simp at e
  | _, _, 0, _, .cons r _, e => by simp at e; subst e; exact ⟨_, rfl, r⟩
  | _, _, i + 1, x, .cons _ t, e => by
    obtain ⟨u, h1, h2⟩ := RpAll.get (i := i) (x := x) t (by simpa using e)
    exact ⟨u, by simpa using h1, h2⟩
theorem RpAll.at : ∀ {xs : List V} {ds : List Da} {i : Nat} {d : Da}, RpAll K B xs ds → ds[i]? = some d → ∃ x, xs[i]? = some x ∧ Rp K B x d
  | _, _, _, _, .nil, e => by simp at e
  | _, _, 0, _, .cons r _, e => by simp at e; subst e; exact ⟨_, rfl, r⟩
  | _, _, i + 1, d, .cons _ t, e => by
    obtain ⟨u, h1, h2⟩ := RpAll.at (i := i) (d := d) t (by simpa using e)
    exact ⟨u, by simpa using h1, h2⟩
theorem RpAll.take : ∀ {xs : List V} {ds : List Da} (n : Nat), RpAll K B xs ds → RpAll K B (xs.take n) (ds.take n)
  | _, _, 0, _ => .nil
  | _, _, _ + 1, .nil => .nil
  | _, _, n + 1, .cons r t => .cons r (RpAll.take n t)
theorem RpAll.drop : ∀ {xs : List V} {ds : List Da} (n : Nat), RpAll K B xs ds → RpAll K B (xs.drop n) (ds.drop n)
  | _, _, 0, r => r
  | _, _, _ + 1, .nil => .nil
  | _, _, n + 1, .cons _ t => RpAll.drop n t
theorem RpAll.rep {xs : List V} {ds : List Da} (h : RpAll K B xs ds) : ∀ k : Nat, RpAll K B (List.replicate k xs).flatten (List.replicate k ds).flatten
  | 0 => .nil
  | k + 1 => by
    rw [List.replicate_succ, List.replicate_succ, List.flatten_cons, List.flatten_cons]
    exact h.append (RpAll.rep h k)
theorem RpAll.set {x : V} {d : Da} (r : Rp K B x d) : ∀ {xs : List V} {ds : List Da} (i : Nat), RpAll K B xs ds → RpAll K B (xs.set i x) (ds.set i d)
  | _, _, _, .nil => .nil
  | _, _, 0, .cons _ t => .cons r t
  | _, _, i + 1, .cons q t => .cons q (RpAll.set r i t)
theorem RpAll.dropLast {xs : List V} {ds : List Da} (h : RpAll K B xs ds) : RpAll K B xs.dropLast ds.dropLast := by
  rw [List.dropLast_eq_take, List.dropLast_eq_take, h.length]
  exact h.take _
theorem RpAll.eraseIdx : ∀ {xs : List V} {ds : List Da} (i : Nat), RpAll K B xs ds → RpAll K B (xs.eraseIdx i) (ds.eraseIdx i)
  | _, _, _, .nil => .nil
  | _, _, 0, .cons _ t => t
  | _, _, i + 1, .cons q t => .cons q (RpAll.eraseIdx i t)
theorem RpAll.nil_iff {xs : List V} {ds : List Da} (h : RpAll K B xs ds) : xs = [] ↔ ds = [] := by
  cases h with
  | nil => exact ⟨fun _ => rfl, fun _ => rfl⟩
  | cons r t => exact ⟨(fun z => by cases z), (fun z => by cases z)⟩
theorem RpAll.ints : ∀ {xs : List V} {ns : List Int}, RpAll K B xs (ns.map Da.int) → xs = ns.map V.int
  | _, [], h => by cases h; rfl
  | _, n :: ns, h => by
    rw [List.map_cons] at h
    cases h with
    | cons r t =>
      cases r
      rw [RpAll.ints t]
      rfl
theorem rpAll_ints : ∀ {ns : List Int}, RpAll K B (ns.map V.int) (ns.map Da.int)
  | [] => .nil
  | n :: ns => .cons (.int n) rpAll_ints
theorem RpAll.bls : ∀ {xs : List V} {bs : List Bool}, RpAll K B xs (bs.map Da.bl) → xs = bs.map V.bl
  | _, [], h => by cases h; rfl
  | _, n :: ns, h => by
    rw [List.map_cons] at h
    cases h with
    | cons r t =>
      cases r
      rw [RpAll.bls t]
      rfl
theorem RpAll.strs : ∀ {xs : List V} {bs : List Str}, RpAll K B xs (bs.map Da.str) → xs = bs.map V.str
  | _, [], h => by cases h; rfl
  | _, n :: ns, h => by
    rw [List.map_cons] at h
    cases h with
    | cons r t =>
      cases r
      rw [RpAll.strs t]
      rfl
end

/-! ### data as PyData, == -/
mutual
def Da.py : Da → PyData
  | .non => .none
  | .bl b => .bool b
  | .int i => .int i
  | .str x => .str x
  | .tup l => .tuple (pyAll l)
  | .lst l => .list (pyAll l)
  | .ptr _ => .none
  | .exc _ _ _ _ => .none
  | .scr _ => .none
def pyAll : List Da → List PyData
  | [] => []
  | d :: l => d.py :: pyAll l
end
mutual
/-- no pointer within -/
def Da.nop : Da → Bool
  | .tup l => nopAll l
  | .lst l => nopAll l
  | .ptr _ => false
  | .exc _ _ _ _ => false
  | .scr _ => false
  | _ => true
def nopAll : List Da → Bool
  | [] => true
  | d :: l => d.nop && nopAll l
end
/-- may be compared -/
def Da.ok (d : Da) : Bool := d.nop && SeqAt.shaped d.py
/-- Python's == -/
def Da.eqv (d e : Da) : Bool := PyData.eqv d.py e.py
section
variable {K : PySem.W.Frag} {B : Hp}
mutual
theorem Rp.dp {H : Hp} (x : Ex B H) : ∀ {v : V} {d : Da}, Rp K B v d → d.nop = true → Dp K H v d.py
  | _, _, .non, _ => .non
  | _, _, .bl b, _ => .bl b
  | _, _, .int i, _ => .int i
  | _, _, .str s, _ => .str s
  | _, _, .tup h r, n => .tup (.inl (.inl (x _ _ h))) (RpAll.dp x r n)
  | _, _, .lst h r, n => .lst (.inl (.inl (x _ _ h))) (RpAll.dp x r n)
  | _, _, .ptr _, n => absurd (show false = true from n) Bool.false_ne_true
  | _, _, .exc _ _, n => absurd (show false = true from n) Bool.false_ne_true
  | _, _, .scr _, n => absurd (show false = true from n) Bool.false_ne_true
theorem RpAll.dp {H : Hp} (x : Ex B H) : ∀ {vs : List V} {ds : List Da}, RpAll K B vs ds → nopAll ds = true → DpAll K H vs (pyAll ds)
  | _, _, .nil, _ => .nil
  | _, _, .cons r t, n => by
    have h := Bool.and_eq_true_iff.mp n
    exact .cons (Rp.dp x r h.1) (RpAll.dp x t h.2)
end
end

/-! ### objects that change -/
inductive Mo where
  | lst (l : List Da)
  | any (S : List Da → Prop)
abbrev Mu := Addr → Option Mo
def updM (μ : Mu) (a : Addr) (o : Mo) : Mu := fun b => if b = a then some o else μ b
theorem updM_same {μ : Mu} {a : Addr} {o : Mo} : updM μ a o a = some o := if_pos rfl
theorem updM_ne {μ : Mu} {a b : Addr} {o : Mo} (h : b ≠ a) : updM μ a o b = μ b := if_neg h
theorem updM_updM {μ : Mu} {a : Addr} {o u : Mo} : updM (updM μ a o) a u = updM μ a u := by
  funext b; unfold updM; split <;> rfl
def Mok (K : PySem.W.Frag) (B H : Hp) (a : Addr) : Mo → Prop
  | .lst l => ∃ xs, H a = some (.lst xs) ∧ RpAll K B xs l
  | .any S => ∃ xs l, H a = some (.lst xs) ∧ RpAll K B xs l ∧ S l
theorem Mok.there {K : PySem.W.Frag} {B H : Hp} {a : Addr} {o : Mo} (h : Mok K B H a o) : ∃ u, H a = some u := by
  cases o with
  | lst l => obtain ⟨xs, e, _⟩ := h; exact ⟨_, e⟩
  | any S => obtain ⟨xs, l, e, _⟩ := h; exact ⟨_, e⟩
theorem Mok.mono {K : PySem.W.Frag} {B H B' H' : Hp} {a : Addr} {o : Mo} (h : Mok K B H a o) (e : Ex B B') (k : H' a = H a) : Mok K B' H' a o := by
  cases o with
  | lst l => obtain ⟨xs, q, r⟩ := h; exact ⟨xs, k.trans q, r.mono e⟩
  | any S => obtain ⟨xs, l, q, r, s⟩ := h; exact ⟨xs, l, k.trans q, r.mono e, s⟩
structure Mem (K : PySem.W.Frag) (B H : Hp) (μ : Mu) : Prop where
  ex : Ex B H
  mu : ∀ a o, μ a = some o → B a = none ∧ Mok K B H a o
section
variable {K : PySem.W.Frag} {B H : Hp} {μ : Mu}
theorem Mem.ne (M : Mem K B H μ) {p a : Addr} {o : Mo} (hp : H p = none) (ha : μ a = some o) : a ≠ p := by
  obtain ⟨u, hu⟩ := (M.mu a o ha).2.there
  exact ne_of_none hu hp
theorem Mem.free (M : Mem K B H μ) {p : Addr} (hp : H p = none) : μ p = none := by
  cases e : μ p with
  | none => rfl
  | some o => exact absurd rfl (M.ne hp e)
theorem Mem.base (M : Mem K B H μ) {p : Addr} (hp : H p = none) : B p = none := Same.free M.ex hp
/-- a new object that never changes -/
theorem Mem.fix (M : Mem K B H μ) {p : Addr} {o : HO} (hp : H p = none) : Mem K (upd B p o) (upd H p o) μ := by
  refine ⟨fun a u e => ?_, fun a u e => ?_⟩
  · by_cases h : a = p
    · subst h
      rw [upd_same] at e
      rw [upd_same]
      exact e
    · rw [upd_ne h] at e
      rw [upd_ne h]
      exact M.ex a u e
  · obtain ⟨h1, h2⟩ := M.mu a u e
    have ne := M.ne hp e
    exact ⟨by rw [upd_ne ne]; exact h1, h2.mono (Ex.new (M.base hp)) (upd_ne ne)⟩
/-- a new list that may change -/
theorem Mem.own (M : Mem K B H μ) {p : Addr} {xs : List V} {l : List Da} (hp : H p = none) (r : RpAll K B xs l) : Mem K B (upd H p (.lst xs)) (updM μ p (.lst l)) := by
  refine ⟨fun a u e => ?_, fun a u e => ?_⟩
  · have h : a ≠ p := ne_of_none (M.ex a u e) hp
    rw [upd_ne h]
    exact M.ex a u e
  · by_cases h : a = p
    · subst h
      rw [updM_same] at e
      cases e
      exact ⟨M.base hp, xs, upd_same, r⟩
    · rw [updM_ne h] at e
      obtain ⟨h1, h2⟩ := M.mu a u e
      exact ⟨h1, h2.mono (Ex.refl B) (upd_ne h)⟩
/-- a list that is changed -/
theorem Mem.set (M : Mem K B H μ) {p : Addr} {o : Mo} {xs : List V} {l : List Da} (hp : μ p = some o) (r : RpAll K B xs l) : Mem K B (upd H p (.lst xs)) (updM μ p (.lst l)) := by
  have hb := (M.mu p o hp).1
  refine ⟨fun a u e => ?_, fun a u e => ?_⟩
  · have h : a ≠ p := ne_of_none e hb
    rw [upd_ne h]
    exact M.ex a u e
  · by_cases h : a = p
    · subst h
      rw [updM_same] at e
      cases e
      exact ⟨hb, xs, upd_same, r⟩
    · rw [updM_ne h] at e
      obtain ⟨h1, h2⟩ := M.mu a u e
      exact ⟨h1, h2.mono (Ex.refl B) (upd_ne h)⟩
/-- a list of one's own is let go: it never changes any more -/
theorem Mem.freeze (M : Mem K B H μ) {p : Addr} {l : List Da} (hp : μ p = some (.lst l)) : ∃ xs, RpAll K B xs l ∧ Mem K (upd B p (.lst xs)) H (fun b => if b = p then none else μ b) := by
  obtain ⟨hb, xs, hx, r⟩ := M.mu p _ hp
  refine ⟨xs, r, fun a u e => ?_, fun a u e => ?_⟩
  · by_cases h : a = p
    · subst h
      rw [upd_same] at e
      exact hx.trans e
    · rw [upd_ne h] at e
      exact M.ex a u e
  · by_cases h : a = p
    · rw [if_pos h] at e
      cases e
    · rw [if_neg h] at e
      obtain ⟨h1, h2⟩ := M.mu a u e
      exact ⟨by rw [upd_ne h]; exact h1, h2.mono (Ex.new hb) rfl⟩
/-- what is told of less -/
theorem Mem.sub (M : Mem K B H μ) {μ' : Mu} (h : ∀ a o, μ' a = some o → μ a = some o) : Mem K B H μ' := ⟨M.ex, fun a o e => M.mu a o (h a o e)⟩
theorem Mem.open (M : Mem K B H μ) {p : Addr} {S : List Da → Prop} (hp : μ p = some (.any S)) : ∃ l, S l ∧ Mem K B H (updM μ p (.lst l)) := by
  obtain ⟨hb, xs, l, hx, r, s⟩ := M.mu p _ hp
  refine ⟨l, s, M.ex, fun a u e => ?_⟩
  by_cases h : a = p
  · subst h
    rw [updM_same] at e
    cases e
    exact ⟨hb, xs, hx, r⟩
  · rw [updM_ne h] at e
    exact M.mu a u e
theorem Mem.shut (M : Mem K B H μ) {p : Addr} {S : List Da → Prop} {l : List Da} (hp : μ p = some (.lst l)) (s : S l) : Mem K B H (updM μ p (.any S)) := by
  obtain ⟨hb, xs, hx, r⟩ := M.mu p _ hp
  refine ⟨M.ex, fun a u e => ?_⟩
  by_cases h : a = p
  · subst h
    rw [updM_same] at e
    cases e
    exact ⟨hb, xs, l, hx, r, s⟩
  · rw [updM_ne h] at e
    exact M.mu a u e
end

/-! ### the names' values -/
abbrev Env := List (Option Da)
def RO (K : PySem.W.Frag) (B : Hp) : Option V → Option Da → Prop
  | _, none => True
  | some v, some d => Rp K B v d
  | none, some _ => False
abbrev Envs (K : PySem.W.Frag) (B : Hp) (σ : L2.St) (ρ : Env) : Prop := Paired (RO K B) σ ρ
theorem RO.mono {K : PySem.W.Frag} {B B' : Hp} (e : Ex B B') {x : Option V} {y : Option Da} (h : RO K B x y) : RO K B' x y := by
  cases y with
  | none => trivial
  | some d =>
    cases x with
    | none => exact h
    | some v => exact Rp.mono e h
theorem Envs.mono {K : PySem.W.Frag} {B B' : Hp} (e : Ex B B') {σ : L2.St} {ρ : Env} (h : Envs K B σ ρ) : Envs K B' σ ρ := Paired.mapP h fun _ _ q => RO.mono e q
def Env.get : Env → Nat → Option Da
  | [], _ => none
  | x :: _, 0 => x
  | _ :: r, i + 1 => Env.get r i
theorem Envs.get {K : PySem.W.Frag} {B : Hp} : ∀ {σ : L2.St} {ρ : Env} {i : Nat} {d : Da}, Envs K B σ ρ → Env.get ρ i = some d → ∃ v, σ[i]? = some (some v) ∧ Rp K B v d
  | _, _, i, d, .nil, e => by cases i <;> cases e
  | _, _, 0, d, .cons (a := x) (b := y) r _, e => by
    have e' : y = some d := e
    subst e'
    cases x with
    | none => exact r.elim
    | some v => exact ⟨v, rfl, r⟩
  | _, _, i + 1, d, .cons _ t, e => by
    obtain ⟨v, h1, h2⟩ := Envs.get (i := i) t e
    exact ⟨v, by simpa using h1, h2⟩
theorem Envs.set {K : PySem.W.Frag} {B : Hp} {v : V} {d : Da} (r : Rp K B v d) : ∀ {σ : L2.St} {ρ : Env} (i : Nat), Envs K B σ ρ → Envs K B (σ.set i (some v)) (ρ.set i (some d))
  | _, _, _, .nil => .nil
  | _, _, 0, .cons _ t => .cons r t
  | _, _, i + 1, .cons q t => .cons q (Envs.set r i t)
theorem Envs.unset {K : PySem.W.Frag} {B : Hp} {x : Option V} : ∀ {σ : L2.St} {ρ : Env} (i : Nat), Envs K B σ ρ → Envs K B (σ.set i x) (ρ.set i none)
  | _, _, _, .nil => .nil
  | _, _, 0, .cons _ t => .cons trivial t
  | _, _, i + 1, .cons q t => .cons q (Envs.unset i t)
/-- slots forgotten -/
def wipeA (ρ : Env) : List Nat → Env
  | [] => ρ
  | v :: vs => (wipeA ρ vs).set v none
theorem Envs.wipe {K : PySem.W.Frag} {B : Hp} {σ : L2.St} {ρ : Env} (h : Envs K B σ ρ) : ∀ vs, Envs K B (L2.wipe σ vs) (wipeA ρ vs)
  | [] => h
  | v :: vs => Envs.unset v (Envs.wipe h vs)
theorem envs_start {K : PySem.W.Frag} {B : Hp} {N : List Str} {vs : List V} {ds : List Da} (r : RpAll K B vs ds) : Envs K B (L2.start N vs) (ds.map some ++ List.replicate (N.length - ds.length) none) := by
  unfold L2.start
  rw [r.length]
  have h1 : ∀ {vs : List V} {ds : List Da}, RpAll K B vs ds → Paired (RO K B) (vs.map some) (ds.map some) := by
    intro vs
    induction vs with
    | nil => intro ds r; cases r; exact .nil
    | cons v vs ih =>
      intro ds r
      cases r with
      | cons r t => exact .cons r (ih t)
  have h2 : ∀ n, Paired (RO K B) (List.replicate n (none : Option V)) (List.replicate n (none : Option Da)) := by
    intro n
    induction n with
    | zero => exact .nil
    | succ n ih => exact .cons trivial ih
  have h3 : ∀ {a a' : List (Option V)} {b b' : List (Option Da)}, Paired (RO K B) a b → Paired (RO K B) a' b' → Paired (RO K B) (a ++ a') (b ++ b') := by
    intro a
    induction a with
    | nil => intro a' b b' h h'; cases h; exact h'
    | cons x a ih =>
      intro a' b b' h h'
      cases h with
      | cons r t => exact .cons r (ih t h')
  exact h3 (h1 r) (h2 _)

/-! ### abstract readings -/
/-- what is wanted of an own error: its class, the value it carries -/
abbrev AX := Addr → Da → Env → Mu → Prop
abbrev WE := AX → Env → Mu → (Da → Mu → Prop) → Prop
abbrev WT := AX → Env → Mu → (Bool → Mu → Prop) → Prop
abbrev WA := AX → Env → Mu → (List Da → Mu → Prop) → Prop
structure AEnds where
  nx : Env → Mu → Prop
  rt : Da → Mu → Prop
  bk : Env → Mu → Prop
  ct : Env → Mu → Prop
abbrev WS := AX → AEnds → Env → Mu → Prop

def WL (K : PySem.W.Frag) (B : Hp) (ex : AX) (Wc : WX) : Prop := ∀ (C dd : Addr) (d : Da) (v : V) (B' H' : Hp) (μ' : Mu) (σ' : L2.St) (ρ' : Env), Ex B B' → Mem K B' H' μ' → Envs K B' σ' ρ' → Rp K B' v d → H' dd = some (.xd [("value", v)]) → ex C d ρ' μ' → Wc (.ref C) (some dd) σ' H'
theorem WL.mono {K : PySem.W.Frag} {B B1 : Hp} {ex : AX} {Wc : WX} (h : WL K B ex Wc) (e : Ex B B1) : WL K B1 ex Wc := fun C dd d v B' H' μ' σ' ρ' e' => h C dd d v B' H' μ' σ' ρ' (e.trans e')
structure LE (K : PySem.W.Frag) (B : Hp) (A : AEnds) (D : Ends) : Prop where
  nx : ∀ (B' H' : Hp) (μ' : Mu) (σ' : L2.St) (ρ' : Env), Ex B B' → Mem K B' H' μ' → Envs K B' σ' ρ' → A.nx ρ' μ' → D.nx σ' H'
  rt : ∀ (B' H' : Hp) (μ' : Mu) (v : V) (d : Da), Ex B B' → Mem K B' H' μ' → Rp K B' v d → A.rt d μ' → D.rt v H'
  bk : ∀ (B' H' : Hp) (μ' : Mu) (σ' : L2.St) (ρ' : Env), Ex B B' → Mem K B' H' μ' → Envs K B' σ' ρ' → A.bk ρ' μ' → D.bk σ' H'
  ct : ∀ (B' H' : Hp) (μ' : Mu) (σ' : L2.St) (ρ' : Env), Ex B B' → Mem K B' H' μ' → Envs K B' σ' ρ' → A.ct ρ' μ' → D.ct σ' H'
theorem LE.mono {K : PySem.W.Frag} {B B1 : Hp} {A : AEnds} {D : Ends} (h : LE K B A D) (e : Ex B B1) : LE K B1 A D :=
  ⟨fun B' H' μ' σ' ρ' e' => h.nx B' H' μ' σ' ρ' (e.trans e'), fun B' H' μ' v d e' => h.rt B' H' μ' v d (e.trans e'), fun B' H' μ' σ' ρ' e' => h.bk B' H' μ' σ' ρ' (e.trans e'), fun B' H' μ' σ' ρ' e' => h.ct B' H' μ' σ' ρ' (e.trans e')⟩

def AEp (K : PySem.W.Frag) (Wc : WX) (t : TE) (W : WE) : Prop := ∀ ex ρ μ P, W ex ρ μ P → ∀ (B H : Hp) (σ : L2.St) (Q : VK), Mem K B H μ → Envs K B σ ρ → WL K B ex Wc →
  (∀ v d B' H' μ', Ex B B' → Mem K B' H' μ' → Rp K B' v d → P d μ' → Q v H') → t σ H Q
def ATp (K : PySem.W.Frag) (Wc : WX) (t : TT) (W : WT) : Prop := ∀ ex ρ μ P, W ex ρ μ P → ∀ (B H : Hp) (σ : L2.St) (Q : Bool → Hp → Prop), Mem K B H μ → Envs K B σ ρ → WL K B ex Wc →
  (∀ b B' H' μ', Ex B B' → Mem K B' H' μ' → P b μ' → Q b H') → t σ H Q
def AAp (K : PySem.W.Frag) (Wc : WX) (t : TA) (W : WA) : Prop := ∀ ex ρ μ P, W ex ρ μ P → ∀ (B H : Hp) (σ : L2.St) (Q : List V → Hp → Prop), Mem K B H μ → Envs K B σ ρ → WL K B ex Wc →
  (∀ vs ds B' H' μ', Ex B B' → Mem K B' H' μ' → RpAll K B' vs ds → P ds μ' → Q vs H') → t σ H Q
def ASp (K : PySem.W.Frag) (Wc : WX) (t : TS) (W : WS) : Prop := ∀ ex A ρ μ, W ex A ρ μ → ∀ (B H : Hp) (σ : L2.St) (D : Ends), Mem K B H μ → Envs K B σ ρ → WL K B ex Wc → LE K B A D → t D σ H

structure AE (X : Cx) (Wc : WX) (e : Expr) (t : TE) (W : WE) : Prop where
  pe : PE X e t
  ae : AEp X.K Wc t W
structure AT (X : Cx) (Wc : WX) (e : Expr) (t : TT) (W : WT) : Prop where
  pt : PT X e t
  ae : ATp X.K Wc t W
structure AW (X : Cx) (Wc : WX) (e : Expr) (t : TT) (W : WT) : Prop where
  pw : PW X e t
  ae : ATp X.K Wc t W
structure AA (X : Cx) (Wc : WX) (es : List Expr) (t : TA) (W : WA) : Prop where
  pa : PA X es t
  ae : AAp X.K Wc t W
structure AS (X : Cx) (Wc : WX) (st : Stmt) (t : TS) (W : WS) : Prop where
  ps : PS X st t
  ae : ASp X.K Wc t W
structure ASs (X : Cx) (Wc : WX) (st : List Stmt) (t : TS) (W : WS) : Prop where
  ps : PSs X st t
  ae : ASp X.K Wc t W

section
variable {X : Cx} {Wc : WX} {a b c e : Expr} {es : List Expr} {ta tb tc te : TE} {Wa Wb We Wcc : WE} {pos p p' p2 : Pos}

/-! ### names, constants -/
def wVar (i : Nat) : WE := fun _ ρ μ P => match Env.get ρ i with
  | some d => P d μ
  | none => False
def wC (d : Da) : WE := fun _ _ μ P => P d μ
theorem ap_var {K : PySem.W.Frag} {i : Nat} : AEp K Wc (tVar i) (wVar i) := fun ex ρ μ P w B H σ Q M S _ q => by
  unfold wVar at w
  cases e : Env.get ρ i with
  | none => rw [e] at w; exact w.elim
  | some d =>
    rw [e] at w
    obtain ⟨v, h1, h2⟩ := S.get e
    exact ⟨v, h1, q v d B H μ (Ex.refl B) M h2 w⟩
theorem ap_c {K : PySem.W.Frag} {v : V} {d : Da} (r : ∀ B, Rp K B v d) : AEp K Wc (tC v) (wC d) := fun _ _ μ _ w B H _ _ M _ _ q => q v d B H μ (Ex.refl B) M (r B) w
theorem ae_var (i : Nat) {x : Str} (hN : X.N[i]? = some x := by rfl) (hv : Vis X.env.scope x := by first | exact Or.inl rfl | exact Or.inr (Or.inl rfl) | exact Or.inr (Or.inr rfl)) (hd : (x == ("__debug__" : Str)) = false := by decide)
    (hcd : (x == ("__classdict__" : Str)) = false := by decide) : AE X Wc (.Name x pos) (tVar i) (wVar i) := ⟨pe_var hN hv hd hcd, ap_var⟩
theorem ae_int {i j} : AE X Wc (.Constant (.int i) j pos) (tC (.int i)) (wC (.int i)) := ⟨pe_int, ap_c fun _ => .int i⟩
theorem ae_bl {b j} : AE X Wc (.Constant (.bool b) j pos) (tC (.bl b)) (wC (.bl b)) := ⟨pe_bl, ap_c fun _ => .bl b⟩
theorem ae_non {j} : AE X Wc (.Constant .none j pos) (tC .non) (wC .non) := ⟨pe_non, ap_c fun _ => .non⟩
theorem ae_str {x j} : AE X Wc (.Constant (.str x) j pos) (tC (.str x)) (wC (.str x)) := ⟨pe_str, ap_c fun _ => .str x⟩
/-- a module's number, text -/
theorem ae_globI {x : Str} {i : Int} {u : Value} (hg : Gl X x) (hm : X.mg x = some u) (r : RelV (.int i) u) (hd : (x == ("__debug__" : Str)) = false := by decide) : AE X Wc (.Name x pos) (tC (.int i)) (wC (.int i)) := ⟨pe_glob hg hm r hd, ap_c fun _ => .int i⟩
theorem ae_globS {x : Str} {z : Str} {u : Value} (hg : Gl X x) (hm : X.mg x = some u) (r : RelV (.str z) u) (hd : (x == ("__debug__" : Str)) = false := by decide) : AE X Wc (.Name x pos) (tC (.str z)) (wC (.str z)) := ⟨pe_glob hg hm r hd, ap_c fun _ => .str z⟩

/-! ### operators on two values -/
/-- an operator by values, on data -/
abbrev R2A := Da → Da → Mu → (Da → Mu → Prop) → Prop
def ROk (K : PySem.W.Frag) (r : R2) (R : R2A) : Prop := ∀ (x y : Da) (μ : Mu) (P : Da → Mu → Prop), R x y μ P → ∀ (B H : Hp) (u v : V) (Q : VK), Mem K B H μ → Rp K B u x → Rp K B v y →
  (∀ w d B' H' μ', Ex B B' → Mem K B' H' μ' → Rp K B' w d → P d μ' → Q w H') → r u v H Q
def wOp (R : R2A) (Wa Wb : WE) : WE := fun ex ρ μ P => Wa ex ρ μ fun x μ1 => Wb ex ρ μ1 fun y μ2 => R x y μ2 P
theorem ap_op {K : PySem.W.Frag} {r : R2} {R : R2A} (h : ROk K r R) (ha : AEp K Wc ta Wa) (hb : AEp K Wc tb Wb) : AEp K Wc (tOp r ta tb) (wOp R Wa Wb) := fun ex ρ μ P w B H σ Q M S L q =>
  ha ex ρ μ _ w B H σ _ M S L fun v d B1 H1 μ1 e1 M1 r1 w1 => hb ex ρ μ1 _ w1 B1 H1 σ _ M1 (S.mono e1) (L.mono e1) fun v2 d2 B2 H2 μ2 e2 M2 r2 w2 =>
    h d d2 μ2 P w2 B2 H2 v v2 Q M2 (r1.mono e2) r2 fun z d3 B3 H3 μ3 e3 M3 r3 w3 => q z d3 B3 H3 μ3 ((e1.trans e2).trans e3) M3 r3 w3
theorem ae_bin {op : Operator} {r : R2} {R : R2A} (ho : OpR X (binaryOp op) r) (h : ROk X.K r R) (ha : AE X Wc a ta Wa) (hb : AE X Wc b tb Wb) : AE X Wc (.BinOp a op b pos) (tOp r ta tb) (wOp R Wa Wb) := ⟨pe_op ho ha.pe hb.pe, ap_op h ha.ae hb.ae⟩
theorem ae_cmp {op : CmpOp} {r : R2} {R : R2A} (ho : OpR X (compareOp op) r) (h : ROk X.K r R) (hm : behindInMarks op b = false) (ha : AE X Wc a ta Wa) (hb : AE X Wc b tb Wb) : AE X Wc (.Compare a [op] [b] pos) (tOp r ta tb) (wOp R Wa Wb) := ⟨pe_cmpR ho ha.pe hb.pe hm, ap_op h ha.ae hb.ae⟩
def wTest (W : WE) : WT := fun ex ρ μ P => W ex ρ μ fun x μ1 => match x with
  | .bl c => P c μ1
  | _ => False
theorem at_test {K : PySem.W.Frag} (ha : AEp K Wc ta Wa) : ATp K Wc (tTest ta) (wTest Wa) := fun ex ρ μ P w B H σ Q M S L q => ha ex ρ μ _ w B H σ _ M S L fun v d B1 H1 μ1 e1 M1 r1 w1 => by
  cases r1 with
  | bl c => exact ⟨c, rfl, q c B1 H1 μ1 e1 M1 w1⟩
  | non => exact w1.elim
  | int i => exact w1.elim
  | str x => exact w1.elim
  | tup _ _ => exact w1.elim
  | lst _ _ => exact w1.elim
  | ptr x => exact w1.elim
  | exc _ _ => exact w1.elim
  | scr _ => exact w1.elim
theorem at_B {K : PySem.W.Frag} (ha : AEp K Wc ta Wa) : ATp K Wc (tB ta) (wTest Wa) := at_test ha
theorem at_cmp {op : CmpOp} {r : R2} {R : R2A} (ho : OpR X (compareOp op) r) (h : ROk X.K r R) (hm : behindInMarks op b = false) (ha : AE X Wc a ta Wa) (hb : AE X Wc b tb Wb) : AT X Wc (.Compare a [op] [b] pos) (tTest (tOp r ta tb)) (wTest (wOp R Wa Wb)) :=
  ⟨pt_cmpR ho ha.pe hb.pe hm, at_test (ap_op h ha.ae hb.ae)⟩
/-- a value that is True or False, as a test -/
theorem at_val (ha : AE X Wc a ta Wa) (he : ∀ whole, isTrue a X.env whole = (do let v ← whole; standAt a.pos; holding [v] (truthy v)) := by intro _; rfl) : AT X Wc a (tB ta) (wTest Wa) := ⟨pt_val ha.pe he, at_B ha.ae⟩

/-- two ints -/
def aI (C : Int → Int → Prop) (g : Int → Int → Da) : R2A := fun x y μ P => match x, y with
  | .int i, .int j => C i j ∧ P (g i j) μ
  | _, _ => False
theorem rok_I {K : PySem.W.Frag} {C : Int → Int → Prop} {g : Int → Int → V} {g' : Int → Int → Da} (hg : ∀ B i j, Rp K B (g i j) (g' i j)) : ROk K (rI C g) (aI C g') := fun x y μ P w B H u v Q M rx ry q => by
  cases rx <;> first | exact w.elim | skip
  cases ry <;> first | exact w.elim | skip
  exact ⟨_, _, rfl, rfl, w.1, q _ _ B H μ (Ex.refl B) M (hg B _ _) w.2⟩
def aI0 (g : Int → Int → Da) : R2A := fun x y μ P => match x, y with
  | .int i, .int j => P (g i j) μ
  | _, _ => False
theorem rok_I0 {K : PySem.W.Frag} {g : Int → Int → V} {g' : Int → Int → Da} (hg : ∀ B i j, Rp K B (g i j) (g' i j)) : ROk K (rI0 g) (aI0 g') := fun x y μ P w B H u v Q M rx ry q => by
  cases rx <;> first | exact w.elim | skip
  cases ry <;> first | exact w.elim | skip
  exact ⟨_, _, rfl, rfl, q _ _ B H μ (Ex.refl B) M (hg B _ _) w⟩
end
end AL
set_option Elab.async false
set_option linter.all false
set_option maxRecDepth 100000
set_option maxHeartbeats 4000000
/-! AL2: operators, calls of built-ins, displays, slices. -/
namespace AL
open PySem PySem.Spec PyProof.Rows L2
section
variable {X : Cx} {Wc : WX} {a b c e : Expr} {es : List Expr} {ta tb tc te : TE} {Wa Wb We Wcc : WE} {pos p p' p2 : Pos} {K : PySem.W.Frag}

/-! ### arithmetic -/
theorem ae_sub (ha : AE X Wc a ta Wa) (hb : AE X Wc b tb Wb) : AE X Wc (.BinOp a .Sub b pos) (tOp (rI0 fun i j => .int (i - j)) ta tb) (wOp (aI0 fun i j => .int (i - j)) Wa Wb) := ae_bin op_sub (rok_I0 fun _ _ _ => .int _) ha hb
theorem ae_mod (ha : AE X Wc a ta Wa) (hb : AE X Wc b tb Wb) : AE X Wc (.BinOp a .Mod b pos) (tOp (rI (fun _ j => 0 < j) fun i j => .int (i % j)) ta tb) (wOp (aI (fun _ j => 0 < j) fun i j => .int (i % j)) Wa Wb) := ae_bin op_mod (rok_I fun _ _ _ => .int _) ha hb
theorem ae_fdiv (ha : AE X Wc a ta Wa) (hb : AE X Wc b tb Wb) : AE X Wc (.BinOp a .FloorDiv b pos) (tOp (rI CDiv fun i j => .int (i / j)) ta tb) (wOp (aI CDiv fun i j => .int (i / j)) Wa Wb) := ae_bin op_fdiv (rok_I fun _ _ _ => .int _) ha hb
theorem ae_pow (ha : AE X Wc a ta Wa) (hb : AE X Wc b tb Wb) : AE X Wc (.BinOp a .Pow b pos) (tOp (rI CPow fun i j => .int (i ^ j.toNat)) ta tb) (wOp (aI CPow fun i j => .int (i ^ j.toNat)) Wa Wb) := ae_bin op_pow (rok_I fun _ _ _ => .int _) ha hb
/-- + : ints, texts, tuples, lists that don't change -/
def aAdd : R2A := fun x y μ P => match x, y with
  | .int i, .int j => P (.int (i + j)) μ
  | .str i, .str j => i.length + j.length ≤ sizeLine ∧ P (.str (i ++ j)) μ
  | .tup l, .tup m => l.length + m.length ≤ sizeLine ∧ P (.tup (l ++ m)) μ
  | .lst l, .lst m => l.length + m.length ≤ sizeLine ∧ P (.lst (l ++ m)) μ
  | _, _ => False
def rAddX (K : PySem.W.Frag) : R2 := fun x y H Q => rI0 (fun i j => .int (i + j)) x y H Q ∨ (fun x y H Q => ∃ i j, x = .str i ∧ y = .str j ∧ i.length + j.length ≤ sizeLine ∧ Q (.str (i ++ j)) H) x y H Q ∨ rCatA K x y H Q ∨ rCat x y H Q
theorem op_addX : OpR X (binaryOp .Add) (rAddX X.K) := op_add.or (op_add_str.or (op_catA.or op_cat))
theorem rok_add : ROk K (rAddX K) aAdd := fun x y μ P w B H u v Q M rx ry q => by
  cases rx with
  | int i =>
    cases ry <;> first | exact w.elim | skip
    exact .inl ⟨_, _, rfl, rfl, q _ _ B H μ (Ex.refl B) M (.int _) w⟩
  | str i =>
    cases ry <;> first | exact w.elim | skip
    exact .inr (.inl ⟨_, _, rfl, rfl, w.1, q _ _ B H μ (Ex.refl B) M (.str _) w.2⟩)
  | @tup a1 xs l h1 r1 =>
    cases ry <;> first | exact w.elim | skip
    rename_i b1 ys m h2 r2
    refine .inr (.inr (.inl ⟨a1, b1, xs, ys, rfl, rfl, .inl (.inl (M.ex _ _ h1)), .inl (.inl (M.ex _ _ h2)), by rw [r1.length, r2.length]; exact w.1, fun e => ?_, fun _ e => ?_, fun _ _ p hp => ?_⟩))
    · have el := r1.nil_iff.mp e
      subst el
      exact q _ _ B H μ (Ex.refl B) M (.tup h2 r2) w.2
    · have el := r2.nil_iff.mp e
      subst el
      have w2 := w.2
      rw [List.append_nil] at w2
      exact q _ _ B H μ (Ex.refl B) M (.tup h1 r1) w2
    · have hb := M.base hp
      exact q _ _ _ _ μ (Ex.new hb) (M.fix hp) (.tup upd_same ((r1.append r2).mono (Ex.new hb))) w.2
  | @lst a1 xs l h1 r1 =>
    cases ry <;> first | exact w.elim | skip
    rename_i b1 ys m h2 r2
    refine .inr (.inr (.inr ⟨a1, b1, xs, ys, rfl, rfl, M.ex _ _ h1, M.ex _ _ h2, by rw [r1.length, r2.length]; exact w.1, fun p hp => ?_⟩))
    have hb := M.base hp
    exact q _ _ _ _ μ (Ex.new hb) (M.fix hp) (.lst upd_same ((r1.append r2).mono (Ex.new hb))) w.2
  | non => exact w.elim
  | bl _ => exact w.elim
  | ptr _ => exact w.elim
  | exc _ _ => exact w.elim
  | scr _ => exact w.elim
theorem ae_add (ha : AE X Wc a ta Wa) (hb : AE X Wc b tb Wb) : AE X Wc (.BinOp a .Add b pos) (tOp (rAddX X.K) ta tb) (wOp aAdd Wa Wb) := ae_bin op_addX rok_add ha hb
/-- * : ints, a tuple or a list so often -/
def aMul : R2A := fun x y μ P => match x, y with
  | .int i, .int j => CMul i j ∧ P (.int (i * j)) μ
  | .tup l, .int k => (l ≠ [] ∧ 2 ≤ k ∧ k ≤ 1000 ∧ l.length ≤ 1000) ∧ P (.tup (List.replicate k.toNat l).flatten) μ
  | .lst l, .int k => (k ≤ 100000 ∧ -100000 ≤ k ∧ l.length ≤ 100) ∧ P (.lst (List.replicate k.toNat l).flatten) μ
  | _, _ => False
def rMulX (K : PySem.W.Frag) : R2 := fun x y H Q => rI CMul (fun i j => .int (i * j)) x y H Q ∨ rRepT K x y H Q ∨ rRep x y H Q
theorem op_mulX : OpR X (binaryOp .Mult) (rMulX X.K) := op_mul.or (op_repT.or op_rep)
theorem rok_mul : ROk K (rMulX K) aMul := fun x y μ P w B H u v Q M rx ry q => by
  cases rx with
  | int i =>
    cases ry <;> first | exact w.elim | skip
    exact .inl ⟨_, _, rfl, rfl, w.1, q _ _ B H μ (Ex.refl B) M (.int _) w.2⟩
  | @tup a1 xs l h1 r1 =>
    cases ry <;> first | exact w.elim | skip
    obtain ⟨⟨w1, w2, w3, w4⟩, w5⟩ := w
    refine .inr (.inl ⟨a1, _, xs, rfl, rfl, .inl (.inl (M.ex _ _ h1)), fun e => w1 (r1.nil_iff.mp e), w2, w3, by rw [r1.length]; exact w4, fun p hp => ?_⟩)
    have hb := M.base hp
    exact q _ _ _ _ μ (Ex.new hb) (M.fix hp) (.tup upd_same ((r1.rep _).mono (Ex.new hb))) w5
  | @lst a1 xs l h1 r1 =>
    cases ry <;> first | exact w.elim | skip
    obtain ⟨⟨w1, w2, w3⟩, w5⟩ := w
    refine .inr (.inr ⟨a1, _, xs, rfl, rfl, M.ex _ _ h1, by omega, by omega, ?_, fun p hp => ?_⟩)
    · rename_i k
      rw [r1.length, sizeLine_eq]
      have a1 : l.length * k.toNat ≤ 100 * 100000 := Nat.mul_le_mul w3 (by omega)
      omega
    · have hb := M.base hp
      exact q _ _ _ _ μ (Ex.new hb) (M.fix hp) (.lst upd_same ((r1.rep _).mono (Ex.new hb))) w5
  | non => exact w.elim
  | bl _ => exact w.elim
  | str _ => exact w.elim
  | ptr _ => exact w.elim
  | exc _ _ => exact w.elim
  | scr _ => exact w.elim
theorem ae_mul (ha : AE X Wc a ta Wa) (hb : AE X Wc b tb Wb) : AE X Wc (.BinOp a .Mult b pos) (tOp (rMulX X.K) ta tb) (wOp aMul Wa Wb) := ae_bin op_mulX rok_mul ha hb
/-- -a -/
def wNeg (Wa : WE) : WE := fun ex ρ μ P => Wa ex ρ μ fun x μ1 => match x with
  | .int i => P (.int (-i)) μ1
  | _ => False
theorem ae_neg (ha : AE X Wc a ta Wa) : AE X Wc (.UnaryOp .USub a pos) (tUn (rU fun i => .int (-i)) ta) (wNeg Wa) := ⟨pe_un un_neg ha.pe, fun ex ρ μ P w B H σ Q M S L q =>
  ha.ae ex ρ μ _ w B H σ _ M S L fun v d B1 H1 μ1 e1 M1 r1 w1 => by
    cases r1 <;> first | exact w1.elim | skip
    exact ⟨_, rfl, q _ _ B1 H1 μ1 e1 M1 (.int _) w1⟩⟩

/-! ### comparisons -/
def aEq (neg : Bool) : R2A := fun x y μ P => (x.ok = true ∧ y.ok = true) ∧ P (.bl (if neg then !x.eqv y else x.eqv y)) μ
theorem ok_nop {d : Da} (h : d.ok = true) : d.nop = true := (Bool.and_eq_true_iff.mp h).1
theorem ok_shaped {d : Da} (h : d.ok = true) : SeqAt.shaped d.py = true := (Bool.and_eq_true_iff.mp h).2
theorem rok_eq : ROk K (rEqD K) (aEq false) := fun x y μ P w B H u v Q M rx ry q =>
  ⟨x.py, y.py, rx.dp M.ex (ok_nop w.1.1), ry.dp M.ex (ok_nop w.1.2), ok_shaped w.1.1, ok_shaped w.1.2, q _ _ B H μ (Ex.refl B) M (.bl _) w.2⟩
theorem rok_ne : ROk K (rNeD K) (aEq true) := fun x y μ P w B H u v Q M rx ry q =>
  ⟨x.py, y.py, rx.dp M.ex (ok_nop w.1.1), ry.dp M.ex (ok_nop w.1.2), ok_shaped w.1.1, ok_shaped w.1.2, q _ _ B H μ (Ex.refl B) M (.bl _) w.2⟩
theorem ae_eq (hu : X.A.units + 64 < cLine) (ha : AE X Wc a ta Wa) (hb : AE X Wc b tb Wb) : AE X Wc (.Compare a [.Eq] [b] pos) (tOp (rEqD X.K) ta tb) (wOp (aEq false) Wa Wb) := ae_cmp (op_eqD hu) rok_eq (nomark _) ha hb
theorem ae_ne (hu : X.A.units + 64 < cLine) (ha : AE X Wc a ta Wa) (hb : AE X Wc b tb Wb) : AE X Wc (.Compare a [.NotEq] [b] pos) (tOp (rNeD X.K) ta tb) (wOp (aEq true) Wa Wb) := ae_cmp (op_neD hu) rok_ne (nomark _) ha hb
theorem ae_lt (ha : AE X Wc a ta Wa) (hb : AE X Wc b tb Wb) : AE X Wc (.Compare a [.Lt] [b] pos) (tOp (rI0 fun i j => .bl (decide (i < j))) ta tb) (wOp (aI0 fun i j => .bl (decide (i < j))) Wa Wb) := ae_cmp op_lt (rok_I0 fun _ _ _ => .bl _) (nomark _) ha hb
theorem ae_le (ha : AE X Wc a ta Wa) (hb : AE X Wc b tb Wb) : AE X Wc (.Compare a [.LtE] [b] pos) (tOp (rI0 fun i j => .bl (decide (i ≤ j))) ta tb) (wOp (aI0 fun i j => .bl (decide (i ≤ j))) Wa Wb) := ae_cmp op_le (rok_I0 fun _ _ _ => .bl _) (nomark _) ha hb
theorem ae_gt (ha : AE X Wc a ta Wa) (hb : AE X Wc b tb Wb) : AE X Wc (.Compare a [.Gt] [b] pos) (tOp (rI0 fun i j => .bl (decide (j < i))) ta tb) (wOp (aI0 fun i j => .bl (decide (j < i))) Wa Wb) := ae_cmp op_gt (rok_I0 fun _ _ _ => .bl _) (nomark _) ha hb
theorem ae_ge (ha : AE X Wc a ta Wa) (hb : AE X Wc b tb Wb) : AE X Wc (.Compare a [.GtE] [b] pos) (tOp (rI0 fun i j => .bl (decide (j ≤ i))) ta tb) (wOp (aI0 fun i j => .bl (decide (j ≤ i))) Wa Wb) := ae_cmp op_ge (rok_I0 fun _ _ _ => .bl _) (nomark _) ha hb
/-- is None -/
def Da.isNon : Da → Bool
  | .non => true
  | _ => false
def wIsN (neg : Bool) (Wa : WE) : WE := fun ex ρ μ P => Wa ex ρ μ fun x μ1 => P (.bl (if neg then !x.isNon else x.isNon)) μ1
theorem rp_non {B : Hp} {v : V} {d : Da} (r : Rp K B v d) : decide (v = .non) = d.isNon := by
  cases r <;> rfl
theorem ae_isN {j} {pos'} (ha : AE X Wc a ta Wa) : AE X Wc (.Compare a [.Is] [.Constant .none j pos'] pos) (tIsN ta) (wIsN false Wa) := ⟨pe_cmp (pc_isN ha.pe), fun ex ρ μ P w B H σ Q M S L q =>
  ha.ae ex ρ μ _ w B H σ _ M S L fun v d B1 H1 μ1 e1 M1 r1 w1 => by
    rw [rp_non r1]
    exact q _ _ B1 H1 μ1 e1 M1 (.bl _) w1⟩
theorem ae_notN {j} {pos'} (ha : AE X Wc a ta Wa) : AE X Wc (.Compare a [.IsNot] [.Constant .none j pos'] pos) (tNotN ta) (wIsN true Wa) := ⟨pe_cmp (pc_notN ha.pe), fun ex ρ μ P w B H σ Q M S L q =>
  ha.ae ex ρ μ _ w B H σ _ M S L fun v d B1 H1 μ1 e1 M1 r1 w1 => by
    rw [rp_non r1]
    exact q _ _ B1 H1 μ1 e1 M1 (.bl _) w1⟩

/-! ### and, or, not; if -/
def wAnd (t u : WT) : WT := fun ex ρ μ P => t ex ρ μ fun c μ1 => if c = true then u ex ρ μ1 P else P false μ1
def wOr (t u : WT) : WT := fun ex ρ μ P => t ex ρ μ fun c μ1 => if c = true then P true μ1 else u ex ρ μ1 P
def wNot (t : WT) : WT := fun ex ρ μ P => t ex ρ μ fun c μ1 => P (!c) μ1
variable {t1 t2 : TT} {T1 T2 : WT}
theorem atp_and (h1 : ATp K Wc t1 T1) (h2 : ATp K Wc t2 T2) : ATp K Wc (tAnd t1 t2) (wAnd T1 T2) := fun ex ρ μ P w B H σ Q M S L q =>
  h1 ex ρ μ _ w B H σ _ M S L fun c B1 H1 μ1 e1 M1 w1 => by
    cases c with
    | true => exact h2 ex ρ μ1 P w1 B1 H1 σ Q M1 (S.mono e1) (L.mono e1) fun b B2 H2 μ2 e2 M2 w2 => q b B2 H2 μ2 (e1.trans e2) M2 w2
    | false => exact q false B1 H1 μ1 e1 M1 w1
theorem atp_or (h1 : ATp K Wc t1 T1) (h2 : ATp K Wc t2 T2) : ATp K Wc (tOr t1 t2) (wOr T1 T2) := fun ex ρ μ P w B H σ Q M S L q =>
  h1 ex ρ μ _ w B H σ _ M S L fun c B1 H1 μ1 e1 M1 w1 => by
    cases c with
    | true => exact q true B1 H1 μ1 e1 M1 w1
    | false => exact h2 ex ρ μ1 P w1 B1 H1 σ Q M1 (S.mono e1) (L.mono e1) fun b B2 H2 μ2 e2 M2 w2 => q b B2 H2 μ2 (e1.trans e2) M2 w2
theorem aw_and1 (h : AT X Wc a t1 T1) : AW X Wc (.BoolOp .And [a] pos) t1 T1 := ⟨pw_and1 h.pt, h.ae⟩
theorem aw_or1 (h : AT X Wc a t1 T1) : AW X Wc (.BoolOp .Or [a] pos) t1 T1 := ⟨pw_or1 h.pt, h.ae⟩
theorem aw_and (h : AT X Wc a t1 T1) (h2 : AW X Wc (.BoolOp .And (b :: es) pos) t2 T2) : AW X Wc (.BoolOp .And (a :: b :: es) pos) (tAnd t1 t2) (wAnd T1 T2) := ⟨pw_and h.pt h2.pw, atp_and h.ae h2.ae⟩
theorem aw_or (h : AT X Wc a t1 T1) (h2 : AW X Wc (.BoolOp .Or (b :: es) pos) t2 T2) : AW X Wc (.BoolOp .Or (a :: b :: es) pos) (tOr t1 t2) (wOr T1 T2) := ⟨pw_or h.pt h2.pw, atp_or h.ae h2.ae⟩
theorem at_w {op : BoolOp} (h : AW X Wc (.BoolOp op es pos) t1 T1) : AT X Wc (.BoolOp op es pos) t1 T1 := ⟨PW.pt h.pw, h.ae⟩
theorem at_not (h : AT X Wc a t1 T1) : AT X Wc (.UnaryOp .Not a pos) (tNot t1) (wNot T1) := ⟨pt_not h.pt, fun ex ρ μ P w B H σ Q M S L q =>
  h.ae ex ρ μ _ w B H σ _ M S L fun c B1 H1 μ1 e1 M1 w1 => q _ B1 H1 μ1 e1 M1 w1⟩
/-- as values -/
def wAndV (Wa Wb : WE) : WE := fun ex ρ μ P => Wa ex ρ μ fun x μ1 => match x with
  | .bl c => if c = true then Wb ex ρ μ1 P else P (.bl false) μ1
  | _ => False
def wOrV (Wa Wb : WE) : WE := fun ex ρ μ P => Wa ex ρ μ fun x μ1 => match x with
  | .bl c => if c = true then P (.bl true) μ1 else Wb ex ρ μ1 P
  | _ => False
def wNotV (Wa : WE) : WE := fun ex ρ μ P => Wa ex ρ μ fun x μ1 => match x with
  | .bl c => P (.bl (!c)) μ1
  | _ => False
theorem ae_one {op : BoolOp} (h : AE X Wc a ta Wa) : AE X Wc (.BoolOp op [a] pos) ta Wa := ⟨pe_one h.pe, h.ae⟩
theorem ae_and (ha : AE X Wc a ta Wa) (hb : AE X Wc (.BoolOp .And (b :: es) pos) tb Wb) : AE X Wc (.BoolOp .And (a :: b :: es) pos) (tAndV ta tb) (wAndV Wa Wb) := ⟨pe_and ha.pe hb.pe, fun ex ρ μ P w B H σ Q M S L q =>
  ha.ae ex ρ μ _ w B H σ _ M S L fun v d B1 H1 μ1 e1 M1 r1 w1 => by
    cases r1 <;> first | exact w1.elim | skip
    rename_i c
    refine ⟨c, rfl, ?_⟩
    cases c with
    | true => exact hb.ae ex ρ μ1 P w1 B1 H1 σ Q M1 (S.mono e1) (L.mono e1) fun v2 d2 B2 H2 μ2 e2 M2 r2 w2 => q v2 d2 B2 H2 μ2 (e1.trans e2) M2 r2 w2
    | false => exact q _ _ B1 H1 μ1 e1 M1 (.bl false) w1⟩
theorem ae_or (ha : AE X Wc a ta Wa) (hb : AE X Wc (.BoolOp .Or (b :: es) pos) tb Wb) : AE X Wc (.BoolOp .Or (a :: b :: es) pos) (tOrV ta tb) (wOrV Wa Wb) := ⟨pe_or ha.pe hb.pe, fun ex ρ μ P w B H σ Q M S L q =>
  ha.ae ex ρ μ _ w B H σ _ M S L fun v d B1 H1 μ1 e1 M1 r1 w1 => by
    cases r1 <;> first | exact w1.elim | skip
    rename_i c
    refine ⟨c, rfl, ?_⟩
    cases c with
    | false => exact hb.ae ex ρ μ1 P w1 B1 H1 σ Q M1 (S.mono e1) (L.mono e1) fun v2 d2 B2 H2 μ2 e2 M2 r2 w2 => q v2 d2 B2 H2 μ2 (e1.trans e2) M2 r2 w2
    | true => exact q _ _ B1 H1 μ1 e1 M1 (.bl true) w1⟩
theorem ae_not (ha : AE X Wc a ta Wa) : AE X Wc (.UnaryOp .Not a pos) (tNotV ta) (wNotV Wa) := ⟨pe_not ha.pe, fun ex ρ μ P w B H σ Q M S L q =>
  ha.ae ex ρ μ _ w B H σ _ M S L fun v d B1 H1 μ1 e1 M1 r1 w1 => by
    cases r1 <;> first | exact w1.elim | skip
    exact ⟨_, rfl, q _ _ B1 H1 μ1 e1 M1 (.bl _) w1⟩⟩
def wIf (t : WT) (Wa Wb : WE) : WE := fun ex ρ μ P => t ex ρ μ fun c μ1 => if c = true then Wa ex ρ μ1 P else Wb ex ρ μ1 P
theorem ae_if (hc : AT X Wc c t1 T1) (ha : AE X Wc a ta Wa) (hb : AE X Wc b tb Wb) : AE X Wc (.IfExp c a b pos) (tIf t1 ta tb) (wIf T1 Wa Wb) := ⟨pe_ifExp hc.pt ha.pe hb.pe, fun ex ρ μ P w B H σ Q M S L q =>
  hc.ae ex ρ μ _ w B H σ _ M S L fun c B1 H1 μ1 e1 M1 w1 => by
    cases c with
    | true => exact ha.ae ex ρ μ1 P w1 B1 H1 σ Q M1 (S.mono e1) (L.mono e1) fun v2 d2 B2 H2 μ2 e2 M2 r2 w2 => q v2 d2 B2 H2 μ2 (e1.trans e2) M2 r2 w2
    | false => exact hb.ae ex ρ μ1 P w1 B1 H1 σ Q M1 (S.mono e1) (L.mono e1) fun v2 d2 B2 H2 μ2 e2 M2 r2 w2 => q v2 d2 B2 H2 μ2 (e1.trans e2) M2 r2 w2⟩

/-! ### arguments, displays -/
variable {tx tr : TA} {Wx Wr : WA}
def wNil : WA := fun _ _ μ P => P [] μ
def wCons (Wa : WE) (Wr : WA) : WA := fun ex ρ μ P => Wa ex ρ μ fun x μ1 => Wr ex ρ μ1 fun xs μ2 => P (x :: xs) μ2
theorem aa_nil : AA X Wc [] tNil wNil := ⟨pa_nil, fun ex ρ μ P w B H σ Q M S L q => q [] [] B H μ (Ex.refl B) M .nil w⟩
theorem aap_cons (ha : AEp K Wc ta Wa) (hr : AAp K Wc tr Wr) : AAp K Wc (tCons ta tr) (wCons Wa Wr) := fun ex ρ μ P w B H σ Q M S L q =>
  ha ex ρ μ _ w B H σ _ M S L fun v d B1 H1 μ1 e1 M1 r1 w1 => hr ex ρ μ1 _ w1 B1 H1 σ _ M1 (S.mono e1) (L.mono e1) fun vs ds B2 H2 μ2 e2 M2 r2 w2 => q _ _ B2 H2 μ2 (e1.trans e2) M2 (.cons (r1.mono e2) r2) w2
theorem aa_cons (ha : AE X Wc a ta Wa) (hr : AA X Wc es tr Wr) (hs : starEach (a :: es) X.env = (false, eval a X.env) :: starEach es X.env := by rfl) : AA X Wc (a :: es) (tCons ta tr) (wCons Wa Wr) := ⟨pa_cons ha.pe hr.pa hs, aap_cons ha.ae hr.ae⟩
def wTup (Wx : WA) : WE := fun ex ρ μ P => Wx ex ρ μ fun xs μ1 => xs.length ≤ 1000 ∧ P (.tup xs) μ1
def wLst (Wx : WA) : WE := fun ex ρ μ P => Wx ex ρ μ fun xs μ1 => xs.length ≤ 1000 ∧ P (.lst xs) μ1
/-- a list that will be changed -/
def wLstM (Wx : WA) : WE := fun ex ρ μ P => Wx ex ρ μ fun xs μ1 => xs.length ≤ 1000 ∧ ∀ p, μ1 p = none → P (.ptr p) (updM μ1 p (.lst xs))
theorem le_line {n : Nat} (h : n ≤ 1000) : n ≤ sizeLine := Nat.le_of_lt (small1000 h)
theorem ae_tup {x1} (h : AA X Wc es tx Wx) : AE X Wc (.Tuple es x1 pos) (tTup tx) (wTup Wx) := ⟨pe_tup h.pa, fun ex ρ μ P w B H σ Q M S L q =>
  h.ae ex ρ μ _ w B H σ _ M S L fun vs ds B1 H1 μ1 e1 M1 r1 w1 => ⟨by rw [r1.length]; exact le_line w1.1, fun p hp => by
    have hb := M1.base hp
    exact q _ _ _ _ μ1 (e1.trans (Ex.new hb)) (M1.fix hp) (.tup upd_same (r1.mono (Ex.new hb))) w1.2⟩⟩
theorem ae_lst (h : AA X Wc es tx Wx) : AE X Wc (.List es pos) (tLst tx) (wLst Wx) := ⟨pe_lst h.pa, fun ex ρ μ P w B H σ Q M S L q =>
  h.ae ex ρ μ _ w B H σ _ M S L fun vs ds B1 H1 μ1 e1 M1 r1 w1 => ⟨by rw [r1.length]; exact le_line w1.1, fun p hp => by
    have hb := M1.base hp
    exact q _ _ _ _ μ1 (e1.trans (Ex.new hb)) (M1.fix hp) (.lst upd_same (r1.mono (Ex.new hb))) w1.2⟩⟩
theorem ae_lstM (h : AA X Wc es tx Wx) : AE X Wc (.List es pos) (tLst tx) (wLstM Wx) := ⟨pe_lst h.pa, fun ex ρ μ P w B H σ Q M S L q =>
  h.ae ex ρ μ _ w B H σ _ M S L fun vs ds B1 H1 μ1 e1 M1 r1 w1 => ⟨by rw [r1.length]; exact le_line w1.1, fun p hp => by
    exact q _ _ _ _ _ e1 (M1.own hp r1) (.ptr p) (w1.2 p (M1.free hp))⟩⟩

/-! ### built-in functions by values -/
abbrev RCA := List Da → Mu → (Da → Mu → Prop) → Prop
def RCOk (K : PySem.W.Frag) (r : List V → Hp → VK → Prop) (R : RCA) : Prop := ∀ (ds : List Da) (μ : Mu) (P : Da → Mu → Prop), R ds μ P → ∀ (B H : Hp) (vs : List V) (Q : VK), Mem K B H μ → RpAll K B vs ds →
  (∀ w d B' H' μ', Ex B B' → Mem K B' H' μ' → Rp K B' w d → P d μ' → Q w H') → r vs H Q
def wCB (R : RCA) (Wx : WA) : WE := fun ex ρ μ P => Wx ex ρ μ fun ds μ1 => R ds μ1 P
theorem ap_cb {r : List V → Hp → VK → Prop} {R : RCA} (h : RCOk K r R) (hx : AAp K Wc tx Wx) : AEp K Wc (tCB r tx) (wCB R Wx) := fun ex ρ μ P w B H σ Q M S L q =>
  hx ex ρ μ _ w B H σ _ M S L fun vs ds B1 H1 μ1 e1 M1 r1 w1 => h ds μ1 P w1 B1 H1 vs Q M1 r1 fun v d B2 H2 μ2 e2 M2 r2 w2 => q v d B2 H2 μ2 (e1.trans e2) M2 r2 w2
theorem ae_cb {x : Str} {id : String} {r : List V → Hp → VK → Prop} {R : RCA} (hc : CallR X (.builtin id) r) (h : RCOk X.K r R) (hg : Gl X x) (hm : X.mg x = none) (hv : bootBuiltins x = some (.builtin id)) (ha : AA X Wc (a :: es) tx Wx) (hn : x ≠ "__name__" := by decide)
    (hdb : (x == ("__debug__" : Str)) = false := by decide) (he : starEach (a :: es) X.env = (false, eval a X.env) :: starEach es X.env := by rfl) (hpl : (backTo pos (starEach es X.env)).any (·.1) = false := by rfl) :
    AE X Wc (.Call (.Name x p) (a :: es) [] pos) (tCB r tx) (wCB R Wx) := ⟨pe_callB hc hg hm hv ha.pa hn hdb he hpl, ap_cb h ha.ae⟩
theorem ae_ct {x : Str} {T : String} {r : List V → Hp → VK → Prop} {R : RCA} (hc : CallR X (.type T) r) (h : RCOk X.K r R) (hg : Gl X x) (hm : X.mg x = none) (hv : bootBuiltins x = some (.type T)) (ha : AA X Wc (a :: es) tx Wx) (hn : x ≠ "__name__" := by decide)
    (hdb : (x == ("__debug__" : Str)) = false := by decide) (he : starEach (a :: es) X.env = (false, eval a X.env) :: starEach es X.env := by rfl) (hpl : (backTo pos (starEach es X.env)).any (·.1) = false := by rfl) :
    AE X Wc (.Call (.Name x p) (a :: es) [] pos) (tCB r tx) (wCB R Wx) := ⟨pe_callTy hc hg hm hv ha.pa hn hdb he hpl, ap_cb h ha.ae⟩
/-- len -/
def cLen : RCA := fun ds μ P => match ds with
  | [.str z] => z.length ≤ sizeLine ∧ P (.int (z.length : Nat)) μ
  | [.tup l] => P (.int (l.length : Nat)) μ
  | [.lst l] => P (.int (l.length : Nat)) μ
  | [.ptr q] => match μ q with
    | some (.lst l) => P (.int (l.length : Nat)) μ
    | _ => False
  | _ => False
def rLenX (K : PySem.W.Frag) : List V → Hp → VK → Prop := fun xs H Q => (∃ p ys, xs = [.ref p] ∧ (SqL K H p ys ∨ SqT K H p ys) ∧ Q (.int ys.length) H) ∨ ∃ z, xs = [.str z] ∧ z.length ≤ sizeLine ∧ Q (.int z.length) H
theorem call_lenX : CallR X (.builtin "len") (rLenX X.K) := call_len_seq.or call_len_str
theorem rc_len : RCOk K (rLenX K) cLen := fun ds μ P w B H vs Q M r q => by
  cases r with
  | nil => exact w.elim
  | cons r rr =>
    cases rr with
    | cons r2 rr =>
      cases r <;> exact w.elim
    | nil =>
      cases r with
      | str z => exact .inr ⟨z, rfl, w.1, q _ _ B H μ (Ex.refl B) M (.int _) w.2⟩
      | @tup a1 xs l h1 r1 => exact .inl ⟨a1, xs, rfl, .inr (.inl (.inl (M.ex _ _ h1))), by rw [r1.length]; exact q _ _ B H μ (Ex.refl B) M (.int _) w⟩
      | @lst a1 xs l h1 r1 => exact .inl ⟨a1, xs, rfl, .inl (.inl (.inl (M.ex _ _ h1))), by rw [r1.length]; exact q _ _ B H μ (Ex.refl B) M (.int _) w⟩
      | ptr a1 =>
        have w' : (match μ a1 with
          | some (.lst l) => P (.int (l.length : Nat)) μ
          | _ => False) := w
        cases e : μ a1 with
        | none => rw [e] at w'; exact w'.elim
        | some o =>
          rw [e] at w'
          cases o with
          | any S => exact w'.elim
          | lst l =>
            obtain ⟨_, xs, hx, r1⟩ := M.mu _ _ e
            exact .inl ⟨a1, xs, rfl, .inl (.inl (.inl hx)), by rw [r1.length]; exact q _ _ B H μ (Ex.refl B) M (.int _) w'⟩
      | non => exact w.elim
      | bl _ => exact w.elim
      | int _ => exact w.elim
      | exc _ _ => exact w.elim
      | scr _ => exact w.elim
theorem ae_len (hm : X.mg "len" = none) (hg : Gl X "len") (ha : AA X Wc [a] tx Wx) (he : starEach [a] X.env = (false, eval a X.env) :: starEach [] X.env := by rfl) : AE X Wc (.Call (.Name "len" p) [a] [] pos) (tCB (rLenX X.K) tx) (wCB cLen Wx) :=
  ae_cb call_lenX rc_len hg hm PySem.boot_len ha (by decide) (by decide) he
/-- all, any over a list of truth values -/
def cAll : RCA := fun ds μ P => match ds with
  | [.lst l] => ∃ bs : List Bool, l = bs.map Da.bl ∧ P (.bl (bs.all id)) μ
  | _ => False
def cAny : RCA := fun ds μ P => match ds with
  | [.lst l] => ∃ bs : List Bool, l = bs.map Da.bl ∧ P (.bl (bs.any id)) μ
  | _ => False
theorem rc_all : RCOk K (rAll K) cAll := fun ds μ P w B H vs Q M r q => by
  cases r with
  | nil => exact w.elim
  | cons r rr =>
    cases rr with
    | cons r2 rr => cases r <;> exact w.elim
    | nil =>
      cases r <;> first | exact w.elim | skip
      rename_i a1 xs l h1 r1
      obtain ⟨bs, rfl, w⟩ := w
      have e := r1.bls
      subst e
      exact ⟨a1, bs, rfl, .inl (.inl (M.ex _ _ h1)), q _ _ B H μ (Ex.refl B) M (.bl _) w⟩
theorem rc_any : RCOk K (rAny K) cAny := fun ds μ P w B H vs Q M r q => by
  cases r with
  | nil => exact w.elim
  | cons r rr =>
    cases rr with
    | cons r2 rr => cases r <;> exact w.elim
    | nil =>
      cases r <;> first | exact w.elim | skip
      rename_i a1 xs l h1 r1
      obtain ⟨bs, rfl, w⟩ := w
      have e := r1.bls
      subst e
      exact ⟨a1, bs, rfl, .inl (.inl (M.ex _ _ h1)), q _ _ B H μ (Ex.refl B) M (.bl _) w⟩
theorem ae_all (hc : X.calm = true) (hm : X.mg "all" = none) (hg : Gl X "all") (ha : AA X Wc [a] tx Wx) (he : starEach [a] X.env = (false, eval a X.env) :: starEach [] X.env := by rfl) : AE X Wc (.Call (.Name "all" p) [a] [] pos) (tCB (rAll X.K) tx) (wCB cAll Wx) :=
  ae_cb (cr_all hc) rc_all hg hm (by decide +kernel) ha (by decide) (by decide) he
theorem ae_any (hc : X.calm = true) (hm : X.mg "any" = none) (hg : Gl X "any") (ha : AA X Wc [a] tx Wx) (he : starEach [a] X.env = (false, eval a X.env) :: starEach [] X.env := by rfl) : AE X Wc (.Call (.Name "any" p) [a] [] pos) (tCB (rAny X.K) tx) (wCB cAny Wx) :=
  ae_cb (cr_any hc) rc_any hg hm (by decide +kernel) ha (by decide) (by decide) he
/-- int(n) of an int -/
def cInt : RCA := fun ds μ P => match ds with
  | [.int i] => P (.int i) μ
  | [.bl k] => P (.int (if k then 1 else 0)) μ
  | _ => False
def rIntX : List V → Hp → VK → Prop := fun xs H Q => (∃ i, xs = [.int i] ∧ Q (.int i) H) ∨ ∃ k, xs = [.bl k] ∧ Q (.int (if k then 1 else 0)) H
theorem rc_int : RCOk K rIntX cInt := fun ds μ P w B H vs Q M r q => by
  cases r with
  | nil => exact w.elim
  | cons r rr =>
    cases rr with
    | cons r2 rr => cases r <;> exact w.elim
    | nil =>
      cases r <;> first | exact w.elim | skip
      · exact .inr ⟨_, rfl, q _ _ B H μ (Ex.refl B) M (.int _) w⟩
      · exact .inl ⟨_, rfl, q _ _ B H μ (Ex.refl B) M (.int _) w⟩
theorem ae_intC (hm : X.mg "int" = none) (hg : Gl X "int") (ha : AA X Wc [a] tx Wx) (he : starEach [a] X.env = (false, eval a X.env) :: starEach [] X.env := by rfl) : AE X Wc (.Call (.Name "int" p) [a] [] pos) (tCB rIntX tx) (wCB cInt Wx) :=
  ae_ct call_int1 rc_int hg hm (by decide +kernel) ha (by decide) (by decide) he
/-- tuple(x); list(x), not changed any more -/
def cTuple : RCA := fun ds μ P => match ds with
  | [.tup l] => P (.tup l) μ
  | [.lst l] => P (.tup l) μ
  | [.ptr q] => match μ q with
    | some (.lst l) => P (.tup l) μ
    | _ => False
  | _ => False
def rTupleX (K : PySem.W.Frag) : List V → Hp → VK → Prop := fun xs H Q => ∃ p ys, xs = [.ref p] ∧ ((SqL K H p ys ∧ ∀ l, H l = none → Q (.ref l) (upd H l (.tup ys))) ∨ (SqT K H p ys ∧ Q (.ref p) H))
theorem rc_tuple : RCOk K (rTupleX K) cTuple := fun ds μ P w B H vs Q M r q => by
  cases r with
  | nil => exact w.elim
  | cons r rr =>
    cases rr with
    | cons r2 rr => cases r <;> exact w.elim
    | nil =>
      cases r with
      | @tup a1 xs l h1 r1 => exact ⟨a1, xs, rfl, .inr ⟨.inl (.inl (M.ex _ _ h1)), q _ _ B H μ (Ex.refl B) M (.tup h1 r1) w⟩⟩
      | @lst a1 xs l h1 r1 =>
        refine ⟨a1, xs, rfl, .inl ⟨.inl (.inl (M.ex _ _ h1)), fun p hp => ?_⟩⟩
        have hb := M.base hp
        exact q _ _ _ _ μ (Ex.new hb) (M.fix hp) (.tup upd_same (r1.mono (Ex.new hb))) w
      | ptr a1 =>
        have w' : (match μ a1 with
          | some (.lst l) => P (.tup l) μ
          | _ => False) := w
        cases e : μ a1 with
        | none => rw [e] at w'; exact w'.elim
        | some o =>
          rw [e] at w'
          cases o with
          | any S => exact w'.elim
          | lst l =>
            obtain ⟨_, xs, hx, r1⟩ := M.mu _ _ e
            refine ⟨a1, xs, rfl, .inl ⟨.inl (.inl hx), fun p hp => ?_⟩⟩
            have hb := M.base hp
            exact q _ _ _ _ μ (Ex.new hb) (M.fix hp) (.tup upd_same (r1.mono (Ex.new hb))) w'
      | non => exact w.elim
      | bl _ => exact w.elim
      | int _ => exact w.elim
      | exc _ _ => exact w.elim
      | scr _ => exact w.elim
      | str _ => exact w.elim
theorem ae_tuple (hm : X.mg "tuple" = none) (hg : Gl X "tuple") (ha : AA X Wc [a] tx Wx) (he : starEach [a] X.env = (false, eval a X.env) :: starEach [] X.env := by rfl) : AE X Wc (.Call (.Name "tuple" p) [a] [] pos) (tCB (rTupleX X.K) tx) (wCB cTuple Wx) :=
  ae_ct call_tuple_of rc_tuple hg hm (by decide +kernel) ha (by decide) (by decide) he
def cList : RCA := fun ds μ P => match ds with
  | [.tup l] => P (.lst l) μ
  | [.lst l] => P (.lst l) μ
  | [.scr ns] => P (.lst (ns.map Da.int)) μ
  | [.ptr q] => match μ q with
    | some (.lst l) => P (.lst l) μ
    | _ => False
  | _ => False
def rListX (K : PySem.W.Frag) : List V → Hp → VK → Prop := fun xs H Q => ∃ p ys, xs = [.ref p] ∧ (SqL K H p ys ∨ SqT K H p ys) ∧ ∀ l, H l = none → Q (.ref l) (upd H l (.lst ys))
theorem SqL_ex' {B H : Hp} {a : Addr} {xs : List V} (e : Ex B H) (h : SqL K B a xs) : SqL K H a xs := Same.seq e h
theorem rc_list : RCOk K (rListX K) cList := fun ds μ P w B H vs Q M r q => by
  have fin : ∀ {xs : List V} {l : List Da}, RpAll K B xs l → P (.lst l) μ → ∀ p, H p = none → Q (.ref p) (upd H p (.lst xs)) := fun {xs l} r1 w p hp => by
    have hb := M.base hp
    exact q _ _ _ _ μ (Ex.new hb) (M.fix hp) (.lst upd_same (r1.mono (Ex.new hb))) w
  cases r with
  | nil => exact w.elim
  | cons r rr =>
    cases rr with
    | cons r2 rr => cases r <;> exact w.elim
    | nil =>
      cases r with
      | @tup a1 xs l h1 r1 => exact ⟨a1, xs, rfl, .inr (.inl (.inl (M.ex _ _ h1))), fin r1 w⟩
      | @lst a1 xs l h1 r1 => exact ⟨a1, xs, rfl, .inl (.inl (.inl (M.ex _ _ h1))), fin r1 w⟩
      | ptr a1 =>
        have w' : (match μ a1 with
          | some (.lst l) => P (.lst l) μ
          | _ => False) := w
        cases e : μ a1 with
        | none => rw [e] at w'; exact w'.elim
        | some o =>
          rw [e] at w'
          cases o with
          | any S => exact w'.elim
          | lst l =>
            obtain ⟨_, xs, hx, r1⟩ := M.mu _ _ e
            exact ⟨a1, xs, rfl, .inl (.inl (.inl hx)), fin r1 w'⟩
      | non => exact w.elim
      | bl _ => exact w.elim
      | int _ => exact w.elim
      | exc _ _ => exact w.elim
      | scr h1 => exact ⟨_, _, rfl, .inl (SqL_ex' M.ex h1.sq), fin rpAll_ints w⟩
      | str _ => exact w.elim
theorem ae_list (hm : X.mg "list" = none) (hg : Gl X "list") (ha : AA X Wc [a] tx Wx) (he : starEach [a] X.env = (false, eval a X.env) :: starEach [] X.env := by rfl) : AE X Wc (.Call (.Name "list" p) [a] [] pos) (tCB (rListX X.K) tx) (wCB cList Wx) :=
  ae_ct call_list_of rc_list hg hm (by decide +kernel) ha (by decide) (by decide) he

/-! ### isinstance -/
def Da.tyn : Da → String
  | .non => "NoneType"
  | .bl _ => "bool"
  | .int _ => "int"
  | .str _ => "str"
  | .tup _ => "tuple"
  | .lst _ => "list"
  | .ptr _ => "list"
  | .exc _ _ _ _ => "list"
  | .scr _ => "list"
def isaN (T n : String) : Bool := n == T || (n == "bool" && T == "int")
def Da.isa (T : String) (x : Da) : Bool := isaN T x.tyn
def tyns : List String := ["NoneType", "bool", "int", "str", "tuple", "list"]
theorem tyn_mem : ∀ x : Da, x.tyn ∈ tyns
  | .non => by decide
  | .bl _ => by show "bool" ∈ tyns; decide
  | .int _ => by show "int" ∈ tyns; decide
  | .str _ => by show "str" ∈ tyns; decide
  | .tup _ => by show "tuple" ∈ tyns; decide
  | .lst _ => by show "list" ∈ tyns; decide
  | .ptr _ => by show "list" ∈ tyns; decide
  | .exc _ _ _ _ => by show "list" ∈ tyns; decide
  | .scr _ => by show "list" ∈ tyns; decide
/-- a pointer must lead to a list that is told -/
def there (μ : Mu) : Da → Prop
  | .ptr a => ∃ o, μ a = some o
  | .exc _ _ _ _ => False
  | .scr _ => False
  | _ => True
theorem rp_ty {B H : Hp} {μ : Mu} (M : Mem K B H μ) {v : V} {d : Da} (r : Rp K B v d) (h : there μ d) : TyX K H v (.type d.tyn) := by
  cases r with
  | non => exact .base .non
  | bl b => exact .base (.bl b)
  | int i => exact .base (.int i)
  | str x => exact .base (.str x)
  | tup h1 _ => exact .base (.tup (M.ex _ _ h1))
  | lst h1 _ => exact .base (.lst (M.ex _ _ h1))
  | exc _ _ => exact h.elim
  | scr _ => exact h.elim
  | ptr a =>
    obtain ⟨o, ho⟩ := h
    obtain ⟨_, q⟩ := M.mu _ _ ho
    cases o with
    | lst l => obtain ⟨xs, hx, _⟩ := q; exact .base (.lst hx)
    | any S => obtain ⟨xs, l, hx, _⟩ := q; exact .base (.lst hx)
def wIsi (T : String) (Wa : WE) : WE := fun ex ρ μ P => Wa ex ρ μ fun x μ1 => there μ1 x ∧ P (.bl (x.isa T)) μ1
theorem boot_isinstance : bootBuiltins "isinstance" = some (.builtin "isinstance") := by decide +kernel
theorem ae_isi {T : String} {x : Str} (hT : (tyns.all fun n => kitB n T == some (isaN T n)) = true) (hm : X.mg "isinstance" = none) (hg : Gl X "isinstance") (hgT : Gl X x) (hmT : X.mg x = none) (hvT : bootBuiltins x = some (.type T)) (ha : AE X Wc a ta Wa)
    (hn : x ≠ "__name__" := by decide) (hd : (x == ("__debug__" : Str)) = false := by decide)
    (hs : starEach [a, .Name x p2] X.env = (false, eval a X.env) :: starEach [.Name x p2] X.env := by rfl) (hs2 : starEach [.Name x p2] X.env = (false, eval (.Name x p2) X.env) :: starEach [] X.env := by rfl)
    (hpl : (backTo pos (starEach [.Name x p2] X.env)).any (·.1) = false := by rfl) :
    AE X Wc (.Call (.Name "isinstance" p) [a, .Name x p2] [] pos) (tCB (rIsi X.K) (tCons ta (tCons (tC (.ty T)) tNil))) (wIsi T Wa) :=
  ⟨pe_callB call_isi hg hm boot_isinstance (pa_cons ha.pe (pa_cons (pe_bltn (v := .ty T) hgT hmT hvT rfl hn hd) pa_nil hs2) hs) (by decide) (by decide) hs hpl, fun ex ρ μ P w B H σ Q M S L q =>
    ha.ae ex ρ μ _ w B H σ _ M S L fun v d B1 H1 μ1 e1 M1 r1 w1 => by
      have h1 := List.all_eq_true.mp hT d.tyn (tyn_mem d)
      exact ⟨v, .ty T, .type d.tyn, .type T, isaN T d.tyn, rfl, .ty T, rp_ty M1 r1 w1.1, kit_ty (eq_of_beq h1), q _ _ B1 H1 μ1 e1 M1 (.bl _) w1.2⟩⟩
/-- isinstance(x, (T1, T2)) -/
def wIsi2 (T1 T2 : String) (Wa : WE) : WE := fun ex ρ μ P => Wa ex ρ μ fun x μ1 => there μ1 x ∧ P (.bl (x.isa T1 || x.isa T2)) μ1
theorem ae_isi2 {U1 U2 : String} {x1 x2 : Str} {p3 p4 : Pos} {k1 : Nat} (hT1 : (tyns.all fun n => kitB n U1 == some (isaN U1 n)) = true) (hT2 : (tyns.all fun n => kitB n U2 == some (isaN U2 n)) = true) (hm : X.mg "isinstance" = none) (hg : Gl X "isinstance")
    (hg1 : Gl X x1) (hm1 : X.mg x1 = none) (hv1 : bootBuiltins x1 = some (.type U1)) (hg2 : Gl X x2) (hm2 : X.mg x2 = none) (hv2 : bootBuiltins x2 = some (.type U2)) (ha : AE X Wc a ta Wa)
    (hn1 : x1 ≠ "__name__" := by decide) (hd1 : (x1 == ("__debug__" : Str)) = false := by decide) (hn2 : x2 ≠ "__name__" := by decide) (hd2 : (x2 == ("__debug__" : Str)) = false := by decide)
    (hs : starEach [a, .Tuple [.Name x1 p2, .Name x2 p3] k1 p4] X.env = (false, eval a X.env) :: starEach [.Tuple [.Name x1 p2, .Name x2 p3] k1 p4] X.env := by rfl)
    (hpl : (backTo pos (starEach [.Tuple [.Name x1 p2, .Name x2 p3] k1 p4] X.env)).any (·.1) = false := by rfl)
    (hs2 : starEach [.Tuple [.Name x1 p2, .Name x2 p3] k1 p4] X.env = (false, eval (.Tuple [.Name x1 p2, .Name x2 p3] k1 p4) X.env) :: starEach [] X.env := by rfl)
    (hs3 : starEach [.Name x1 p2, .Name x2 p3] X.env = (false, eval (.Name x1 p2) X.env) :: starEach [.Name x2 p3] X.env := by rfl) (hs4 : starEach [.Name x2 p3] X.env = (false, eval (.Name x2 p3) X.env) :: starEach [] X.env := by rfl) :
    AE X Wc (.Call (.Name "isinstance" p) [a, .Tuple [.Name x1 p2, .Name x2 p3] k1 p4] [] pos) (tCB (rIsiT X.K) (tCons ta (tCons (tTup (tCons (tC (.ty U1)) (tCons (tC (.ty U2)) tNil))) tNil))) (wIsi2 U1 U2 Wa) :=
  ⟨pe_callB call_isiT hg hm boot_isinstance (pa_cons ha.pe (pa_cons (pe_tup (pa_cons (pe_bltn (v := .ty U1) hg1 hm1 hv1 rfl hn1 hd1) (pa_cons (pe_bltn (v := .ty U2) hg2 hm2 hv2 rfl hn2 hd2) pa_nil hs4) hs3)) pa_nil hs2) hs) (by decide) (by decide) hs hpl, fun ex ρ μ P w B H σ Q M S L q =>
    ha.ae ex ρ μ _ w B H σ _ M S L fun v d B1 H1 μ1 e1 M1 r1 w1 => by
      have h1 := eq_of_beq (List.all_eq_true.mp hT1 d.tyn (tyn_mem d))
      have h2 := eq_of_beq (List.all_eq_true.mp hT2 d.tyn (tyn_mem d))
      refine ⟨le_line (by show 2 ≤ 1000; decide), fun p hp => ?_⟩
      have hb := M1.base hp
      have M2 : Mem X.K (upd B1 p (.tup [.ty U1, .ty U2])) (upd H1 p (.tup [.ty U1, .ty U2])) μ1 := M1.fix hp
      refine ⟨v, p, [.ty U1, .ty U2], .type d.tyn, [.type U1, .type U2], d.isa U1 || d.isa U2, rfl, upd_same, .cons (.ty U1) (.cons (.ty U2) .nil), rp_ty M2 (r1.mono (Ex.new hb)) w1.1, ?_, q _ _ _ _ μ1 (e1.trans (Ex.new hb)) M2 (.bl _) w1.2⟩
      refine kitAny_cons (kit_ty h1) (fun f => kitAny_cons (kit_ty h2) (fun f2 => ?_) fun f2 => ?_) fun f => ?_
      · rw [kitAny_nil]
        show some false = some (isaN U1 d.tyn || isaN U2 d.tyn)
        rw [f, f2] <;> rfl
      · show (isaN U1 d.tyn || isaN U2 d.tyn) = true
        rw [f2, Bool.or_true]
      · show (isaN U1 d.tyn || isaN U2 d.tyn) = true
        rw [f, Bool.true_or]⟩

/-! ### items, slices -/
theorem atI_rp {B : Hp} {xs : List V} {ds : List Da} {i : Int} {d : Da} (r : RpAll K B xs ds) (h : atI ds i = some d) : ∃ v, atI xs i = some v ∧ Rp K B v d := by
  unfold atI at h ⊢
  rw [r.length]
  cases e : ixN ds.length i with
  | none => rw [e] at h; cases h
  | some j =>
    rw [e] at h
    exact r.at h
def aIx : R2A := fun x y μ P => match x, y with
  | .tup l, .int i => match atI l i with
    | some d => P d μ
    | none => False
  | .lst l, .int i => match atI l i with
    | some d => P d μ
    | none => False
  | .str z, .int i => z.length ≤ sizeLine ∧ match atI z.cps.toList i with
    | some c => P (.str ⟨#[c]⟩) μ
    | none => False
  | .ptr q, .int i => match μ q with
    | some (.lst l) => match atI l i with
      | some d => P d μ
      | none => False
    | _ => False
  | _, _ => False
theorem rok_ix : ROk K (rIx K) aIx := fun x y μ P w B H u v Q M rx ry q => by
  have seq : ∀ {xs : List V} {l : List Da} {i : Int}, RpAll K B xs l → (match atI l i with
    | some d => P d μ
    | none => False) → ∃ z, atI xs i = some z ∧ Q z H := fun {xs l i} r1 w => by
    cases e : atI l i with
    | none => rw [e] at w; exact w.elim
    | some d =>
      rw [e] at w
      obtain ⟨z, h1, h2⟩ := atI_rp r1 e
      exact ⟨z, h1, q z d B H μ (Ex.refl B) M h2 w⟩
  cases rx with
  | @tup a1 xs l h1 r1 =>
    cases ry <;> first | exact w.elim | skip
    obtain ⟨z, h2, h3⟩ := seq r1 w
    exact .inr (.inl ⟨a1, xs, _, z, rfl, rfl, .inl (.inl (M.ex _ _ h1)), h2, h3⟩)
  | @lst a1 xs l h1 r1 =>
    cases ry <;> first | exact w.elim | skip
    obtain ⟨z, h2, h3⟩ := seq r1 w
    exact .inl ⟨a1, xs, _, z, rfl, rfl, .inl (.inl (M.ex _ _ h1)), h2, h3⟩
  | str z =>
    cases ry <;> first | exact w.elim | skip
    rename_i i
    obtain ⟨w1, w2⟩ := w
    cases e : atI z.cps.toList i with
    | none => rw [e] at w2; exact w2.elim
    | some c =>
      rw [e] at w2
      exact .inr (.inr ⟨z, i, c, rfl, rfl, w1, e, q _ _ B H μ (Ex.refl B) M (.str _) w2⟩)
  | exc _ _ => exact w.elim
  | scr _ => exact w.elim
  | ptr a1 =>
    cases ry <;> first | exact w.elim | skip
    rename_i i
    have w' : (match μ a1 with
      | some (.lst l) => match atI l i with
        | some d => P d μ
        | none => False
      | _ => False) := w
    cases e : μ a1 with
    | none => rw [e] at w'; exact w'.elim
    | some o =>
      rw [e] at w'
      cases o with
      | any S => exact w'.elim
      | lst l =>
        obtain ⟨_, xs, hx, r1⟩ := M.mu _ _ e
        obtain ⟨z, h2, h3⟩ := seq r1 w'
        exact .inl ⟨a1, xs, _, z, rfl, rfl, .inl (.inl hx), h2, h3⟩
  | non => exact w.elim
  | bl _ => exact w.elim
  | int _ => exact w.elim
theorem ae_ix (ha : AE X Wc a ta Wa) (hb : AE X Wc b tb Wb) (hs : PlainIx b := by exact fun _ _ => rfl) : AE X Wc (.Subscript a b pos) (tOp (rIx X.K) ta tb) (wOp aIx Wa Wb) := ⟨pe_ix ix_seq ha.pe hb.pe hs, ap_op rok_ix ha.ae hb.ae⟩
/-- the ends of a slice -/
abbrev WO := AX → Env → Mu → (Option Int → Mu → Prop) → Prop
structure AO (X : Cx) (Wc : WX) (e : Option Expr) (t : TO) (W : WO) : Prop where
  po : PO X e t
  ae : ∀ ex ρ μ P, W ex ρ μ P → ∀ (B H : Hp) (σ : L2.St) (Q : Option Int → Hp → Prop), Mem X.K B H μ → Envs X.K B σ ρ → WL X.K B ex Wc → (∀ o B' H' μ', Ex B B' → Mem X.K B' H' μ' → P o μ' → Q o H') → t σ H Q
def wNoPart : WO := fun _ _ μ P => P none μ
def wPart (Wa : WE) : WO := fun ex ρ μ P => Wa ex ρ μ fun x μ1 => match x with
  | .int i => P (some i) μ1
  | _ => False
theorem ao_none : AO X Wc none tNoPart wNoPart := ⟨po_none, fun ex ρ μ P w B H σ Q M S L q => q none B H μ (Ex.refl B) M w⟩
theorem ao_some (ha : AE X Wc a ta Wa) : AO X Wc (some a) (tPart ta) (wPart Wa) := ⟨po_some ha.pe, fun ex ρ μ P w B H σ Q M S L q =>
  ha.ae ex ρ μ _ w B H σ _ M S L fun v d B1 H1 μ1 e1 M1 r1 w1 => by
    cases r1 <;> first | exact w1.elim | skip
    exact ⟨_, rfl, q _ B1 H1 μ1 e1 M1 w1⟩⟩
def cutA (xs : List Da) (lo hi : Option Int) : List Da := (xs.drop (HT.sIx xs.length 0 lo)).take (HT.sIx xs.length xs.length hi - HT.sIx xs.length 0 lo)
theorem cut_rp {B : Hp} {xs : List V} {ds : List Da} (r : RpAll K B xs ds) (lo hi : Option Int) : RpAll K B (cutV xs lo hi) (cutA ds lo hi) := by
  unfold cutV cutA
  rw [r.length]
  exact (r.drop _).take _
theorem SqL_ex {B H : Hp} {a : Addr} {xs : List V} (e : Ex B H) (h : SqL K B a xs) : SqL K H a xs := Same.seq e h
def cutI (xs : List Int) (lo hi : Option Int) : List Int := (xs.drop (HT.sIx xs.length 0 lo)).take (HT.sIx xs.length xs.length hi - HT.sIx xs.length 0 lo)
theorem cutV_ints (ns : List Int) (lo hi : Option Int) : cutV (ns.map V.int) lo hi = (cutI ns lo hi).map V.int := by
  unfold cutV cutI
  rw [List.length_map, List.map_take, List.map_drop]
theorem cutA_whole {ds : List Da} {lo hi : Option Int} (h : HT.sIx ds.length 0 lo = 0 ∧ HT.sIx ds.length ds.length hi = ds.length) : cutA ds lo hi = ds := by
  unfold cutA
  rw [h.1, h.2]
  simp
def aSl : Da → Option Int → Option Int → Mu → (Da → Mu → Prop) → Prop := fun x lo hi μ P => match x with
  | .tup l => P (.tup (cutA l lo hi)) μ
  | .lst l => P (.lst (cutA l lo hi)) μ
  | .scr ns => P (.lst ((cutI ns lo hi).map Da.int)) μ
  | .str z => z.length ≤ sizeLine ∧ P (.str (cutS z lo hi)) μ
  | _ => False
def wSl (Wa : WE) (Wl Wh : WO) : WE := fun ex ρ μ P => Wa ex ρ μ fun x μ1 => Wl ex ρ μ1 fun l μ2 => Wh ex ρ μ2 fun h μ3 => aSl x l h μ3 P
theorem ae_slice {lo hi : Option Expr} {tl th : TO} {Wl Wh : WO} (ha : AE X Wc a ta Wa) (hl : AO X Wc lo tl Wl) (hh : AO X Wc hi th Wh) : AE X Wc (.Subscript a (.Slice lo hi none p2) pos) (tSl (fun x l u H Q => rSlA X.K x l u H Q ∨ (rSlL X.K x l u H Q ∨ rSlS x l u H Q)) ta tl th) (wSl Wa Wl Wh) :=
  ⟨pe_slice (sl_tupA.or (sl_list.or sl_str)) ha.pe hl.po hh.po, fun ex ρ μ P w B H σ Q M S L q =>
    ha.ae ex ρ μ _ w B H σ _ M S L fun v d B1 H1 μ1 e1 M1 r1 w1 => hl.ae ex ρ μ1 _ w1 B1 H1 σ _ M1 (S.mono e1) (L.mono e1) fun l B2 H2 μ2 e2 M2 w2 => hh.ae ex ρ μ2 _ w2 B2 H2 σ _ M2 (S.mono (e1.trans e2)) (L.mono (e1.trans e2)) fun h B3 H3 μ3 e3 M3 w3 => by
      have r3 := r1.mono (e2.trans e3)
      have e13 := (e1.trans e2).trans e3
      cases r3 with
      | @tup a1 xs ds h1 rr =>
        refine .inl ⟨a1, xs, rfl, .inl (.inl (M3.ex _ _ h1)), fun hw => ?_, fun _ p hp => ?_⟩
        · rw [rr.length] at hw
          have w4 : P (.tup (cutA ds l h)) μ3 := w3
          rw [cutA_whole hw] at w4
          exact q _ _ B3 H3 μ3 e13 M3 (.tup h1 rr) w4
        · have hb := M3.base hp
          exact q _ _ _ _ μ3 (e13.trans (Ex.new hb)) (M3.fix hp) (.tup upd_same ((cut_rp rr l h).mono (Ex.new hb))) w3
      | @lst a1 xs ds h1 rr =>
        refine .inr (.inl ⟨a1, xs, rfl, .inl (.inl (M3.ex _ _ h1)), fun p hp => ?_⟩)
        have hb := M3.base hp
        exact q _ _ _ _ μ3 (e13.trans (Ex.new hb)) (M3.fix hp) (.lst upd_same ((cut_rp rr l h).mono (Ex.new hb))) w3
      | str z => exact .inr (.inr ⟨z, rfl, w3.1, q _ _ B3 H3 μ3 e13 M3 (.str _) w3.2⟩)
      | non => exact w3.elim
      | bl _ => exact w3.elim
      | int _ => exact w3.elim
      | ptr _ => exact w3.elim
      | exc _ _ => exact w3.elim
      | scr h1 =>
        refine .inr (.inl ⟨_, _, rfl, SqL_ex M3.ex h1.sq, fun p hp => ?_⟩)
        have hb := M3.base hp
        refine q _ _ _ _ μ3 (e13.trans (Ex.new hb)) (M3.fix hp) (.lst upd_same ?_) w3
        rw [cutV_ints]
        exact rpAll_ints⟩
end
end AL
set_option Elab.async false
set_option linter.all false
set_option maxRecDepth 100000
set_option maxHeartbeats 4000000
/-! AL3: what is walked, targets, statements, calls, errors. -/
namespace AL
open PySem PySem.Spec PyProof.Rows L2
section
variable {X : Cx} {Wc : WX} {a b c e : Expr} {es : List Expr} {ta tb tc te : TE} {Wa Wb We Wcc : WE} {pos p p' p2 : Pos} {K : PySem.W.Frag} {tx tr : TA} {Wx Wr : WA} {t1 t2 : TT} {T1 T2 : WT}

/-! ### what is walked -/
structure Iter (K : PySem.W.Frag) (B : Hp) (J : It) (ds : List Da) : Prop where
  go : ∀ (i : Nat) (d : Da) (B1 H : Hp) (μ : Mu), ds[i]? = some d → Ex B B1 → Mem K B1 H μ → J.go i H
  yld : ∀ (i : Nat) (d : Da) (B1 H : Hp) (μ : Mu) (x : V) (H' : Hp), ds[i]? = some d → Ex B B1 → Mem K B1 H μ → J.yld i H x H' → ∃ B2, Ex B1 B2 ∧ Mem K B2 H' μ ∧ Rp K B2 x d
  stop : ∀ (B1 H : Hp) (μ : Mu), Ex B B1 → Mem K B1 H μ → J.stop ds.length H
abbrev WI := WA
structure AI (X : Cx) (Wc : WX) (tg iter : Expr) (wi : TI) (W : WI) : Prop where
  pi : PI X tg iter wi
  ae : ∀ ex ρ μ P, W ex ρ μ P → ∀ (B H : Hp) (σ : L2.St) (R : It → Hp → Prop), Mem X.K B H μ → Envs X.K B σ ρ → WL X.K B ex Wc → (∀ J ds B' H' μ', Ex B B' → Mem X.K B' H' μ' → Iter X.K B' J ds → P ds μ' → R J H') → wi σ H R
theorem iter_list {B : Hp} {q : Addr} {xs : List V} {ds : List Da} (h : B q = some (.lst xs)) (r : RpAll K B xs ds) : Iter K B (Itl K q) ds := by
  refine ⟨fun i d B1 H μ hd e M => ?_, fun i d B1 H μ x H' hd e M y => ?_, fun B1 H μ e M => ?_⟩
  · obtain ⟨v, hv, _⟩ := r.at hd
    exact ⟨xs, v, .inl (.inl (M.ex _ _ (e _ _ h))), hv⟩
  · obtain ⟨rfl, y⟩ := y
    obtain ⟨v, hv, rv⟩ := r.at hd
    have e1 := y xs (.inl (.inl (M.ex _ _ (e _ _ h))))
    rw [hv] at e1
    cases e1
    exact ⟨B1, Ex.refl B1, M, rv.mono e⟩
  · exact ⟨xs, .inl (.inl (M.ex _ _ (e _ _ h))), by rw [r.length]; exact Nat.le_refl _⟩
theorem iter_tup {B : Hp} {q : Addr} {xs : List V} {ds : List Da} (h : B q = some (.tup xs)) (r : RpAll K B xs ds) : Iter K B (Itt K q) ds := by
  refine ⟨fun i d B1 H μ hd e M => ?_, fun i d B1 H μ x H' hd e M y => ?_, fun B1 H μ e M => ?_⟩
  · obtain ⟨v, hv, _⟩ := r.at hd
    exact ⟨xs, v, .inl (.inl (M.ex _ _ (e _ _ h))), hv⟩
  · obtain ⟨rfl, y⟩ := y
    obtain ⟨v, hv, rv⟩ := r.at hd
    have e1 := y xs (.inl (.inl (M.ex _ _ (e _ _ h))))
    rw [hv] at e1
    cases e1
    exact ⟨B1, Ex.refl B1, M, rv.mono e⟩
  · exact ⟨xs, .inl (.inl (M.ex _ _ (e _ _ h))), by rw [r.length]; exact Nat.le_refl _⟩
def upFrom (lo : Int) (n : Nat) : List Da := (List.range n).map fun (i : Nat) => .int (lo + (i : Int))
theorem upFrom_get {lo : Int} {n i : Nat} {d : Da} (h : (upFrom lo n)[i]? = some d) : i < n ∧ d = .int (lo + (i : Int)) := by
  unfold upFrom at h
  rw [List.getElem?_map] at h
  cases e : (List.range n)[i]? with
  | none => rw [e] at h; cases h
  | some j =>
    rw [e] at h
    obtain ⟨h1, h2⟩ := List.getElem?_eq_some_iff.mp e
    rw [List.length_range] at h1
    rw [List.getElem_range] at h2
    subst h2
    exact ⟨h1, (Option.some.inj h).symm⟩
theorem upFrom_len {lo : Int} {n : Nat} : (upFrom lo n).length = n := by
  unfold upFrom
  rw [List.length_map, List.length_range]
theorem iter_range {B : Hp} {lo : Int} {n : Nat} : Iter K B (Itr lo n) (upFrom lo n) := by
  refine ⟨fun i d B1 H μ hd e M => ?_, fun i d B1 H μ x H' hd e M y => ?_, fun B1 H μ e M => ?_⟩
  · exact (upFrom_get hd).1
  · obtain ⟨rfl, rfl⟩ := y
    obtain ⟨_, rfl⟩ := upFrom_get hd
    exact ⟨B1, Ex.refl B1, M, .int _⟩
  · rw [upFrom_len]
    exact Nat.le_refl _
def wItL (Wa : WE) : WI := fun ex ρ μ P => Wa ex ρ μ fun x μ1 => match x with
  | .lst l => P l μ1
  | _ => False
def wItT (Wa : WE) : WI := fun ex ρ μ P => Wa ex ρ μ fun x μ1 => match x with
  | .tup l => P l μ1
  | _ => False
theorem ai_list {tg : Expr} (ha : AE X Wc a ta Wa) : AI X Wc tg a (iList X.K ta) (wItL Wa) := ⟨pi_list ha.pe, fun ex ρ μ P w B H σ R M S L q =>
  ha.ae ex ρ μ _ w B H σ _ M S L fun v d B1 H1 μ1 e1 M1 r1 w1 => by
    cases r1 <;> first | exact w1.elim | skip
    rename_i a1 xs l h1 r1
    exact ⟨a1, rfl, ⟨xs, .inl (.inl (M1.ex _ _ h1))⟩, q _ _ B1 H1 μ1 e1 M1 (iter_list h1 r1) w1⟩⟩
theorem ai_tup {tg : Expr} (ha : AE X Wc a ta Wa) : AI X Wc tg a (iTup X.K ta) (wItT Wa) := ⟨pi_tup ha.pe, fun ex ρ μ P w B H σ R M S L q =>
  ha.ae ex ρ μ _ w B H σ _ M S L fun v d B1 H1 μ1 e1 M1 r1 w1 => by
    cases r1 <;> first | exact w1.elim | skip
    rename_i a1 xs l h1 r1
    exact ⟨a1, rfl, ⟨xs, .inl (.inl (M1.ex _ _ h1))⟩, q _ _ B1 H1 μ1 e1 M1 (iter_tup h1 r1) w1⟩⟩
def wRng1 (Wx : WA) : WI := fun ex ρ μ P => Wx ex ρ μ fun ds μ1 => match ds with
  | [.int j] => (-100000 ≤ j ∧ j ≤ 100000) ∧ P (upFrom 0 j.toNat) μ1
  | _ => False
def wRng2 (Wx : WA) : WI := fun ex ρ μ P => Wx ex ρ μ fun ds μ1 => match ds with
  | [.int i, .int j] => (-100000 ≤ i ∧ i ≤ 100000 ∧ -100000 ≤ j ∧ j ≤ 100000) ∧ P (upFrom i (j - i).toNat) μ1
  | _ => False
theorem ai_range1 {tg : Expr} (hg : Gl X "range") (hm : X.mg "range" = none) (ha : AA X Wc [a] tx Wx) (hs : starEach [a] X.env = [(false, eval a X.env)] := by rfl) : AI X Wc tg (.Call (.Name "range" p) [a] [] pos) (iRng1 tx) (wRng1 Wx) := ⟨pi_range1 hg hm ha.pa hs, fun ex ρ μ P w B H σ R M S L q =>
  ha.ae ex ρ μ _ w B H σ _ M S L fun vs ds B1 H1 μ1 e1 M1 r1 w1 => by
    cases r1 with
    | nil => exact w1.elim
    | cons r rr =>
      cases rr with
      | cons r2 rr => cases r <;> exact w1.elim
      | nil =>
        cases r <;> first | exact w1.elim | skip
        rename_i j
        obtain ⟨⟨w2, w3⟩, w4⟩ := w1
        exact ⟨j, rfl, by omega, by omega, q _ _ B1 H1 μ1 e1 M1 iter_range w4⟩⟩
theorem ai_range2 {tg : Expr} (hg : Gl X "range") (hm : X.mg "range" = none) (ha : AA X Wc [a, b] tx Wx) (hs : starEach [a, b] X.env = [(false, eval a X.env), (false, eval b X.env)] := by rfl) (hs2 : starEach [b] X.env = [(false, eval b X.env)] := by rfl) :
    AI X Wc tg (.Call (.Name "range" p) [a, b] [] pos) (iRng2 tx) (wRng2 Wx) := ⟨pi_range2 hg hm ha.pa hs hs2, fun ex ρ μ P w B H σ R M S L q =>
  ha.ae ex ρ μ _ w B H σ _ M S L fun vs ds B1 H1 μ1 e1 M1 r1 w1 => by
    cases r1 with
    | nil => exact w1.elim
    | cons r rr =>
      cases rr with
      | nil => cases r <;> exact w1.elim
      | cons r2 rr =>
        cases rr with
        | cons r3 rr => cases r <;> cases r2 <;> exact w1.elim
        | nil =>
          cases r <;> first | (cases r2 <;> exact w1.elim) | skip
          cases r2 <;> first | exact w1.elim | skip
          obtain ⟨⟨w2, w3, w4, w5⟩, w6⟩ := w1
          exact ⟨_, _, rfl, ⟨by omega, by omega, by omega, by omega⟩, q _ _ B1 H1 μ1 e1 M1 iter_range w6⟩⟩

/-! ### targets -/
abbrev WG := AX → Da → Env → Mu → (Env → Mu → Prop) → Prop
structure AG (X : Cx) (Wc : WX) (e : Expr) (t : TG) (W : WG) : Prop where
  pg : PG X e t
  ae : ∀ ex d ρ μ P, W ex d ρ μ P → ∀ (B H : Hp) (σ : L2.St) (v : V) (Q : L2.St → Hp → Prop), Mem X.K B H μ → Envs X.K B σ ρ → WL X.K B ex Wc → Rp X.K B v d →
    (∀ ρ' μ' B' H' σ', Ex B B' → Mem X.K B' H' μ' → Envs X.K B' σ' ρ' → P ρ' μ' → Q σ' H') → t v σ H Q
def gNm (i : Nat) : WG := fun _ d ρ μ P => P (ρ.set i (some d)) μ
theorem ag_name {i : Nat} {x : Str} (hN : X.N.Nodup) (hi : X.N[i]? = some x) (hx : Loc X.env.scope x) (hf : X.fn x = true ∨ X.env.scope.names.lookup x = some .local := by first | exact .inl rfl | exact .inr rfl | assumption) : AG X Wc (.Name x pos) (gName i) (gNm i) :=
  ⟨pg_name hN hi hx hf, fun ex d ρ μ P w B H σ v Q M S L r q => q _ μ B H _ (Ex.refl B) M (Envs.set r i S) w⟩
structure AGs (X : Cx) (Wc : WX) (es : List Expr) (t : TGs) (W : AX → List Da → Env → Mu → (Env → Mu → Prop) → Prop) : Prop where
  pg : PGs X es t
  ae : ∀ ex ds ρ μ P, W ex ds ρ μ P → ∀ (B H : Hp) (σ : L2.St) (vs : List V) (Q : L2.St → Hp → Prop), Mem X.K B H μ → Envs X.K B σ ρ → WL X.K B ex Wc → RpAll X.K B vs ds →
    (∀ ρ' μ' B' H' σ', Ex B B' → Mem X.K B' H' μ' → Envs X.K B' σ' ρ' → P ρ' μ' → Q σ' H') → t vs σ H Q
def gsNil : AX → List Da → Env → Mu → (Env → Mu → Prop) → Prop := fun _ ds ρ μ P => ds = [] ∧ P ρ μ
def gsCons (G : WG) (Gs : AX → List Da → Env → Mu → (Env → Mu → Prop) → Prop) : AX → List Da → Env → Mu → (Env → Mu → Prop) → Prop := fun ex ds ρ μ P => match ds with
  | d :: r => G ex d ρ μ fun ρ1 μ1 => Gs ex r ρ1 μ1 P
  | [] => False
theorem ags_nil : AGs X Wc [] gNil gsNil := ⟨pgs_nil, fun ex ds ρ μ P w B H σ vs Q M S L r q => by
  obtain ⟨rfl, w⟩ := w
  cases r
  exact ⟨rfl, q ρ μ B H σ (Ex.refl B) M S w⟩⟩
theorem ags_cons {t : TG} {u : TGs} {G : WG} {Gs : AX → List Da → Env → Mu → (Env → Mu → Prop) → Prop} (h1 : AG X Wc a t G) (h2 : AGs X Wc es u Gs) (hs : (assignEach (a :: es) X.env).map (·.2) = assign a X.env :: (assignEach es X.env).map (·.2) := by rfl) : AGs X Wc (a :: es) (gCons t u) (gsCons G Gs) :=
  ⟨pgs_cons h1.pg h2.pg hs, fun ex ds ρ μ P w B H σ vs Q M S L r q => by
    cases r with
    | nil => exact w.elim
    | cons r rr =>
      refine ⟨_, _, rfl, h1.ae ex _ ρ μ _ w B H σ _ _ M S L r fun ρ1 μ1 B1 H1 σ1 e1 M1 S1 w1 => ?_⟩
      exact h2.ae ex _ ρ1 μ1 P w1 B1 H1 σ1 _ Q M1 S1 (L.mono e1) (rr.mono e1) fun ρ2 μ2 B2 H2 σ2 e2 M2 S2 w2 => q ρ2 μ2 B2 H2 σ2 (e1.trans e2) M2 S2 w2⟩
def gTp (n : Nat) (Gs : AX → List Da → Env → Mu → (Env → Mu → Prop) → Prop) : WG := fun ex d ρ μ P => match d with
  | .tup l => l.length = n ∧ Gs ex l ρ μ P
  | _ => False
theorem ag_tup {k n : Nat} {u : TGs} {Gs : AX → List Da → Env → Mu → (Env → Mu → Prop) → Prop} (hc : X.calm = true) (h : AGs X Wc es u Gs) (hn : (assignEach es X.env).length = n := by rfl) (hst : (assignEach es X.env).findIdx? (·.1) = none := by rfl) : AG X Wc (.Tuple es k pos) (gTup X.K n u) (gTp n Gs) :=
  ⟨pg_tup hc h.pg hn hst, fun ex d ρ μ P w B H σ v Q M S L r q => by
    cases r <;> first | exact w.elim | skip
    rename_i a1 xs l h1 r1
    exact ⟨a1, xs, rfl, .inl (.inl (M.ex _ _ h1)), by rw [r1.length]; exact w.1, h.ae ex l ρ μ P w.2 B H σ xs Q M S L r1 q⟩⟩
/-- xs[i] = .. of a list that may change -/
def gIx (Wa Wb : WE) : WG := fun ex d ρ μ P => Wa ex ρ μ fun x μ1 => Wb ex ρ μ1 fun y μ2 => match x, y with
  | .ptr q, .int k => match μ2 q with
    | some (.lst l) => match ixN l.length k with
      | some j => P ρ (updM μ2 q (.lst (l.set j d)))
      | none => False
    | _ => False
  | _, _ => False
theorem ag_ix (ha : AE X Wc a ta Wa) (hb : AE X Wc b tb Wb)
    (hh : ∀ v, assign (.Subscript a b pos) X.env v = (do
      let ov ← holding [v] (eval a X.env)
      let iv ← holding [v, ov] (eval b X.env)
      standAt pos
      holding [v, ov, iv] (setItem ov iv v)
      release [v, ov, iv] []) := by intro _; rfl) : AG X Wc (.Subscript a b pos) (gSub ta tb rSetL) (gIx Wa Wb) :=
  ⟨pg_sub ha.pe hb.pe set_list hh, fun ex d ρ μ P w B H σ v Q M S L r q =>
    ha.ae ex ρ μ _ w B H σ _ M S L fun v1 d1 B1 H1 μ1 e1 M1 r1 w1 => hb.ae ex ρ μ1 _ w1 B1 H1 σ _ M1 (S.mono e1) (L.mono e1) fun v2 d2 B2 H2 μ2 e2 M2 r2 w2 => by
      have r1' := r1.mono e2
      cases r1' <;> first | exact w2.elim | skip
      cases r2 <;> first | exact w2.elim | skip
      rename_i a1 k
      have w' : (match μ2 a1 with
        | some (.lst l) => match ixN l.length k with
          | some j => P ρ (updM μ2 a1 (.lst (l.set j d)))
          | none => False
        | _ => False) := w2
      cases e : μ2 a1 with
      | none => rw [e] at w'; exact w'.elim
      | some o =>
        rw [e] at w'
        cases o with
        | any S => exact w'.elim
        | lst l =>
          obtain ⟨_, xs, hx, rx⟩ := M2.mu _ _ e
          have w3 : (match ixN l.length k with
            | some j => P ρ (updM μ2 a1 (.lst (l.set j d)))
            | none => False) := w'
          cases ej : ixN l.length k with
          | none => rw [ej] at w3; exact w3.elim
          | some j =>
            rw [ej] at w3
            refine ⟨a1, xs, k, j, rfl, rfl, hx, by rw [rx.length]; exact ej, ?_⟩
            exact q ρ _ B2 _ σ (e1.trans e2) (M2.set e (RpAll.set (r.mono (e1.trans e2)) j rx)) (S.mono (e1.trans e2)) w3⟩

/-! ### statements -/
variable {st : Stmt} {rest : List Stmt} {ts tu : TS} {Ws Wu : WS} {A : AEnds}
def wNext : WS := fun _ A ρ μ => A.nx ρ μ
def wSeq (W U : WS) : WS := fun ex A ρ μ => W ex { A with nx := fun ρ' μ' => U ex A ρ' μ' } ρ μ
theorem as_nil : ASs X Wc [] tNext wNext := ⟨pss_nil, fun ex A ρ μ w B H σ D M S L E => E.nx B H μ σ ρ (Ex.refl B) M S w⟩
theorem as_cons (h1 : AS X Wc st ts Ws) (h2 : ASs X Wc rest tu Wu) : ASs X Wc (st :: rest) (tSeq ts tu) (wSeq Ws Wu) := ⟨pss_cons h1.ps h2.ps, fun ex A ρ μ w B H σ D M S L E =>
  h1.ae ex _ ρ μ w B H σ _ M S L ⟨fun B' H' μ' σ' ρ' e M' S' w' => h2.ae ex A ρ' μ' w' B' H' σ' D M' S' (L.mono e) (E.mono e), E.rt, E.bk, E.ct⟩⟩
theorem as_one (h1 : AS X Wc st ts Ws) : ASs X Wc [st] ts Ws := ⟨pss_one h1.ps, h1.ae⟩
theorem as_pass : AS X Wc (.Pass pos) tNext wNext := ⟨ps_pass, fun ex A ρ μ w B H σ D M S L E => E.nx B H μ σ ρ (Ex.refl B) M S w⟩
def wBreak : WS := fun _ A ρ μ => A.bk ρ μ
theorem as_break : AS X Wc (.Break pos) tBreak wBreak := ⟨ps_break, fun ex A ρ μ w B H σ D M S L E => E.bk B H μ σ ρ (Ex.refl B) M S w⟩
def wCont : WS := fun _ A ρ μ => A.ct ρ μ
theorem as_cont : AS X Wc (.Continue pos) tCont wCont := ⟨ps_continue, fun ex A ρ μ w B H σ D M S L E => E.ct B H μ σ ρ (Ex.refl B) M S w⟩
theorem as_doc {x j} : AS X Wc (.Expr (.Constant (.str x) j p) pos) tNext wNext := ⟨ps_doc, fun ex A ρ μ w B H σ D M S L E => E.nx B H μ σ ρ (Ex.refl B) M S w⟩
def wDrop (Wa : WE) : WS := fun ex A ρ μ => Wa ex ρ μ fun _ μ1 => A.nx ρ μ1
theorem as_expr (ha : AE X Wc a ta Wa) (hs : swapsWith a none pos.line X.env = pure false := by rfl) : AS X Wc (.Expr a pos) (tDrop ta) (wDrop Wa) := ⟨ps_expr ha.pe hs, fun ex A ρ μ w B H σ D M S L E =>
  ha.ae ex ρ μ _ w B H σ _ M S L fun v d B1 H1 μ1 e1 M1 r1 w1 => E.nx B1 H1 μ1 σ ρ e1 M1 (S.mono e1) w1⟩
def wRet (Wa : WE) : WS := fun ex A ρ μ => Wa ex ρ μ A.rt
theorem as_ret (ha : AE X Wc a ta Wa) : AS X Wc (.Return (some a) pos) (tRet ta) (wRet Wa) := ⟨ps_ret ha.pe, fun ex A ρ μ w B H σ D M S L E =>
  ha.ae ex ρ μ _ w B H σ _ M S L fun v d B1 H1 μ1 e1 M1 r1 w1 => E.rt B1 H1 μ1 v d e1 M1 r1 w1⟩
def wRetN : WS := fun _ A _ μ => A.rt .non μ
theorem as_retN : AS X Wc (.Return none pos) tRetN wRetN := ⟨ps_retN, fun ex A ρ μ w B H σ D M S L E => E.rt B H μ .non .non (Ex.refl B) M .non w⟩
def wIfS (T : WT) (W U : WS) : WS := fun ex A ρ μ => T ex ρ μ fun c μ1 => if c = true then W ex A ρ μ1 else U ex A ρ μ1
theorem as_if {body orelse : List Stmt} (hc : AT X Wc c t1 T1) (ha : ASs X Wc body ts Ws) (hb : ASs X Wc orelse tu Wu) : AS X Wc (.If c body orelse pos) (tIfS t1 ts tu) (wIfS T1 Ws Wu) := ⟨ps_if hc.pt ha.ps hb.ps, fun ex A ρ μ w B H σ D M S L E =>
  hc.ae ex ρ μ _ w B H σ _ M S L fun c B1 H1 μ1 e1 M1 w1 => by
    cases c with
    | true => exact ha.ae ex A ρ μ1 w1 B1 H1 σ D M1 (S.mono e1) (L.mono e1) (E.mono e1)
    | false => exact hb.ae ex A ρ μ1 w1 B1 H1 σ D M1 (S.mono e1) (L.mono e1) (E.mono e1)⟩
def wAsg (Wa : WE) (G : WG) : WS := fun ex A ρ μ => Wa ex ρ μ fun x μ1 => G ex x ρ μ1 A.nx
theorem as_asg {tg : Expr} {t : TG} {G : WG} (ha : AE X Wc a ta Wa) (hg : AG X Wc tg t G) (hs : swapsWithSole [tg] a pos.line X.env = pure false := by rfl) (hw : swappedStores [tg] a X.env = pure none := by rfl)
    (h1 : (assignEach [tg] X.env).map (·.2) = [assign tg X.env] := by rfl) : AS X Wc (.Assign [tg] a pos) (tAsg ta t) (wAsg Wa G) := ⟨ps_asg ha.pe hg.pg hs hw h1, fun ex A ρ μ w B H σ D M S L E =>
  ha.ae ex ρ μ _ w B H σ _ M S L fun v d B1 H1 μ1 e1 M1 r1 w1 => hg.ae ex d ρ μ1 _ w1 B1 H1 σ v _ M1 (S.mono e1) (L.mono e1) r1 fun ρ' μ' B' H' σ' e' M' S' w' => E.nx B' H' μ' σ' ρ' (e1.trans e') M' S' w'⟩
theorem as_set {i : Nat} {x : Str} (hN : X.N.Nodup) (hi : X.N[i]? = some x) (hx : Loc X.env.scope x) (ha : AE X Wc a ta Wa) (hs : swapsWith a (some (.Name x p')) pos.line X.env = pure false := by rfl) (hf : X.fn x = true ∨ X.env.scope.names.lookup x = some .local := by first | exact .inl rfl | exact .inr rfl | assumption) :
    AS X Wc (.Assign [.Name x p'] a pos) (tAsg ta (gName i)) (wAsg Wa (gNm i)) := ⟨ps_set hN hi hx ha.pe hs hf, fun ex A ρ μ w B H σ D M S L E =>
  ha.ae ex ρ μ _ w B H σ _ M S L fun v d B1 H1 μ1 e1 M1 r1 w1 => E.nx B1 H1 μ1 _ _ e1 M1 (Envs.set r1 i (S.mono e1)) w1⟩
def wPar (i j : Nat) (Wx : WA) : WS := fun ex A ρ μ => Wx ex ρ μ fun ds μ1 => match ds with
  | [d, e] => A.nx ((ρ.set i (some d)).set j (some e)) μ1
  | _ => False
theorem aep_par {i j : Nat} (ha : AAp K Wc tx Wx) : ASp K Wc (tPar i j tx) (wPar i j Wx) := fun ex A ρ μ w B H σ D M S L E =>
  ha ex ρ μ _ w B H σ _ M S L fun vs ds B1 H1 μ1 e1 M1 r1 w1 => by
    cases r1 with
    | nil => exact w1.elim
    | cons r rr =>
      cases rr with
      | nil => exact w1.elim
      | cons r2 rr =>
        cases rr with
        | cons r3 rr => exact w1.elim
        | nil => exact ⟨_, _, rfl, E.nx B1 H1 μ1 _ _ e1 M1 (Envs.set r2 j (Envs.set r i (S.mono e1))) w1⟩
/-- x += e -/
def wAug (i : Nat) (Wa : WE) (f : R2A) : WS := fun ex A ρ μ => match Env.get ρ i with
  | some x => Wa ex ρ μ fun y μ1 => f x y μ1 fun z μ2 => A.nx (ρ.set i (some z)) μ2
  | none => False
theorem aep_aug {i : Nat} {r : TIp} {R : R2A} (h : ROk K r R) (ha : AEp K Wc ta Wa) : ASp K Wc (tAug i ta r) (wAug i Wa R) := fun ex A ρ μ w B H σ D M S L E => by
  unfold wAug at w
  cases e : Env.get ρ i with
  | none => rw [e] at w; exact w.elim
  | some d =>
    rw [e] at w
    obtain ⟨v, h1, h2⟩ := S.get e
    refine ⟨v, h1, ha ex ρ μ _ w B H σ _ M S L fun v1 d1 B1 H1 μ1 e1 M1 r1 w1 => ?_⟩
    exact h d d1 μ1 _ w1 B1 H1 v v1 _ M1 (h2.mono e1) r1 fun z d2 B2 H2 μ2 e2 M2 r2 w2 => E.nx B2 H2 μ2 _ _ (e1.trans e2) M2 (Envs.set r2 i (S.mono (e1.trans e2))) w2
/-- for: I, what holds ahead of each turn -/
def wFor (Wi : WI) (G : WG) (W : WS) : WS := fun ex A ρ μ => Wi ex ρ μ fun ds μ1 => ∃ I : Nat → Env → Mu → Prop, I 0 ρ μ1 ∧
  (∀ i d ρ' μ', ds[i]? = some d → I i ρ' μ' → G ex d ρ' μ' fun ρ2 μ2 => W ex { A with nx := I (i + 1), ct := I (i + 1), bk := A.nx } ρ2 μ2) ∧ ∀ ρ' μ', I ds.length ρ' μ' → A.nx ρ' μ'
theorem as_for {tg iter : Expr} {body : List Stmt} {wi : TI} {t : TG} {Wi : WI} {G : WG} (hp : PassesOwn (model X.prog X.w) X.A X.env X.xe) (hc : X.calm = true) (hi : AI X Wc tg iter wi Wi) (hg : AG X Wc tg t G) (hb : ASs X Wc body ts Ws)
    (hs : ∀ x, foldedSetIterable iter X.env x = pure x := by intro _; rfl) : AS X Wc (.For tg iter body [] pos) (tFor wi t ts) (wFor Wi G Ws) := ⟨ps_for hp hc hi.pi hg.pg hb.ps hs, fun ex A ρ μ w B H σ D M S L E =>
  hi.ae ex ρ μ _ w B H σ _ M S L fun J ds B1 H1 μ1 e1 M1 it w1 => by
    obtain ⟨I, i0, turn, fin⟩ := w1
    refine ⟨fun i m σ' H' => m = ds.length - i ∧ i ≤ ds.length ∧ ∃ B' ρ' μ', Ex B1 B' ∧ Mem X.K B' H' μ' ∧ Envs X.K B' σ' ρ' ∧ I i ρ' μ', ⟨ds.length, by simp, Nat.zero_le _, B1, ρ, μ1, Ex.refl B1, M1, S.mono e1, i0⟩, ?_⟩
    rintro i m σ' H' ⟨rfl, hi, B', ρ', μ', e', M', S', hI⟩
    by_cases hlt : i < ds.length
    · have hd : ds[i]? = some ds[i] := List.getElem?_eq_getElem hlt
      refine .inr ⟨it.go i _ B' H' μ' hd e' M', fun σ2 H2 => ∃ B2 ρ2 μ2, Ex B1 B2 ∧ Mem X.K B2 H2 μ2 ∧ Envs X.K B2 σ2 ρ2 ∧ I (i + 1) ρ2 μ2, fun σ2 H2 ⟨B2, ρ2, μ2, e2, M2, S2, i2⟩ => ⟨_, (by omega : ds.length - (i + 1) < ds.length - i), rfl, hlt, B2, ρ2, μ2, e2, M2, S2, i2⟩, fun x H2 y => ?_⟩
      obtain ⟨B2, e2, M2, r2⟩ := it.yld i _ B' H' μ' x H2 hd e' M' y
      refine hg.ae ex _ ρ' μ' _ (turn i _ ρ' μ' hd hI) B2 H2 σ' x _ M2 (S'.mono e2) (L.mono (e1.trans (e'.trans e2))) r2 fun ρ3 μ3 B3 H3 σ3 e3 M3 S3 w3 => ?_
      have e13 := e'.trans (e2.trans e3)
      exact hb.ae ex _ ρ3 μ3 w3 B3 H3 σ3 _ M3 S3 (L.mono (e1.trans e13)) ⟨fun B4 H4 μ4 σ4 ρ4 e4 M4 S4 w4 => ⟨B4, ρ4, μ4, e13.trans e4, M4, S4, w4⟩, fun B4 H4 μ4 v d e4 M4 r4 w4 => E.rt B4 H4 μ4 v d (e1.trans (e13.trans e4)) M4 r4 w4,
        fun B4 H4 μ4 σ4 ρ4 e4 M4 S4 w4 => E.nx B4 H4 μ4 σ4 ρ4 (e1.trans (e13.trans e4)) M4 S4 w4, fun B4 H4 μ4 σ4 ρ4 e4 M4 S4 w4 => ⟨B4, ρ4, μ4, e13.trans e4, M4, S4, w4⟩⟩
    · have ei : i = ds.length := by omega
      subst ei
      exact .inl ⟨it.stop B' H' μ' e' M', E.nx B' H' μ' σ' ρ' (e1.trans e') M' S' (fin ρ' μ' hI)⟩⟩
/-- while: I by a number that falls -/
def wWhile (T : WT) (W : WS) : WS := fun ex A ρ μ => ∃ I : Nat → Env → Mu → Prop, (∃ m, I m ρ μ) ∧
  ∀ m ρ' μ', I m ρ' μ' → T ex ρ' μ' fun c μ1 => if c = true then W ex { A with nx := fun ρ2 μ2 => ∃ m2, m2 < m ∧ I m2 ρ2 μ2, ct := fun ρ2 μ2 => ∃ m2, m2 < m ∧ I m2 ρ2 μ2, bk := A.nx } ρ' μ1 else A.nx ρ' μ1
theorem as_while {body : List Stmt} (hp : PassesOwn (model X.prog X.w) X.A X.env X.xe) (hc : AT X Wc c t1 T1) (hb : ASs X Wc body ts Ws) : AS X Wc (.While c body [] pos) (tWhile t1 ts) (wWhile T1 Ws) := ⟨ps_while hp hc.pt hb.ps, fun ex A ρ μ w B H σ D M S L E => by
    obtain ⟨I, ⟨m0, i0⟩, turn⟩ := w
    refine ⟨fun m σ' H' => ∃ B' ρ' μ', Ex B B' ∧ Mem X.K B' H' μ' ∧ Envs X.K B' σ' ρ' ∧ I m ρ' μ', ⟨m0, B, ρ, μ, Ex.refl B, M, S, i0⟩, ?_⟩
    rintro m σ' H' ⟨B', ρ', μ', e', M', S', hI⟩
    refine hc.ae ex ρ' μ' _ (turn m ρ' μ' hI) B' H' σ' _ M' S' (L.mono e') fun c B1 H1 μ1 e1 M1 w1 => ?_
    have e01 := e'.trans e1
    cases c with
    | true =>
      refine ⟨fun σ2 H2 => ∃ m2, m2 < m ∧ ∃ B2 ρ2 μ2, Ex B B2 ∧ Mem X.K B2 H2 μ2 ∧ Envs X.K B2 σ2 ρ2 ∧ I m2 ρ2 μ2, fun σ2 H2 h => h, ?_⟩
      exact hb.ae ex _ ρ' μ1 w1 B1 H1 σ' _ M1 (S'.mono e1) (L.mono e01) ⟨fun B4 H4 μ4 σ4 ρ4 e4 M4 S4 ⟨m2, l2, w4⟩ => ⟨m2, l2, B4, ρ4, μ4, e01.trans e4, M4, S4, w4⟩, fun B4 H4 μ4 v d e4 M4 r4 w4 => E.rt B4 H4 μ4 v d (e01.trans e4) M4 r4 w4,
        fun B4 H4 μ4 σ4 ρ4 e4 M4 S4 w4 => E.nx B4 H4 μ4 σ4 ρ4 (e01.trans e4) M4 S4 w4, fun B4 H4 μ4 σ4 ρ4 e4 M4 S4 ⟨m2, l2, w4⟩ => ⟨m2, l2, B4, ρ4, μ4, e01.trans e4, M4, S4, w4⟩⟩
    | false => exact E.nx B1 H1 μ1 σ' ρ' e01 M1 (S'.mono e1) w1⟩

/-! ### a comprehension: J by what is made so far; its block changes nothing -/
abbrev W0 : WX := fun _ _ _ _ => False
abbrev noX : AX := fun _ _ _ _ => False
theorem wl0 {B : Hp} : WL K B noX W0 := fun _ _ _ _ _ _ _ _ _ _ _ _ _ _ h => h
def wLc (Wi : WI) (j : Nat) (T : WT) (W : WE) (vs : List Nat) : WE := fun ex ρ μ P => Wi ex ρ μ fun ds μ1 => ∃ J : Nat → List Da → Prop, J 0 [] ∧
  (∀ D i d acc, μ1 D = none → ds[i]? = some d → J i acc → T noX ((wipeA ρ vs).set j (some d)) (updM μ1 D (.lst acc)) fun c μ2 => if c = true then W noX ((wipeA ρ vs).set j (some d)) μ2 fun y μ3 => μ3 = updM μ1 D (.lst acc) ∧ acc.length < 100000 ∧ J (i + 1) (acc ++ [y])
    else μ2 = updM μ1 D (.lst acc) ∧ J (i + 1) acc) ∧ ∀ acc, J ds.length acc → P (.lst acc) μ1
theorem aep_lc {wi : TI} {Wi : WI} {j : Nat} {vs : List Nat} (hw : ∀ (σ : L2.St) x, L2.wipe ((L2.wipe σ vs).set j (some x)) vs = L2.wipe σ vs)
    (hi : ∀ ex ρ μ P, Wi ex ρ μ P → ∀ (B H : Hp) (σ : L2.St) (R : It → Hp → Prop), Mem K B H μ → Envs K B σ ρ → WL K B ex Wc → (∀ J ds B' H' μ', Ex B B' → Mem K B' H' μ' → Iter K B' J ds → P ds μ' → R J H') → wi σ H R)
    (ht : ATp K W0 t1 T1) (he : AEp K W0 te We) : AEp K Wc (tLc wi (gName j) t1 te vs) (wLc Wi j T1 We vs) := fun ex ρ μ P w B H σ Q M S L q =>
  hi ex ρ μ _ w B H σ _ M S L fun It ds B1 H1 μ1 e1 M1 it w1 => by
    obtain ⟨J, j0, turn, fin⟩ := w1
    intro D hD
    have mD := M1.free hD
    refine ⟨fun i m H' => m = ds.length - i ∧ i ≤ ds.length ∧ ∃ B' acc, Ex B1 B' ∧ Mem K B' H' (updM μ1 D (.lst acc)) ∧ J i acc, ⟨ds.length, by simp, Nat.zero_le _, B1, [], Ex.refl B1, M1.own hD .nil, j0⟩, ?_⟩
    rintro i m H' ⟨rfl, hi, B', acc, e', M', hJ⟩
    by_cases hlt : i < ds.length
    · have hd : ds[i]? = some ds[i] := List.getElem?_eq_getElem hlt
      refine .inr ⟨it.go i _ B' H' _ hd e' M', fun H2 => ∃ B2 acc2, Ex B1 B2 ∧ Mem K B2 H2 (updM μ1 D (.lst acc2)) ∧ J (i + 1) acc2, fun H2 ⟨B2, acc2, e2, M2, j2⟩ => ⟨_, (by omega : ds.length - (i + 1) < ds.length - i), rfl, hlt, B2, acc2, e2, M2, j2⟩, fun x H2 y => ?_⟩
      obtain ⟨B2, e2, M2, r2⟩ := it.yld i _ B' H' _ x H2 hd e' M' y
      refine ⟨hw σ x, ?_⟩
      have e12 := e'.trans e2
      have S2 : Envs K B2 ((L2.wipe σ vs).set j (some x)) ((wipeA ρ vs).set j (some ds[i])) := Envs.set r2 j (Envs.wipe (S.mono (e1.trans e12)) vs)
      refine ht noX _ _ _ (turn D i _ acc mD hd hJ) B2 H2 _ _ M2 S2 wl0 fun c B3 H3 μ3 e3 M3 w3 => ?_
      cases c with
      | true =>
        refine he noX _ _ _ w3 B3 H3 _ _ M3 (S2.mono e3) wl0 fun v d B4 H4 μ4 e4 M4 r4 w4 => ?_
        obtain ⟨rfl, hz, j4⟩ := w4
        obtain ⟨_, xs, hx, rx⟩ := M4.mu D _ updM_same
        refine ⟨xs, hx, by rw [rx.length]; exact Nat.lt_of_lt_of_le hz (by decide), B4, acc ++ [d], e12.trans (e3.trans e4), ?_, j4⟩
        have M5 := M4.set updM_same (rx.append (.cons r4 .nil))
        rw [updM_updM] at M5
        exact M5
      | false =>
        obtain ⟨rfl, j3⟩ := w3
        exact ⟨B3, acc, e12.trans e3, M3, j3⟩
    · have ei : i = ds.length := by omega
      subst ei
      refine .inl ⟨it.stop B' H' _ e' M', ?_⟩
      obtain ⟨xs, rx, M5⟩ := M'.freeze (p := D) updM_same
      have hb : B' D = none := (M'.mu D _ updM_same).1
      refine q (.ref D) (.lst acc) _ H' μ1 (e1.trans (e'.trans (Ex.new hb))) (M5.sub fun a o h => ?_) (.lst upd_same (rx.mono (Ex.new hb))) (fin acc hJ)
      have ne : a ≠ D := fun z => by rw [z, mD] at h; cases h
      show (if a = D then none else updM μ1 D (.lst acc) a) = some o
      rw [if_neg ne, updM_ne ne]
      exact h
theorem wipe1 {j : Nat} : ∀ (σ : L2.St) x, L2.wipe ((L2.wipe σ [j]).set j (some x)) [j] = L2.wipe σ [j] := fun σ x => by
  show ((σ.set j none).set j (some x)).set j none = σ.set j none
  rw [List.set_set, List.set_set]
def wYes : WT := fun _ _ μ P => P true μ
theorem at_yes : ATp K Wc tYes wYes := fun ex ρ μ P w B H σ Q M S L q => q true B H μ (Ex.refl B) M w
theorem ae_lc {elt iter : Expr} {x : Str} {px : Pos} {scope : Scope} {j : Nat} {wi : TI} {Wi : WI} {te : Shared → Hp → Addr → List (Str × Addr) → List Addr → TE} (hc : X.calm = true) (hN : X.N.Nodup) (hi : AI X Wc (.Name x px) iter wi Wi) (ok : BlkOk X.N X.env.scope scope [(x, j)])
    (hg : ∀ (s : Shared) (H : Hp) (C : Addr) (cl : List (Str × Addr)) (fp : List Addr), PG (X.blk s H scope (compEnvC scope cl C X.env) fp) (.Name x px) (gName j))
    (he : ∀ (s : Shared) (H : Hp) (C : Addr) (cl : List (Str × Addr)) (fp : List Addr), AE (X.blk s H scope (compEnvC scope cl C X.env) fp) W0 elt (te s H C cl fp) We)
    (hte : ∀ s H C cl fp, te s H C cl fp = te X.s_0 X.H_0 0 [] [] := by intros; rfl) (hs : ∀ x, foldedSetIterable iter X.env x = pure x := by intro _; rfl) :
    AE X Wc (.ListComp elt [⟨.Name x px, iter, [], 0⟩] scope pos) (tLc wi (gName j) tYes (te X.s_0 X.H_0 0 [] []) [j]) (wLc Wi j wYes We [j]) :=
  ⟨pe_lc (own := [(x, j)]) hc hN hi.pi ok hg (fun _ _ _ _ _ => pts_nil) (fun s H C cl fp => by rw [← hte s H C cl fp]; exact (he s H C cl fp).pe) hs, aep_lc wipe1 hi.ae at_yes (he X.s_0 X.H_0 0 [] []).ae⟩
end
end AL
set_option Elab.async false
set_option linter.all false
set_option maxRecDepth 100000
set_option maxHeartbeats 4000000
/-! AL4: defs and their promises over data, calls, own errors, try. -/
namespace AL
open PySem PySem.Spec PyProof.Rows L2

abbrev ASpec := List Da → Mu → (Da → Mu → Prop) → (Addr → Da → Mu → Prop) → Prop
/-- a promise over data as HandS's promise -/
def spOf (K : PySem.W.Frag) (S : ASpec) : Sp := fun vs H Q E => ∃ (B : Hp) (ds : List Da) (μ : Mu) (P : Da → Mu → Prop) (EP : Addr → Da → Mu → Prop), Mem K B H μ ∧ RpAll K B vs ds ∧ S ds μ P EP ∧
  (∀ v d B' H' μ', Ex B B' → Mem K B' H' μ' → Rp K B' v d → P d μ' → Q v H') ∧
  (∀ C dd d v B' H' μ', Ex B B' → Mem K B' H' μ' → Rp K B' v d → H' dd = some (.xd [("value", v)]) → EP C d μ' → E (.ref C) (some dd) H')
theorem Mem.junk {K : PySem.W.Frag} {B H : Hp} {μ : Mu} (M : Mem K B H μ) {p : Addr} {o : HO} (hp : H p = none) : Mem K B (upd H p o) μ := by
  refine ⟨fun a u e => ?_, fun a u e => ?_⟩
  · rw [upd_ne (ne_of_none (M.ex a u e) hp)]
    exact M.ex a u e
  · obtain ⟨h1, h2⟩ := M.mu a u e
    exact ⟨h1, h2.mono (Ex.refl B) (upd_ne (M.ne hp e))⟩
def ends0 (P : Da → Mu → Prop) : AEnds := ⟨fun _ μ => P .non μ, P, fun _ _ => False, fun _ _ => False⟩
def startA (N : List Str) (ds : List Da) : Env := ds.map some ++ List.replicate (N.length - ds.length) none

section
variable {P : Program} {w : World} {K : PySem.W.Frag} {mg : Str → Option Value} {base : Heap}
/-- a def that raises nothing -/
theorem fn0 {x qual : Str} {st : Stmt} {f : Addr} {fd : FuncData} {N ps : List Str} {k : Nat} {S : ASpec} (F : Fun K x qual st f fd) (Sc : FnScope N ps (defScope st)) (len : ∀ ds μ P E, S ds μ P E → ds.length = ps.length)
    (hbody : ∀ (cdv : Value) (A : Around) (outer : List PySem.Env) (s : Shared) (H : Hp) (E : XK), Room k (A.deeper (envOfC qual (defScope st) s.heap.objs.size f cdv)) →
      ∃ t W, ASs (cxOf CX0 P w K mg base N qual (defScope st) f cdv A outer s H E).nox W0 (defBody st) t W ∧ ∀ ds μ P EP, S ds μ P EP → W noX (ends0 P) (startA N ds) μ) :
    FnOk P w K mg base CX0 (k + 1) f fd ps (spOf K S) := by
  refine F.ok Sc (fun vs H Q E h => ?_) fun cdv A outer s H vs Q E hr h => ?_
  · obtain ⟨B, ds, μ, P', EP, M, r, hs, _⟩ := h
    rw [r.length]
    exact len _ _ _ _ hs
  · obtain ⟨B, ds, μ, P', EP, M, r, hs, q, _⟩ := h
    obtain ⟨t, W, b, hw⟩ := hbody cdv A outer s H E hr
    refine ⟨t, b.ps, ?_⟩
    exact b.ae noX _ _ μ (hw ds μ P' EP hs) B H _ _ M (envs_start r) wl0
      ⟨fun B' H' μ' σ' ρ' e M' S' w' => q .non .non B' H' μ' e M' .non w', fun B' H' μ' v d e M' r' w' => q v d B' H' μ' e M' r' w', fun _ _ _ _ _ _ _ _ w' => w'.elim, fun _ _ _ _ _ _ _ _ w' => w'.elim⟩
/-- a def that may raise own errors -/
theorem fnX {x qual : Str} {st : Stmt} {f : Addr} {fd : FuncData} {N ps : List Str} {k : Nat} {S : ASpec} (F : Fun K x qual st f fd) (Sc : FnScope N ps (defScope st)) (len : ∀ ds μ P E, S ds μ P E → ds.length = ps.length)
    (hbody : ∀ (cdv : Value) (A : Around) (outer : List PySem.Env) (s : Shared) (H : Hp) (E : XK), Room k (A.deeper (envOfC qual (defScope st) s.heap.objs.size f cdv)) →
      ∃ t W, ASs (cxOf (L2.CX P w) P w K mg base N qual (defScope st) f cdv A outer s H E) (fun cls d _ H => E cls d H) (defBody st) t W ∧ ∀ ds μ P EP, S ds μ P EP → W (fun C d _ μ' => EP C d μ') (ends0 P) (startA N ds) μ) :
    FnOk P w K mg base (L2.CX P w) (k + 1) f fd ps (spOf K S) := by
  refine F.okX Sc (fun vs H Q E h => ?_) fun cdv A outer s H vs Q E hr h => ?_
  · obtain ⟨B, ds, μ, P', EP, M, r, hs, _⟩ := h
    rw [r.length]
    exact len _ _ _ _ hs
  · obtain ⟨B, ds, μ, P', EP, M, r, hs, q, qe⟩ := h
    obtain ⟨t, W, b, hw⟩ := hbody cdv A outer s H E hr
    refine ⟨t, b.ps, ?_⟩
    exact b.ae _ _ _ μ (hw ds μ P' EP hs) B H _ _ M (envs_start r) (fun C dd d v B' H' μ' σ' ρ' e M' S' r' hx w' => qe C dd d v B' H' μ' e M' r' hx w')
      ⟨fun B' H' μ' σ' ρ' e M' S' w' => q .non .non B' H' μ' e M' .non w', fun B' H' μ' v d e M' r' w' => q v d B' H' μ' e M' r' w', fun _ _ _ _ _ _ _ _ w' => w'.elim, fun _ _ _ _ _ _ _ _ w' => w'.elim⟩
end

section
variable {X : Cx} {Wc : WX} {a b c e : Expr} {es : List Expr} {ta tb tc te : TE} {Wa Wb We Wcc : WE} {pos p p' p2 pos2 : Pos} {tx tr : TA} {Wx Wr : WA} {t1 t2 : TT} {T1 T2 : WT}
variable {CX : CXT} {k : Nat} {f C : Addr} {fd : FuncData} {ps : List Str} {S : ASpec} {x : Str}
/-! ### calls -/
def wCall (S : ASpec) (Wx : WA) : WE := fun ex ρ μ P => Wx ex ρ μ fun ds μ1 => S ds μ1 P fun _ _ _ => False
theorem ap_call (hx : AAp X.K Wc tx Wx) : AEp X.K Wc (tCall (spOf X.K S) [] E0 tx) (wCall S Wx) := fun ex ρ μ P w B H σ Q M Sg L q =>
  hx ex ρ μ _ w B H σ _ M Sg L fun vs ds B1 H1 μ1 e1 M1 r1 w1 => by
    rw [List.append_nil]
    exact ⟨B1, ds, μ1, P, _, M1, r1, w1, fun v d B' H' μ' e' M' r' w' => q v d B' H' μ' (e1.trans e') M' r' w', fun _ _ _ _ _ _ _ _ _ _ _ z => z.elim⟩
theorem ae_call (F : FnOk X.prog X.w X.K X.mg X.base CX k f fd ps (spOf X.K S)) (hr : Room k X.A) (hg : Gl X x) (hm : X.mg x = some (.ref f)) (hk : PySem.W.keepIn X.K (.ref f) = true) (hb : Binds X.K fd ps []) (hx : Passes CX X E0)
    (ha : AA X Wc (a :: es) tx Wx) (hdb : (x == ("__debug__" : Str)) = false := by decide) (he : starEach (a :: es) X.env = (false, eval a X.env) :: starEach es X.env := by rfl) (hpl : (backTo pos (starEach es X.env)).any (·.1) = false := by rfl) :
    AE X Wc (.Call (.Name x p) (a :: es) [] pos) (tCall (spOf X.K S) [] E0 tx) (wCall S Wx) := ⟨pe_call F hr hg hm hk hb .nil hx ha.pa hdb he hpl, ap_call ha.ae⟩
theorem ae_call0 (F : FnOk X.prog X.w X.K X.mg X.base CX k f fd ps (spOf X.K S)) (hr : Room k X.A) (hg : Gl X x) (hm : X.mg x = some (.ref f)) (hk : PySem.W.keepIn X.K (.ref f) = true) (hb : Binds X.K fd ps []) (hx : Passes CX X E0)
    (hdb : (x == ("__debug__" : Str)) = false := by decide) : AE X Wc (.Call (.Name x p) [] [] pos) (tCall (spOf X.K S) [] E0 tNil) (wCall S wNil) := ⟨pe_call0 F hr hg hm hk hb .nil hx hdb, ap_call aa_nil.ae⟩
/-- a call that may raise -/
def wCallX (S : ASpec) (Wx : WA) : WE := fun ex ρ μ P => Wx ex ρ μ fun ds μ1 => S ds μ1 P fun C d μ2 => ex C d ρ μ2
theorem ae_callX (tk : Takes X Wc) (F : FnOk X.prog X.w X.K X.mg X.base (L2.CX X.prog X.w) k f fd ps (spOf X.K S)) (hr : Room k X.A) (hg : Gl X x) (hm : X.mg x = some (.ref f)) (hk : PySem.W.keepIn X.K (.ref f) = true) (hb : Binds X.K fd ps [])
    (ha : AA X Wc (a :: es) tx Wx) (hdb : (x == ("__debug__" : Str)) = false := by decide) (he : starEach (a :: es) X.env = (false, eval a X.env) :: starEach es X.env := by rfl) (hpl : (backTo pos (starEach es X.env)).any (·.1) = false := by rfl) :
    AE X Wc (.Call (.Name x p) (a :: es) [] pos) (tCallS (spOf X.K S) (L2.WE Wc) tx) (wCallX S Wx) := ⟨pe_callS F hr hg hm hk hb (fun σ => passAt tk σ) ha.pa hdb he hpl, fun ex ρ μ P w B H σ Q M Sg L q =>
  ha.ae ex ρ μ _ w B H σ _ M Sg L fun vs ds B1 H1 μ1 e1 M1 r1 w1 =>
    ⟨B1, ds, μ1, P, _, M1, r1, w1, fun v d B' H' μ' e' M' r' w' => q v d B' H' μ' (e1.trans e') M' r' w', fun C dd d v B' H' μ' e' M' r' hx w' => L C dd d v B' H' μ' σ ρ (e1.trans e') M' (Sg.mono (e1.trans e')) r' hx w'⟩⟩
/-- f(k = v, ..): all by keywords -/
theorem pe_callK0 {sp : Sp} {ks : List Str} {kws : List Keyword} {tk : TA} {g : List Value → List Value → List Value} {gV : List V → List V → List V} {E : XK} (F : FnOk X.prog X.w X.K X.mg X.base CX k f fd ps sp) (hr : Room k X.A) (hg : Gl X x) (hm : X.mg x = some (.ref f))
    (hk : PySem.W.keepIn X.K (.ref f) = true) (hb : KBinds X.K fd ps ks g gV) (hx : Passes CX X E)
    (hkw : PK X kws tk) (hall : (backToKw pos (keywordEach kws X.env)).all (·.1.isSome) = true := by rfl) (hks : (backToKw pos (keywordEach kws X.env)).filterMap (·.1) = ks := by rfl)
    (hdb : (x == ("__debug__" : Str)) = false := by decide) (hpl : ((backTo pos (starEach [] X.env)).any (·.1) || (backToKw pos (keywordEach kws X.env)).any (·.1.isNone)) = false := by rfl) :
    PE X (.Call (.Name x p) [] kws pos) (tCallK sp gV E tNil tk) := by
  refine ⟨fun pins s σ H Q I h => ?_⟩
  refine wpAny_Call_Name_kw (ld_glob I hg hm ?_ hdb)
  refine PySem.W.callWith_KW0 (h₀ := X.base) I.ok.mod.kin hk hall ?_ hpl
  refine thn (hkw.run pos pins s σ H _ I h) fun ws s2 ⟨zs, H2, I2, rz, q2⟩ => ⟨I2.kIn, ?_⟩
  rw [hks]
  exact run_fnk F hr hb hx I2 .nil rz q2

/-- keywords' values -/
structure AK (X : Cx) (Wc : WX) (kws : List Keyword) (t : TA) (W : WA) : Prop where
  pk : PK X kws t
  ae : AAp X.K Wc t W
theorem ak_nil : AK X Wc [] tNil wNil := ⟨pk_nil, aa_nil.ae (X := X)⟩
theorem ak_cons {nm : Option Str} {kpos : Pos} {kws : List Keyword} (ha : AE X Wc a ta Wa) (hr : AK X Wc kws tr Wr) : AK X Wc (⟨nm, a, kpos⟩ :: kws) (tCons ta tr) (wCons Wa Wr) := ⟨pk_cons ha.pe hr.pk, aap_cons ha.ae hr.ae⟩
def swG : {α : Type} → List α → List α → List α := fun us ws => match us, ws with
  | [], [w1, w2] => [w2, w1]
  | _, _ => []
theorem kb_sw {K : PySem.W.Frag} {y1 y2 qual : Str} {st : Stmt} {nm : Str} (F : Fun K nm qual st f fd) (hps : ps.length = 2)
    (h : ∀ (kV doc pm : Value) (an : Option Addr) (cdv ct : Value) (w1 w2 : Value), bindArgs (PySem.W.fnOf nm qual (defArgs st) (defBody st) (defScope st) .none kV doc pm an cdv ct) ⟨[], [(y1, w1), (y2, w2)]⟩ = pure (ps.zip [w2, w1])) : KBinds K fd ps [y1, y2] swG swG := by
  obtain ⟨oc, od, kV, doc, pm, an, cdv, ct, osl, rfl, lk, hcd⟩ := F.ex
  refine ⟨fun s us ws _ hl => ?_, fun {vs us zs ws} r1 r2 => ?_⟩
  · rw [hps] at hl
    match us, ws, hl with
    | [], [w1, w2], _ => exact .of_eq (h kV doc pm an cdv ct w1 w2)
  · cases r1 with
    | cons _ _ => exact .nil
    | nil =>
      cases r2 with
      | nil => exact .nil
      | cons q1 r2 =>
        cases r2 with
        | nil => exact .nil
        | cons q2 r2 =>
          cases r2 with
          | nil => exact .cons q2 (.cons q1 .nil)
          | cons _ _ => exact .nil
theorem swG_rp {K : PySem.W.Frag} {B : Hp} {zs : List V} {ds : List Da} (r : RpAll K B zs ds) : RpAll K B (swG [] zs) (swG [] ds) := by
  cases r with
  | nil => exact .nil
  | cons q1 r2 =>
    cases r2 with
    | nil => exact .nil
    | cons q2 r2 =>
      cases r2 with
      | nil => exact .cons q2 (.cons q1 .nil)
      | cons _ _ => exact .nil
/-- f(y1 = v1, y2 = v2), the parameters the other way round -/
def wCallSw (S : ASpec) (Wx : WA) : WE := fun ex ρ μ P => Wx ex ρ μ fun ds μ1 => S (swG [] ds) μ1 P fun _ _ _ => False
theorem ae_callSw {ks : List Str} {kws : List Keyword} (F : FnOk X.prog X.w X.K X.mg X.base CX k f fd ps (spOf X.K S)) (hr : Room k X.A) (hg : Gl X x) (hm : X.mg x = some (.ref f))
    (hk : PySem.W.keepIn X.K (.ref f) = true) (hb : KBinds X.K fd ps ks swG swG) (hx : Passes CX X E0) (hkw : AK X Wc kws tx Wx) (hall : (backToKw pos (keywordEach kws X.env)).all (·.1.isSome) = true := by rfl) (hks : (backToKw pos (keywordEach kws X.env)).filterMap (·.1) = ks := by rfl)
    (hdb : (x == ("__debug__" : Str)) = false := by decide) (hpl : ((backTo pos (starEach [] X.env)).any (·.1) || (backToKw pos (keywordEach kws X.env)).any (·.1.isNone)) = false := by rfl) :
    AE X Wc (.Call (.Name x p) [] kws pos) (tCallK (spOf X.K S) swG E0 tNil tx) (wCallSw S Wx) := ⟨pe_callK0 F hr hg hm hk hb hx hkw.pk hall hks hdb hpl, fun ex ρ μ P w B H σ Q M Sg L q =>
  hkw.ae ex ρ μ _ w B H σ _ M Sg L fun vs ds B1 H1 μ1 e1 M1 r1 w1 =>
    ⟨B1, swG [] ds, μ1, P, _, M1, swG_rp r1, w1, fun v d B' H' μ' e' M' r' w' => q v d B' H' μ' (e1.trans e') M' r' w', fun _ _ _ _ _ _ _ _ _ _ _ z => z.elim⟩⟩

/-! ### own errors: class X(ValueError): def __init__(self, value): ValueError.__init__(self, value); self.value = value -/
def spInit (K : PySem.W.Frag) : Sp := fun vs H Q _ => ∃ (a C : Addr) (v : V), vs = [.ref a, v] ∧ OexC K C ∧ PySem.W.findIn K (.ref C) "value" = some none ∧ H a = some (exo a C none) ∧
  ∀ d, H d = none → d ≠ a → Q .non (upd (upd H d (exd d [("value", v)])) a (exo a C (some d)))
theorem init_ok {P : Program} {w : World} {K : PySem.W.Frag} {mg : Str → Option Value} {base : Heap} {qual : Str} {st : Stmt} {f : Addr} {fd : FuncData} (F : Fun K "__init__" qual st f fd) (Sc : FnScope ["self", "value"] ["self", "value"] (defScope st))
    (hb : ∀ (cdv : Value) (A : Around) (outer : List PySem.Env) (s : Shared) (H : Hp) (E : XK), PSs (cxOf CX0 P w K mg base ["self", "value"] qual (defScope st) f cdv A outer s H E).nox (defBody st)
      (tSeq (tDrop (tVeI K (tCons (tVar 0) (tCons (tVar 1) tNil)))) (tOst K "value" (tVar 0) (tVar 1)))) :
    FnOk P w K mg base CX0 (k + 1) f fd ["self", "value"] (spInit K) := by
  refine F.ok Sc (fun vs H Q E h => ?_) fun cdv A outer s H vs Q E hr h => ?_
  · obtain ⟨a, C, v, rfl, _⟩ := h
    rfl
  · obtain ⟨a, C, v, rfl, T, hv, ha, q⟩ := h
    refine ⟨_, hb cdv A outer s H E, ?_⟩
    refine ⟨_, rfl, _, rfl, a, C, [v], rfl, (by show 1 ≤ 1000; decide), T, ha, ?_⟩
    exact ⟨_, rfl, _, rfl, a, C, rfl, T, hv, .inl ⟨ha, fun d hd hne => q d hd hne⟩⟩
/-- what is known of an own error's class at C (its __init__ at fI) -/
structure ErrC (K : PySem.W.Frag) (mg : Str → Option Value) (x : Str) (C fI : Addr) : Prop where
  gC : mg x = some (.ref C)
  ox : OexC K C
  iC : PySem.W.findIn K (.ref C) "__init__" = some (some (.ref fI))
  tI : PySem.W.typeIn K (.ref fI) = some (.type "function")
  nv : PySem.W.findIn K (.ref C) "value" = some none
  xf : XfC K C
  te : PySem.W.exmOne K (.ref C) (.ref C) = some true
/-- raise X(e) -/
def wRaise (C : Addr) (Wa : WE) : WS := fun ex A ρ μ => Wa ex ρ μ fun d μ1 => ex C d ρ μ1
theorem as_raise {C fI : Addr} {fdI : FuncData} {j : Nat} (hc : X.calm = true) (tk : Takes X Wc) (T : ErrC X.K X.mg x C fI) (FI : FnOk X.prog X.w X.K X.mg X.base CX0 j fI fdI ["self", "value"] (spInit X.K)) (bI : Binds X.K fdI ["self", "value"] []) (hr : Room (j + 1) X.A)
    (hg : Gl X x) (ha : AE X Wc a ta Wa) (hdb : (x == ("__debug__" : Str)) = false := by decide) (he : starEach [a] X.env = (false, eval a X.env) :: starEach [] X.env := by rfl) (hpl : (backTo pos (starEach [] X.env)).any (·.1) = false := by rfl) :
    AS X Wc (.Raise (some (.Call (.Name x p) [a] [] pos)) none pos2) (fun _ σ H => tMkO C (spInit X.K) [] (tCons ta tNil) σ H fun cls d H' => Wc cls d σ H') (wRaise C Wa) :=
  ⟨ps_raise hc tk (pmk_oex T.ox T.iC T.tI FI hr bI .nil pass0 hg T.gC (pa_cons ha.pe pa_nil he) hdb he hpl), fun ex A ρ μ w B H σ D M S L E =>
    ha.ae ex ρ μ _ w B H σ _ M S L fun v d B1 H1 μ1 e1 M1 r1 w1 => by
      show ([v] : List V).length ≤ 1000 ∧ _
      refine ⟨by show 1 ≤ 1000; decide, fun q hq => ⟨q, C, v, rfl, T.ox, T.nv, upd_same, fun dx hd hne => ?_⟩⟩
      have hd1 : H1 dx = none := by
        rw [upd_ne hne] at hd
        exact hd
      refine ⟨rfl, dx, [("value", v)], upd_same, ?_, hd1, ?_⟩
      · rw [upd_ne hne]
        exact upd_same
      · have eH : upd (del (upd (upd (upd H1 q (exo q C none)) dx (exd dx [("value", v)])) q (exo q C (some dx))) q) dx (.xd [("value", v)]) = upd H1 dx (.xd [("value", v)]) := by
          funext b
          by_cases hb : b = dx
          · subst hb
            rw [upd_same, upd_same]
          · rw [upd_ne hb, upd_ne hb]
            by_cases hbq : b = q
            · subst hbq
              rw [del_same, hq]
            · rw [del_ne hbq, upd_ne hbq, upd_ne hb, upd_ne hbq]
        rw [eH]
        exact L C dx d v B1 _ μ1 σ ρ e1 (M1.junk hd1) (S.mono e1) r1 upd_same w1⟩

/-! ### try: .. except X as n: .. -/
theorem Mem.keep {K : PySem.W.Frag} {B H : Hp} {μ : Mu} (M : Mem K B H μ) {q : Addr} {fs : List (Str × V)} (h : H q = some (.xd fs)) : Ex B (upd B q (.xd fs)) ∧ Mem K (upd B q (.xd fs)) H μ := by
  have e : Ex B (upd B q (.xd fs)) := fun b o hb => by
    by_cases hbq : b = q
    · subst hbq
      rw [upd_same, ← M.ex _ _ hb]
      exact h.symm
    · rw [upd_ne hbq]
      exact hb
  refine ⟨e, fun b o hb => ?_, fun b o hb => ?_⟩
  · by_cases hbq : b = q
    · subst hbq
      rw [upd_same] at hb
      rw [← hb]
      exact h
    · rw [upd_ne hbq] at hb
      exact M.ex _ _ hb
  · obtain ⟨h1, h2⟩ := M.mu b o hb
    have ne : b ≠ q := fun z => by
      subst z
      cases o with
      | lst l =>
        obtain ⟨xs, hx, _⟩ := h2
        rw [h] at hx
        cases hx
      | any S =>
        obtain ⟨xs, l, hx, _⟩ := h2
        rw [h] at hx
        cases hx
    exact ⟨by rw [upd_ne ne]; exact h1, h2.mono e rfl⟩
/-- n.value in the suite: the error's value -/
def wXval (i : Nat) (a C : Addr) (cls : Value) (dx : Option Addr) : WE := fun _ ρ μ P => match Env.get ρ i with
  | some (.exc a' C' dd d) => (a' = a ∧ C' = C ∧ cls = .ref C' ∧ dx = some dd) ∧ P d μ
  | _ => False
theorem ae_xval {i : Nat} {a C : Addr} {oe : Obj} {cls : Value} {dx : Option Addr} {pn : List (Addr × Obj)} {n : Str} (T : XfC X.K C) (hno : PySem.W.findIn X.K (.ref C) "value" = some none) (hz : Zc cls dx oe) (hf : ∃ vs, oe.data = .fields vs)
    (hN : X.N[i]? = some n := by rfl) (hv : Vis X.env.scope n := by first | exact Or.inl rfl | exact Or.inr (Or.inl rfl) | exact Or.inr (Or.inr rfl)) (hd : (n == ("__debug__" : Str)) = false := by decide)
    (hcd : (n == ("__classdict__" : Str)) = false := by decide) (hb : attributeBase (.Name n p) "value" X.env (eval (.Name n p) X.env) = eval (.Name n p) X.env := by rfl) :
    AE (X.suite a ((a, oe) :: pn)) W0 (.Attribute (.Name n p) "value" pos) (tXf a cls dx C "value" (tVar i)) (wXval i a C cls dx) := ⟨pe_xf T hno hz hf (pe_var hN hv hd hcd) hb, fun ex ρ μ P w B H σ Q M S L q => by
  unfold wXval at w
  cases e : Env.get ρ i with
  | none => rw [e] at w; exact w.elim
  | some d =>
    rw [e] at w
    cases d <;> first | exact w.elim | skip
    obtain ⟨⟨rfl, rfl, h1, rfl⟩, w⟩ := w
    obtain ⟨v, hv1, hv2⟩ := S.get e
    cases hv2 with
    | exc hx r =>
      refine ⟨_, hv1, rfl, h1, _, _, _, rfl, M.ex _ _ hx, rfl, ?_⟩
      exact q _ _ B H μ (Ex.refl B) M r w⟩
theorem xe_tr {W : WX} {pn : List (Addr × Obj)} {xe xe' : Value → Shared → Prop} {u : Value} {s' : Shared} (h : XE (X.tr pn xe) W u s') : XE (X.tr pn xe') W u s' := by
  obtain ⟨a, B, sI, pins, σ, H, cls, d, e, I, nb, up, sky, na, os, ag, w⟩ := h
  exact ⟨a, B, sI, pins, σ, H, cls, d, e, I.wish xe', nb, up, sky, na, os, ag, w⟩
variable {body suite : List Stmt} {b₀ : Stmt} {np pos' : Pos}
/-- try: body; except x as n (slot i): suite -/
def wTryAs (K : PySem.W.Frag) (c : Value) (i : Nat) (Wb : WS) (Ws : Addr → Value → Option Addr → WS) : WS := fun ex A ρ μ => Wb (fun C d ρ1 μ1 => ∃ b, PySem.W.exmOne K (.ref C) c = some b ∧
    (b = true → ∀ a dd, Ws a (.ref C) (some dd) noX ⟨fun ρ2 μ2 => A.nx (ρ2.set i none) μ2, A.rt, fun ρ2 μ2 => A.bk (ρ2.set i none) μ2, fun ρ2 μ2 => A.ct (ρ2.set i none) μ2⟩ (ρ1.set i (some (.exc a C dd d))) μ1) ∧ (b = false → ex C d ρ1 μ1)) A ρ μ
theorem as_tryAs {i : Nat} {n : Str} {cv : Value} {tb : WX → TS} {ts : Addr → Value → Option Addr → TS} {Wb : WS} {Ws : Addr → Value → Option Addr → WS} (hs : X.stack = X.env :: X.outer) (hf : X.env.frame = some X.env.locals) (hN : X.N.Nodup) (hi : X.N[i]? = some n) (hln : X.env.kindOf n = some .local)
    (hc : Names X x cv) (tk : Takes X Wc)
    (hb : ∀ (W : WX) (pn : List (Addr × Obj)) (xe : Value → Shared → Prop), Takes (X.tr pn xe) W → ASs (X.tr pn xe) W body (tb W) Wb)
    (hS : ∀ (a : Addr) (oe : Obj) (cls : Value) (d : Option Addr) (pn : List (Addr × Obj)), Zc cls d oe → (∃ vs, oe.data = .fields vs) → ASs (X.suite a ((a, oe) :: pn)) W0 (b₀ :: suite) (ts a cls d) (Ws a cls d)) :
    AS X Wc (.Try body [.ExceptHandler (some (.Name x np)) (some n) (b₀ :: suite) pos'] [] [] pos) (fun D σ H => tb (wAs X.K cv i ts Wc D) D σ H) (wTryAs X.K cv i Wb Ws) :=
  ⟨ps_try_as hs hf hN hi hln hc tk (fun W pn xe h1 _ => (hb W pn xe h1).ps) (fun a oe cls d pn h1 h2 => (hS a oe cls d pn h1 h2).ps), fun ex A ρ μ w B H σ D M S L E => by
    have hb1 : ∀ W, ASp X.K W (tb W) Wb := fun W => (hb W [] (XE (X.tr [] fun _ _ => True) W) (fun u s' h => xe_tr h)).ae
    have hsa : ∀ (a : Addr) (cls : Value) (d : Option Addr), ASp X.K W0 (ts a cls d) (Ws a cls d) := fun a cls d => (hS a { cls := cls, dict := d, data := .fields #[] } cls d [] ⟨rfl, rfl⟩ ⟨_, rfl⟩).ae
    refine hb1 _ _ A ρ μ w B H σ D M S (fun C dd d v B' H' μ' σ' ρ' e' M' S' r' hx w' => ?_) E
    obtain ⟨b, h1, h2, h3⟩ := w'
    refine ⟨b, h1, fun hb a ha => ?_, fun hb => L C dd d v B' H' μ' σ' ρ' e' M' S' r' hx (h3 hb)⟩
    obtain ⟨e2, M2⟩ := M'.keep hx
    have S2 : Envs X.K (upd B' dd (.xd [("value", v)])) (σ'.set i (some (.ref a))) (ρ'.set i (some (.exc a C dd d))) := Envs.set (.exc upd_same (r'.mono e2)) i (S'.mono e2)
    refine hsa a (.ref C) (some dd) noX _ _ _ (h2 hb a dd) _ H' _ _ M2 S2 wl0 ?_
    have e3 := e'.trans e2
    exact ⟨fun B4 H4 μ4 σ4 ρ4 e4 M4 S4 w4 => E.nx B4 H4 μ4 _ _ (e3.trans e4) M4 (Envs.unset i S4) w4, fun B4 H4 μ4 v d e4 M4 r4 w4 => E.rt B4 H4 μ4 v d (e3.trans e4) M4 r4 w4,
      fun B4 H4 μ4 σ4 ρ4 e4 M4 S4 w4 => E.bk B4 H4 μ4 _ _ (e3.trans e4) M4 (Envs.unset i S4) w4, fun B4 H4 μ4 σ4 ρ4 e4 M4 S4 w4 => E.ct B4 H4 μ4 _ _ (e3.trans e4) M4 (Envs.unset i S4) w4⟩⟩
end
end AL
set_option Elab.async false
set_option linter.all false
set_option maxRecDepth 100000
set_option maxHeartbeats 4000000
/-! AL5: tests in short, pairs stored, items changed by an operator, lists as a statement's comprehension. -/
namespace AL
open PySem PySem.Spec PyProof.Rows L2
section
variable {X : Cx} {Wc : WX} {a b c e : Expr} {es : List Expr} {ta tb tc te : TE} {Wa Wb We Wcc : WE} {pos p p' p2 pos2 : Pos} {tx tr : TA} {Wx Wr : WA} {t1 t2 : TT} {T1 T2 : WT} {K : PySem.W.Frag}
theorem at_eq (hu : X.A.units + 64 < cLine) (ha : AE X Wc a ta Wa) (hb : AE X Wc b tb Wb) : AT X Wc (.Compare a [.Eq] [b] pos) (tTest (tOp (rEqD X.K) ta tb)) (wTest (wOp (aEq false) Wa Wb)) := at_cmp (op_eqD hu) rok_eq (nomark _) ha hb
theorem at_ne (hu : X.A.units + 64 < cLine) (ha : AE X Wc a ta Wa) (hb : AE X Wc b tb Wb) : AT X Wc (.Compare a [.NotEq] [b] pos) (tTest (tOp (rNeD X.K) ta tb)) (wTest (wOp (aEq true) Wa Wb)) := at_cmp (op_neD hu) rok_ne (nomark _) ha hb
theorem at_lt (ha : AE X Wc a ta Wa) (hb : AE X Wc b tb Wb) : AT X Wc (.Compare a [.Lt] [b] pos) (tTest (tOp (rI0 fun i j => .bl (decide (i < j))) ta tb)) (wTest (wOp (aI0 fun i j => .bl (decide (i < j))) Wa Wb)) := at_cmp op_lt (rok_I0 fun _ _ _ => .bl _) (nomark _) ha hb
theorem at_le (ha : AE X Wc a ta Wa) (hb : AE X Wc b tb Wb) : AT X Wc (.Compare a [.LtE] [b] pos) (tTest (tOp (rI0 fun i j => .bl (decide (i ≤ j))) ta tb)) (wTest (wOp (aI0 fun i j => .bl (decide (i ≤ j))) Wa Wb)) := at_cmp op_le (rok_I0 fun _ _ _ => .bl _) (nomark _) ha hb
theorem at_gt (ha : AE X Wc a ta Wa) (hb : AE X Wc b tb Wb) : AT X Wc (.Compare a [.Gt] [b] pos) (tTest (tOp (rI0 fun i j => .bl (decide (j < i))) ta tb)) (wTest (wOp (aI0 fun i j => .bl (decide (j < i))) Wa Wb)) := at_cmp op_gt (rok_I0 fun _ _ _ => .bl _) (nomark _) ha hb
theorem at_ge (ha : AE X Wc a ta Wa) (hb : AE X Wc b tb Wb) : AT X Wc (.Compare a [.GtE] [b] pos) (tTest (tOp (rI0 fun i j => .bl (decide (j ≤ i))) ta tb)) (wTest (wOp (aI0 fun i j => .bl (decide (j ≤ i))) Wa Wb)) := at_cmp op_ge (rok_I0 fun _ _ _ => .bl _) (nomark _) ha hb
theorem at_isN {j} {pos'} (ha : AE X Wc a ta Wa) : AT X Wc (.Compare a [.Is] [.Constant .none j pos'] pos) (tB (tIsN ta)) (wTest (wIsN false Wa)) := ⟨pt_cmp (pc_isN ha.pe), at_B (ae_isN (pos := pos) (j := j) (pos' := pos') ha).ae⟩
theorem at_notN {j} {pos'} (ha : AE X Wc a ta Wa) : AT X Wc (.Compare a [.IsNot] [.Constant .none j pos'] pos) (tB (tNotN ta)) (wTest (wIsN true Wa)) := ⟨pt_cmp (pc_notN ha.pe), at_B (ae_notN (pos := pos) (j := j) (pos' := pos') ha).ae⟩
/-- x, y = a, b -/
theorem as_par {i j : Nat} {x y : Str} {px py pt : Pos} {kt k2 pt2} (hc : X.calm = true) (hN : X.N.Nodup) (hi : X.N[i]? = some x) (hj : X.N[j]? = some y) (hij : i ≠ j)
    (hx : X.env.scope.names.lookup x = some .local) (hy : X.env.scope.names.lookup y = some .local) (ha : AA X Wc [a, b] tx Wx)
    (hw : swappedStores [.Tuple [.Name x px, .Name y py] kt pt] (.Tuple [a, b] k2 pt2) X.env = pure (some [x, y]) := by rfl)
    (hs : swapsWithSole [.Tuple [.Name x px, .Name y py] kt pt] (.Tuple [a, b] k2 pt2) pos.line X.env = pure false := by rfl) :
    AS X Wc (.Assign [.Tuple [.Name x px, .Name y py] kt pt] (.Tuple [a, b] k2 pt2) pos) (tPar i j tx) (wPar i j Wx) := ⟨ps_par hc hN hi hj hij hx hy ha.pa hw hs, aep_par ha.ae⟩
/-- x += e : ints, texts -/
def rIadd : R2 := fun x y H Q => rI0 (fun i j => .int (i + j)) x y H Q ∨ ∃ i j, x = .str i ∧ y = .str j ∧ i.length + j.length ≤ sizeLine ∧ Q (.str (i ++ j)) H
def aIadd : R2A := fun x y μ P => match x, y with
  | .int i, .int j => P (.int (i + j)) μ
  | .str i, .str j => i.length + j.length ≤ sizeLine ∧ P (.str (i ++ j)) μ
  | _, _ => False
theorem pip_of {op : Operator} {r : R2} (h : OpR X (inplaceOp op) r) : PIp X op r := fun pins s σ H x y v u Q I rx ry q => h pins s σ H x y v u Q I rx ry q
theorem rok_iadd : ROk K rIadd aIadd := fun x y μ P w B H u v Q M rx ry q => by
  cases rx with
  | int i =>
    cases ry <;> first | exact w.elim | skip
    exact .inl ⟨_, _, rfl, rfl, q _ _ B H μ (Ex.refl B) M (.int _) w⟩
  | str i =>
    cases ry <;> first | exact w.elim | skip
    exact .inr ⟨_, _, rfl, rfl, w.1, q _ _ B H μ (Ex.refl B) M (.str _) w.2⟩
  | tup _ _ => exact w.elim
  | lst _ _ => exact w.elim
  | non => exact w.elim
  | bl _ => exact w.elim
  | ptr _ => exact w.elim
  | exc _ _ => exact w.elim
  | scr _ => exact w.elim
theorem op_iaddX : OpR X (inplaceOp .Add) rIadd := iop_add.or iop_add_str
theorem as_iadd {i : Nat} {x : Str} (hN : X.N.Nodup) (hi : X.N[i]? = some x) (hx : Loc X.env.scope x) (ha : AE X Wc a ta Wa) (hf : X.fn x = true ∨ X.env.scope.names.lookup x = some .local := by first | exact .inl rfl | exact .inr rfl | assumption) :
    AS X Wc (.AugAssign (.Name x p') .Add a pos) (tAug i ta rIadd) (wAug i Wa aIadd) := ⟨ps_aug hN hi hx ha.pe (pip_of op_iaddX) hf, aep_aug rok_iadd ha.ae⟩
/-- xs[i] += e, xs a list that may change -/
def rGetL : V → V → Hp → VK → Prop := fun x y H Q => ∃ (q : Addr) (xs : List V) (j : Nat) (v : V), x = .ref q ∧ y = .int (j : Int) ∧ H q = some (.lst xs) ∧ xs[j]? = some v ∧ Q v H
theorem pget_list : PGet X rGetL := by
  intro pins s σ H o i ov iv Q I ro ri h
  obtain ⟨q, xs, j, z, rfl, rfl, hq, he, k⟩ := h
  cases ro
  obtain ⟨t, rfl⟩ := ri
  obtain ⟨its, r, pl, hz⟩ := I.list (.inl (.inl hq))
  obtain ⟨w, ew, rw'⟩ := r.get he
  have hl := r.length
  have hn := line63
  have hj := (List.getElem?_eq_some_iff.mp he).1
  exact wpAny_getItem_list pl.isList (by omega) (by omega) (by simpa using ew) ⟨z, H, I, rw', k⟩
def wAugIx (Wa Wb We : WE) : WS := fun ex A ρ μ => Wa ex ρ μ fun x μ1 => Wb ex ρ μ1 fun y μ2 => match x, y with
  | .ptr q, .int k => match μ2 q with
    | some (.lst l) => 0 ≤ k ∧ match l[k.toNat]? with
      | some (.int i) => We ex ρ μ2 fun z μ3 => match z with
        | .int j => μ3 q = some (.lst l) ∧ A.nx ρ (updM μ3 q (.lst (l.set k.toNat (.int (i + j)))))
        | _ => False
      | _ => False
    | _ => False
  | _, _ => False
theorem ixN_nat' {n j : Nat} (hj : j < n) : ixN n (j : Int) = some j := by
  unfold ixN
  rw [if_pos (by omega), if_pos (by omega)]
  simp
theorem as_iaddIx {tpos : Pos} (ha : AE X Wc a ta Wa) (hb : AE X Wc b tb Wb) (he : AE X Wc e te We) (hh : ∀ ov iv new, augStore b ov iv new = (do holding [new, ov, iv] (setItem ov iv new); release [new, ov, iv] []; pure .next) := by intros; rfl) :
    AS X Wc (.AugAssign (.Subscript a b tpos) .Add e pos) (tAugS ta tb te rGetL (ipI fun i j => i + j) rSetL) (wAugIx Wa Wb We) := ⟨ps_augS ha.pe hb.pe pget_list he.pe ip_add set_list hh, fun ex A ρ μ w B H σ D M S L E =>
  ha.ae ex ρ μ _ w B H σ _ M S L fun v1 d1 B1 H1 μ1 e1 M1 r1 w1 => hb.ae ex ρ μ1 _ w1 B1 H1 σ _ M1 (S.mono e1) (L.mono e1) fun v2 d2 B2 H2 μ2 e2 M2 r2 w2 => by
    have r1' := r1.mono e2
    cases r1' <;> first | exact w2.elim | skip
    cases r2 <;> first | exact w2.elim | skip
    rename_i q k
    have w3 : (match μ2 q with
      | some (.lst l) => 0 ≤ k ∧ match l[k.toNat]? with
        | some (.int i) => We ex ρ μ2 fun z μ3 => match z with
          | .int j => μ3 q = some (.lst l) ∧ A.nx ρ (updM μ3 q (.lst (l.set k.toNat (.int (i + j)))))
          | _ => False
        | _ => False
      | _ => False) := w2
    cases eq : μ2 q with
    | none => rw [eq] at w3; exact w3.elim
    | some o =>
      rw [eq] at w3
      cases o with
      | any S => exact w3.elim
      | lst l =>
        obtain ⟨hk, w4⟩ := (show 0 ≤ k ∧ (match l[k.toNat]? with
          | some (.int i) => We ex ρ μ2 fun z μ3 => match z with
            | .int j => μ3 q = some (.lst l) ∧ A.nx ρ (updM μ3 q (.lst (l.set k.toNat (.int (i + j)))))
            | _ => False
          | _ => False) from w3)
        cases el : l[k.toNat]? with
        | none => rw [el] at w4; exact w4.elim
        | some d =>
          rw [el] at w4
          cases d <;> first | exact w4.elim | skip
          rename_i i
          obtain ⟨_, xs, hx, rx⟩ := M2.mu _ _ eq
          obtain ⟨v, hv, rv⟩ := rx.at el
          cases rv
          have ek : k = ((k.toNat : Nat) : Int) := by omega
          refine ⟨q, xs, k.toNat, _, rfl, by rw [← ek], hx, hv, ?_⟩
          refine he.ae ex ρ μ2 _ w4 B2 H2 σ _ M2 (S.mono (e1.trans e2)) (L.mono (e1.trans e2)) fun v3 d3 B3 H3 μ3 e3 M3 r3 w5 => ?_
          cases r3 <;> first | exact w5.elim | skip
          rename_i j
          obtain ⟨w6, w7⟩ := w5
          obtain ⟨_, xs3, hx3, rx3⟩ := M3.mu _ _ w6
          have hj : k.toNat < xs3.length := by
            rw [rx3.length]
            exact (List.getElem?_eq_some_iff.mp el).1
          refine ⟨i, j, rfl, rfl, q, xs3, k, k.toNat, rfl, rfl, hx3, (by rw [← ixN_nat' hj, ← ek]), ?_⟩
          exact E.nx B3 _ _ σ ρ ((e1.trans e2).trans e3) (M3.set w6 (RpAll.set (.int (i + j)) k.toNat rx3)) (S.mono ((e1.trans e2).trans e3)) w7⟩
/-- y = [..] -/
theorem as_setLc {te : Shared → Hp → Addr → List (Str × Addr) → List Addr → TE} {elt iter : Expr} {x y : Str} {px py spos : Pos} {scope : Scope} {i j : Nat} {wi : TI} {Wi : WI} (hc : X.calm = true) (hN : X.N.Nodup) (hy : X.N[i]? = some y) (hyl : X.env.scope.names.lookup y = some .local)
    (hsw : swapsWith (.ListComp elt [⟨.Name x px, iter, [], 0⟩] scope pos) (some (.Name y py)) spos.line X.env = pure true) (hi : AI X Wc (.Name x px) iter wi Wi) (ok : BlkOk X.N X.env.scope scope [(x, j)])
    (hg : ∀ (s : Shared) (H : Hp) (C : Addr) (cl : List (Str × Addr)) (fp : List Addr), PG (X.blk s H scope (compEnvC scope cl C X.env) fp) (.Name x px) (gName j))
    (he : ∀ (s : Shared) (H : Hp) (C : Addr) (cl : List (Str × Addr)) (fp : List Addr), AE (X.blk s H scope (compEnvC scope cl C X.env) fp) W0 elt (te s H C cl fp) We) (hte : ∀ s H C cl fp, te s H C cl fp = te X.s_0 X.H_0 0 [] [] := by intros; rfl) (hs : ∀ x, foldedSetIterable iter X.env x = pure x := by intro _; rfl) :
    AS X Wc (.Assign [.Name y py] (.ListComp elt [⟨.Name x px, iter, [], 0⟩] scope pos) spos) (tAsg (tLc wi (gName j) tYes (te X.s_0 X.H_0 0 [] []) [j]) (gName i)) (wAsg (wLc Wi j wYes We [j]) (gNm i)) :=
  ⟨ps_setLc (own := [(x, j)]) hc hN hy hyl hsw hi.pi ok hg (fun _ _ _ _ _ => pts_nil) (fun s H C cl fp => by rw [← hte s H C cl fp]; exact (he s H C cl fp).pe) hs, fun ex A ρ μ w B H σ D M S L E =>
    (aep_lc wipe1 hi.ae at_yes (he X.s_0 X.H_0 0 [] []).ae : AEp X.K Wc _ (wLc Wi j wYes We [j])) ex ρ μ _ w B H σ _ M S L fun v d B1 H1 μ1 e1 M1 r1 w1 => E.nx B1 H1 μ1 _ _ e1 M1 (Envs.set r1 i (S.mono e1)) w1⟩
end

/-! ### a def that stands behind the top, called by its name -/
structure Cl (P : Program) (w : World) (K : PySem.W.Frag) (mg : Str → Option Value) (base : Heap) (CX : CXT) (x : Str) (k : Nat) (ps : List Str) (S : ASpec) (f : Addr) (fd : FuncData) : Prop where
  g : mg x = some (.ref f)
  kp : PySem.W.keepIn K (.ref f) = true
  b : Binds K fd ps []
  G : FnOk P w K mg base CX k f fd ps (spOf K S)

/-! ### what changes, told more loosely -/
def Wk (μ1 μ2 : Mu) : Prop := ∀ (K : PySem.W.Frag) (B H : Hp), Mem K B H μ1 → Mem K B H μ2
theorem Wk.refl (μ : Mu) : Wk μ μ := fun _ _ _ h => h
theorem wk_shut {μ : Mu} {p : Addr} {S : List Da → Prop} {l : List Da} (hp : μ p = some (.lst l)) (s : S l) : Wk μ (updM μ p (.any S)) := fun _ _ _ M => M.shut hp s
theorem wk_sub {μ μ' : Mu} (h : ∀ a o, μ' a = some o → μ a = some o) : Wk μ μ' := fun _ _ _ M => M.sub h
section
variable {P : Program} {w : World} {K : PySem.W.Frag} {mg : Str → Option Value} {base : Heap} {CX : CXT} {k : Nat} {f : Addr} {fd : FuncData} {ps : List Str}
/-- a promise over what stands behind told more loosely -/
theorem fn_wk {S1 S2 : ASpec} (F : FnOk P w K mg base CX k f fd ps (spOf K S1)) (h : ∀ ds μ P EP, S2 ds μ P EP → S1 ds μ (fun d μ1 => ∃ μ2, Wk μ1 μ2 ∧ P d μ2) EP) : FnOk P w K mg base CX k f fd ps (spOf K S2) :=
  F.imp fun vs H Q E ⟨B, ds, μ, P', EP, M, r, hs, q, qe⟩ => ⟨B, ds, μ, _, EP, M, r, h _ _ _ _ hs, fun v d B' H' μ' e M' r' ⟨μ2, wk, w'⟩ => q v d B' H' μ2 e (wk _ _ _ M') r' w', qe⟩
/-- a list of which only S is told, opened -/
theorem fn_op {S1 S2 : ASpec} (F : FnOk P w K mg base CX k f fd ps (spOf K S1)) (h : ∀ ds μ P EP, S2 ds μ P EP → ∃ p S, μ p = some (.any S) ∧ ∀ l, S l → S1 ds (updM μ p (.lst l)) (fun d μ1 => ∃ μ2, Wk μ1 μ2 ∧ P d μ2) EP) : FnOk P w K mg base CX k f fd ps (spOf K S2) :=
  F.imp fun vs H Q E ⟨B, ds, μ, P', EP, M, r, hs, q, qe⟩ => by
    obtain ⟨p, S, hp, h1⟩ := h _ _ _ _ hs
    obtain ⟨l, hl, M1⟩ := M.open hp
    exact ⟨B, ds, _, _, EP, M1, r, h1 l hl, fun v d B' H' μ' e M' r' ⟨μ2, wk, w'⟩ => q v d B' H' μ2 e (wk _ _ _ M') r' w', qe⟩
end
theorem wk_back {μ : Mu} {p : Addr} {S : List Da → Prop} {l l' : List Da} (hp : μ p = some (.any S)) (s : S l') : Wk (updM (updM μ p (.lst l)) p (.lst l')) μ := by
  have e : updM (updM (updM μ p (.lst l)) p (.lst l')) p (.any S) = μ := by
    rw [updM_updM, updM_updM]
    funext b
    by_cases h : b = p
    · rw [h, updM_same, hp]
    · rw [updM_ne h]
  have q := wk_shut (μ := updM (updM μ p (.lst l)) p (.lst l')) (p := p) (S := S) updM_same s
  rw [e] at q
  exact q

/-! ### items at written places -/
theorem atI_lit {α : Type} (l : List α) (k : Nat) : atI l (k : Int) = l[k]? := by
  unfold atI ixN
  rw [if_pos (by omega)]
  by_cases h : k < l.length
  · rw [if_pos (by omega)]
    show l[((k : Nat) : Int).toNat]? = l[k]?
    rw [Int.toNat_natCast]
  · rw [if_neg (by omega), List.getElem?_eq_none (by omega)]
    rfl
theorem atI_0 {α : Type} (l : List α) : atI l 0 = l[0]? := atI_lit l 0
theorem atI_1 {α : Type} (l : List α) : atI l 1 = l[1]? := atI_lit l 1
theorem atI_2 {α : Type} (l : List α) : atI l 2 = l[2]? := atI_lit l 2
theorem atI_3 {α : Type} (l : List α) : atI l 3 = l[3]? := atI_lit l 3
theorem atI_4 {α : Type} (l : List α) : atI l 4 = l[4]? := atI_lit l 4
theorem ixN_lit (n k : Nat) : ixN n (k : Int) = if k < n then some k else none := by
  unfold ixN
  rw [if_pos (by omega)]
  by_cases h : k < n
  · rw [if_pos (by omega), if_pos h, Int.toNat_natCast]
  · rw [if_neg (by omega), if_neg h]
theorem ixN_0 (n : Nat) : ixN n 0 = if 0 < n then some 0 else none := ixN_lit n 0
theorem ixN_1 (n : Nat) : ixN n 1 = if 1 < n then some 1 else none := ixN_lit n 1
theorem ixN_2 (n : Nat) : ixN n 2 = if 2 < n then some 2 else none := ixN_lit n 2
theorem ixN_3 (n : Nat) : ixN n 3 = if 3 < n then some 3 else none := ixN_lit n 3
theorem ixN_4 (n : Nat) : ixN n 4 = if 4 < n then some 4 else none := ixN_lit n 4
theorem ok_int (i : Int) : (Da.int i).ok = true := by
  show (true && (PyData.canLay0 (.int i) && decide (PyData.depth (.int i) ≤ 64))) = true
  simp [PyData.canLay0, PyData.depth]
theorem eqv_int (i j : Int) : Da.eqv (.int i) (.int j) = decide (i = j) := by
  show PyData.eqv (.int i) (.int j) = _
  rw [PyData.eqv]
  rfl

/-! ### a list that changes, at written places -/
section
variable {ex : AX} {A : AEnds} {ρ : Env} {μ : Mu} {q : Addr} {l : List Da} {P : Da → Mu → Prop} {i : Nat}
theorem w_augp (k : Nat) {v j : Int} {l' : List Da} (hg : Env.get ρ i = some (.ptr q)) (hl : l[k]? = some (.int v)) (e : l.set k (.int (v + j)) = l') (h : A.nx ρ (updM μ q (.lst l'))) : wAugIx (wVar i) (wC (.int (k : Int))) (wC (.int j)) ex A ρ (updM μ q (.lst l)) := by
  unfold wAugIx wVar wC
  simp only [hg, updM_same, Int.toNat_natCast, hl]
  refine ⟨by omega, trivial, ?_⟩
  rw [updM_updM, e]
  exact h
theorem w_ixp (k : Nat) {d : Da} (hg : Env.get ρ i = some (.ptr q)) (hl : l[k]? = some d) (h : P d (updM μ q (.lst l))) : wOp aIx (wVar i) (wC (.int (k : Int))) ex ρ (updM μ q (.lst l)) P := by
  unfold wOp aIx wVar wC
  simp only [hg, updM_same, atI_lit, hl]
  exact h
theorem w_stp (k : Nat) {d : Da} {l' : List Da} {R : Env → Mu → Prop} (hg : Env.get ρ i = some (.ptr q)) (hk : k < l.length) (e : l.set k d = l') (h : R ρ (updM μ q (.lst l'))) : gIx (wVar i) (wC (.int (k : Int))) ex d ρ (updM μ q (.lst l)) R := by
  unfold gIx wVar wC
  simp only [hg, updM_same, ixN_lit, if_pos hk, updM_updM, e]
  exact h
end
/-- a call inside a try -/
theorem ae_callXT {X : Cx} {pn : List (Addr × Obj)} {xe : Value → Shared → Prop} {Wc : WX} {S : ASpec} {k : Nat} {f : Addr} {fd : FuncData} {ps : List Str} {x : Str} {a : Expr} {es : List Expr} {tx : TA} {Wx : WA} {p pos : Pos} (tk : Takes (X.tr pn xe) Wc) (F : FnOk X.prog X.w X.K X.mg X.base (L2.CX X.prog X.w) k f fd ps (spOf X.K S)) (hr : Room k X.A) (hg : Gl X x) (hm : X.mg x = some (.ref f)) (hk : PySem.W.keepIn X.K (.ref f) = true) (hb : Binds X.K fd ps [])
    (ha : AA (X.tr pn xe) Wc (a :: es) tx Wx) (hdb : (x == ("__debug__" : Str)) = false := by decide) (he : starEach (a :: es) X.env = (false, eval a X.env) :: starEach es X.env := by rfl) (hpl : (backTo pos (starEach es X.env)).any (·.1) = false := by rfl) :
    AE (X.tr pn xe) Wc (.Call (.Name x p) (a :: es) [] pos) (tCallS (spOf X.K S) (L2.WE Wc) tx) (wCallX S Wx) := ae_callX (X := X.tr pn xe) tk F hr hg hm hk hb ha hdb he hpl
end AL
set_option Elab.async false
set_option linter.all false
set_option maxRecDepth 100000
set_option maxHeartbeats 4000000
/-! AL6: the readings step by step. -/
namespace AL
open PySem PySem.Spec PyProof.Rows L2
section
variable {ex : AX} {E : AEnds} {ρ : Env} {μ : Mu} {P : Da → Mu → Prop} {PB : Bool → Mu → Prop} {PL : List Da → Mu → Prop} {PO : Option Int → Mu → Prop} {PR : Env → Mu → Prop} {A B : WS} {T U : WT} {Wa Wb Wcc : WE} {Wx Wr : WA} {R : R2A} {RC : RCA} {i j : Nat} {d x y : Da} {G : WG} {Gs : AX → List Da → Env → Mu → (Env → Mu → Prop) → Prop} {S : ASpec} {q : Addr} {l m : List Da} {Wl Wh : WO} {ds : List Da} {z1 z2 : Int} {CI : Int → Int → Prop} {gI : Int → Int → Da} {vs : List Nat} {T1 T2 : Prop}
theorem mu_keep {μ : Mu} {q D : Addr} {o o' : Mo} (h : μ q = some o) (hD : μ D = none) : updM μ D o' q = some o := by
  rw [updM_ne (fun z => by rw [z, hD] at h; cases h)]
  exact h
theorem t_next (h : E.nx ρ μ) : wNext ex E ρ μ := h
theorem t_break (h : E.bk ρ μ) : wBreak ex E ρ μ := h
theorem t_cont (h : E.ct ρ μ) : wCont ex E ρ μ := h
theorem t_seq (h : A ex { E with nx := fun ρ' μ' => B ex E ρ' μ' } ρ μ) : wSeq A B ex E ρ μ := h
theorem t_ifs (h : T ex ρ μ fun c μ1 => if c = true then A ex E ρ μ1 else B ex E ρ μ1) : wIfS T A B ex E ρ μ := h
theorem t_drop (h : Wa ex ρ μ fun _ μ1 => E.nx ρ μ1) : wDrop Wa ex E ρ μ := h
theorem t_ret (h : Wa ex ρ μ E.rt) : wRet Wa ex E ρ μ := h
theorem t_retN (h : E.rt .non μ) : wRetN ex E ρ μ := h
theorem t_asg (h : Wa ex ρ μ fun x μ1 => G ex x ρ μ1 E.nx) : wAsg Wa G ex E ρ μ := h
theorem t_nm (h : PR (ρ.set i (some d)) μ) : gNm i ex d ρ μ PR := h
theorem t_gtp (h : m.length = i ∧ Gs ex m ρ μ PR) : gTp i Gs ex (.tup m) ρ μ PR := h
theorem t_gcons (h : G ex d ρ μ fun ρ1 μ1 => Gs ex m ρ1 μ1 PR) : gsCons G Gs ex (d :: m) ρ μ PR := h
theorem t_gnil (h : PR ρ μ) : gsNil ex [] ρ μ PR := ⟨rfl, h⟩
theorem t_par (h : Wx ex ρ μ fun ds μ1 => match ds with | [d, e] => E.nx ((ρ.set i (some d)).set j (some e)) μ1 | _ => False) : wPar i j Wx ex E ρ μ := h
theorem t_test (h : Wa ex ρ μ fun x μ1 => match x with | .bl c => PB c μ1 | _ => False) : wTest Wa ex ρ μ PB := h
theorem t_and (h : T ex ρ μ fun c μ1 => if c = true then U ex ρ μ1 PB else PB false μ1) : wAnd T U ex ρ μ PB := h
theorem t_or (h : T ex ρ μ fun c μ1 => if c = true then PB true μ1 else U ex ρ μ1 PB) : wOr T U ex ρ μ PB := h
theorem t_not (h : T ex ρ μ fun c μ1 => PB (!c) μ1) : wNot T ex ρ μ PB := h
theorem t_yes (h : PB true μ) : wYes ex ρ μ PB := h
theorem t_andV (h : Wa ex ρ μ fun x μ1 => match x with | .bl c => if c = true then Wb ex ρ μ1 P else P (.bl false) μ1 | _ => False) : wAndV Wa Wb ex ρ μ P := h
theorem t_orV (h : Wa ex ρ μ fun x μ1 => match x with | .bl c => if c = true then P (.bl true) μ1 else Wb ex ρ μ1 P | _ => False) : wOrV Wa Wb ex ρ μ P := h
theorem t_notV (h : Wa ex ρ μ fun x μ1 => match x with | .bl c => P (.bl (!c)) μ1 | _ => False) : wNotV Wa ex ρ μ P := h
theorem t_if (h : T ex ρ μ fun c μ1 => if c = true then Wa ex ρ μ1 P else Wb ex ρ μ1 P) : wIf T Wa Wb ex ρ μ P := h
theorem t_isN (h : Wa ex ρ μ fun x μ1 => P (.bl x.isNon) μ1) : wIsN false Wa ex ρ μ P := h
theorem t_notN (h : Wa ex ρ μ fun x μ1 => P (.bl (!x.isNon)) μ1) : wIsN true Wa ex ρ μ P := h
theorem t_c (h : P d μ) : wC d ex ρ μ P := h
theorem t_op (h : Wa ex ρ μ fun x μ1 => Wb ex ρ μ1 fun y μ2 => R x y μ2 P) : wOp R Wa Wb ex ρ μ P := h
theorem t_neg (h : Wa ex ρ μ fun x μ1 => match x with | .int i => P (.int (-i)) μ1 | _ => False) : wNeg Wa ex ρ μ P := h
theorem t_nil (h : PL [] μ) : wNil ex ρ μ PL := h
theorem t_cons (h : Wa ex ρ μ fun x μ1 => Wx ex ρ μ1 fun xs μ2 => PL (x :: xs) μ2) : wCons Wa Wx ex ρ μ PL := h
theorem t_tup (h : Wx ex ρ μ fun xs μ1 => xs.length ≤ 1000 ∧ P (.tup xs) μ1) : wTup Wx ex ρ μ P := h
theorem t_lst (h : Wx ex ρ μ fun xs μ1 => xs.length ≤ 1000 ∧ P (.lst xs) μ1) : wLst Wx ex ρ μ P := h
theorem t_lstM (h : Wx ex ρ μ fun xs μ1 => xs.length ≤ 1000 ∧ ∀ p, μ1 p = none → P (.ptr p) (updM μ1 p (.lst xs))) : wLstM Wx ex ρ μ P := h
theorem t_cb (h : Wx ex ρ μ fun ds μ1 => RC ds μ1 P) : wCB RC Wx ex ρ μ P := h
theorem t_call (h : Wx ex ρ μ fun ds μ1 => S ds μ1 P fun _ _ _ => False) : wCall S Wx ex ρ μ P := h
theorem t_callX (h : Wx ex ρ μ fun ds μ1 => S ds μ1 P fun C d μ2 => ex C d ρ μ2) : wCallX S Wx ex ρ μ P := h
theorem t_callSw (h : Wx ex ρ μ fun ds μ1 => S (swG [] ds) μ1 P fun _ _ _ => False) : wCallSw S Wx ex ρ μ P := h
theorem t_nopart (h : PO none μ) : wNoPart ex ρ μ PO := h
theorem t_part (h : Wa ex ρ μ fun x μ1 => match x with | .int i => PO (some i) μ1 | _ => False) : wPart Wa ex ρ μ PO := h
theorem t_sl (h : Wa ex ρ μ fun x μ1 => Wl ex ρ μ1 fun l μ2 => Wh ex ρ μ2 fun h μ3 => aSl x l h μ3 P) : wSl Wa Wl Wh ex ρ μ P := h
theorem t_raise (h : Wa ex ρ μ fun d μ1 => ex q d ρ μ1) : wRaise q Wa ex E ρ μ := h
theorem t_len1 (h : P (.int (m.length : Nat)) μ) : cLen [.tup m] μ P := h
theorem t_len2 (h : P (.int (m.length : Nat)) μ) : cLen [.lst m] μ P := h
theorem t_tuple1 (h : P (.tup m) μ) : cTuple [.tup m] μ P := h
theorem t_eqI (h : P (.bl (decide (z1 = z2))) μ) : aEq false (.int z1) (.int z2) μ P := by
  refine ⟨⟨ok_int _, ok_int _⟩, ?_⟩
  show P (.bl (Da.eqv (.int z1) (.int z2))) μ
  rw [eqv_int]
  exact h
theorem t_addI (h : P (.int (z1 + z2)) μ) : aAdd (.int z1) (.int z2) μ P := h
theorem t_mulI (h : CMul z1 z2 ∧ P (.int (z1 * z2)) μ) : aMul (.int z1) (.int z2) μ P := h
theorem t_aI (h : CI z1 z2 ∧ P (gI z1 z2) μ) : aI CI gI (.int z1) (.int z2) μ P := h
theorem t_intI (h : P (.int z1) μ) : cInt [.int z1] μ P := h
theorem t_rng1 (h : Wx ex ρ μ fun ds μ1 => match ds with | [.int j] => (-100000 ≤ j ∧ j ≤ 100000) ∧ PL (upFrom 0 j.toNat) μ1 | _ => False) : wRng1 Wx ex ρ μ PL := h
theorem t_rng2 (h : Wx ex ρ μ fun ds μ1 => match ds with | [.int i, .int j] => (-100000 ≤ i ∧ i ≤ 100000 ∧ -100000 ≤ j ∧ j ≤ 100000) ∧ PL (upFrom i (j - i).toNat) μ1 | _ => False) : wRng2 Wx ex ρ μ PL := h
theorem t_itT (h : Wa ex ρ μ fun x μ1 => match x with | .tup l => PL l μ1 | _ => False) : wItT Wa ex ρ μ PL := h
theorem t_itL (h : Wa ex ρ μ fun x μ1 => match x with | .lst l => PL l μ1 | _ => False) : wItL Wa ex ρ μ PL := h
theorem t_for (h : Wx ex ρ μ fun ds μ1 => ∃ I : Nat → AL.Env → Mu → Prop, I 0 ρ μ1 ∧
  (∀ i d ρ' μ', ds[i]? = some d → I i ρ' μ' → G ex d ρ' μ' fun ρ2 μ2 => A ex { E with nx := I (i + 1), ct := I (i + 1), bk := E.nx } ρ2 μ2) ∧ ∀ ρ' μ', I ds.length ρ' μ' → E.nx ρ' μ' ) : wFor Wx G A ex E ρ μ := h
theorem t_lc (h : Wx ex ρ μ fun ds μ1 => ∃ J : Nat → List Da → Prop, J 0 [] ∧
  (∀ D i d acc, μ1 D = none → ds[i]? = some d → J i acc → T noX ((wipeA ρ vs).set j (some d)) (updM μ1 D (.lst acc)) fun c μ2 => if c = true then Wa noX ((wipeA ρ vs).set j (some d)) μ2 fun y μ3 => μ3 = updM μ1 D (.lst acc) ∧ acc.length < 100000 ∧ J (i + 1) (acc ++ [y])
    else μ2 = updM μ1 D (.lst acc) ∧ J (i + 1) acc) ∧ ∀ acc, J ds.length acc → P (.lst acc) μ1) : wLc Wx j T Wa vs ex ρ μ P := h
theorem t_ift (h : T1) : if true = true then T1 else T2 := h
theorem t_iff (h : T2) : if false = true then T1 else T2 := h
theorem t_tuple2 (h : P (.tup m) μ) : cTuple [.lst m] μ P := h
theorem t_var (hg : Env.get ρ i = some d) (h : P d μ) : wVar i ex ρ μ P := by
  unfold wVar
  rw [hg]
  exact h
theorem t_ixp {z : Int} (hg : Env.get ρ i = some (.ptr q)) (hz : 0 ≤ z) (hl : l[z.toNat]? = some d) (h : P d (updM μ q (.lst l))) : wOp aIx (wVar i) (wC (.int z)) ex ρ (updM μ q (.lst l)) P := by
  have e : z = ((z.toNat : Nat) : Int) := by omega
  rw [e]
  exact w_ixp z.toNat hg hl h
theorem t_stp {z : Int} {l' : List Da} (hg : Env.get ρ i = some (.ptr q)) (hz : 0 ≤ z) (hk : z.toNat < l.length) (e : l.set z.toNat d = l') (h : PR ρ (updM μ q (.lst l'))) : gIx (wVar i) (wC (.int z)) ex d ρ (updM μ q (.lst l)) PR := by
  have ez : z = ((z.toNat : Nat) : Int) := by omega
  rw [ez]
  exact w_stp z.toNat hg hk e h
theorem t_augp {z v k : Int} {l' : List Da} (hg : Env.get ρ i = some (.ptr q)) (hz : 0 ≤ z) (hl : l[z.toNat]? = some (.int v)) (e : l.set z.toNat (.int (v + k)) = l') (h : E.nx ρ (updM μ q (.lst l'))) : wAugIx (wVar i) (wC (.int z)) (wC (.int k)) ex E ρ (updM μ q (.lst l)) := by
  have ez : z = ((z.toNat : Nat) : Int) := by omega
  rw [ez]
  exact w_augp z.toNat hg hl e h
end
end AL
set_option Elab.async false
set_option linter.all false
set_option maxRecDepth 100000
set_option maxHeartbeats 4000000
namespace K76
open PySem PySem.Spec PyProof.Rows L2 AL

/-! ### words as data -/
def wd (w : List Int) : Da := .tup (w.map Da.int)
def rp (k : Nat) (l : List Int) : List Int := (List.replicate k l).flatten
theorem rp_map (k : Nat) (l : List Int) : (List.replicate k (l.map Da.int)).flatten = (rp k l).map Da.int := by
  unfold rp
  induction k with
  | zero => rfl
  | succ k ih => rw [List.replicate_succ, List.flatten_cons, List.replicate_succ, List.flatten_cons, List.map_append, ih]
theorem cutA_hi (l : List Da) (k : Nat) : cutA l none (some (k : Int)) = l.take k := by
  unfold cutA
  rw [HT.sIx_none, HT.sIx_nat, List.drop_zero, Nat.sub_zero]
  by_cases h : k ≤ l.length
  · rw [Nat.min_eq_left h]
  · rw [Nat.min_eq_right (by omega), List.take_length, List.take_of_length_le (by omega)]
theorem cutA_lo (l : List Da) (k : Nat) : cutA l (some (k : Int)) none = l.drop k := by
  unfold cutA
  rw [HT.sIx_none, HT.sIx_nat]
  by_cases h : k ≤ l.length
  · rw [Nat.min_eq_left h]
    exact List.take_of_length_le (by rw [List.length_drop]; exact Nat.le_refl _)
  · rw [Nat.min_eq_right (by omega), List.drop_length, List.drop_of_length_le (by omega)]
    simp
theorem pyAll_ints : ∀ w : List Int, pyAll (w.map Da.int) = w.map PyData.int
  | [] => rfl
  | x :: w => by
    show PyData.int x :: pyAll (w.map Da.int) = PyData.int x :: w.map PyData.int
    rw [pyAll_ints w]
theorem eqvAll_ints : ∀ a b : List Int, PyData.eqvAll (a.map PyData.int) (b.map PyData.int) = decide (a = b)
  | [], [] => rfl
  | [], _ :: _ => rfl
  | _ :: _, [] => rfl
  | x :: a, y :: b => by
    have ih := eqvAll_ints a b
    show (PyData.eqv (.int x) (.int y) && PyData.eqvAll (a.map PyData.int) (b.map PyData.int)) = decide (x :: a = y :: b)
    rw [ih]
    have e : PyData.eqv (.int x) (.int y) = (x == y) := by rw [PyData.eqv]
    rw [e]
    by_cases h : x = y
    · subst h
      by_cases h2 : a = b
      · subst h2; simp
      · simp [h2]
    · simp [h]
theorem eqv_wd (a b : List Int) : Da.eqv (wd a) (wd b) = decide (a = b) := by
  show PyData.eqv (.tuple (pyAll (a.map Da.int))) (.tuple (pyAll (b.map Da.int))) = decide (a = b)
  rw [pyAll_ints, pyAll_ints, ← eqvAll_ints]
  rw [PyData.eqv]
theorem nopAll_ints : ∀ w : List Int, nopAll (w.map Da.int) = true
  | [] => rfl
  | x :: w => by
    show ((Da.int x).nop && nopAll (w.map Da.int)) = true
    rw [nopAll_ints w]
    rfl
theorem canLay_ints : ∀ w : List Int, PyData.canLayAll0 (w.map PyData.int) = true
  | [] => by simp [PyData.canLayAll0]
  | x :: w => by
    rw [List.map_cons, PyData.canLayAll0, canLay_ints w]
    simp [PyData.canLay0]
theorem depth_ints : ∀ w : List Int, PyData.depthAll (w.map PyData.int) = 0
  | [] => by simp [PyData.depthAll]
  | x :: w => by
    rw [List.map_cons, PyData.depthAll, depth_ints w]
    simp [PyData.depth]
theorem ok_wd (w : List Int) : (wd w).ok = true := by
  show (nopAll (w.map Da.int) && SeqAt.shaped (.tuple (pyAll (w.map Da.int)))) = true
  rw [nopAll_ints, pyAll_ints, Bool.true_and]
  show (PyData.canLay0 (.tuple (w.map PyData.int)) && decide (PyData.depth (.tuple (w.map PyData.int)) ≤ 64)) = true
  rw [PyData.canLay0, canLay_ints, Bool.true_and, PyData.depth, depth_ints]
  decide

/-! ### the program's forms -/
def ltOk (a : List Int) (s : Nat) : Bool := decide (a.length % s = 0) && decide (a = rp (a.length / s) (a.take s))
/-- s is the least size of which a is a power -/
def LT (a : List Int) (s : Nat) : Prop := 0 < s ∧ s ≤ a.length ∧ ltOk a s = true ∧ ∀ t, 0 < t → t < s → ltOk a t = false
def strip : List Int → List Int → List Int × List Int
  | a, [] => (a, [])
  | a, x :: w => if a.head? = some x then strip (a.tail ++ [x]) w else (a, x :: w)
theorem rp_one (l : List Int) : rp 1 l = l := by
  show (List.replicate 1 l).flatten = l
  simp
theorem ltOk_self {a : List Int} (h : 0 < a.length) : ltOk a a.length = true := by
  unfold ltOk
  rw [Nat.mod_self, Nat.div_self h, List.take_length, rp_one]
  simp

/-! ### steps over words -/
theorem le_line10 {n : Nat} (h : n ≤ 100000) : n ≤ sizeLine := Nat.le_trans h (by show 100000 ≤ 2 ^ 24; decide)
theorem rp_len (k : Nat) (l : List Int) : (rp k l).length = k * l.length := by
  unfold rp
  induction k with
  | zero => simp
  | succ k ih => rw [List.replicate_succ, List.flatten_cons, List.length_append, ih, Nat.succ_mul, Nat.add_comm]
section
variable {μ : Mu} {P : Da → Mu → Prop} {a b : List Int} {z : Int}
theorem t_lenW (h : P (.int (a.length : Nat)) μ) : cLen [.tup (List.map Da.int a)] μ P := by
  show P (.int ((a.map Da.int).length : Nat)) μ
  rw [List.length_map]
  exact h
theorem t_mulW (h : (0 < a.length ∧ 2 ≤ z ∧ z ≤ 1000 ∧ a.length ≤ 1000) ∧ P (.tup (List.map Da.int (rp z.toNat a))) μ) : aMul (.tup (List.map Da.int a)) (.int z) μ P := by
  obtain ⟨⟨h1, h2, h3, h4⟩, h5⟩ := h
  refine ⟨⟨?_, h2, h3, by rw [List.length_map]; exact h4⟩, ?_⟩
  · intro e
    have := congrArg List.length e
    rw [List.length_map, List.length_nil] at this
    omega
  · rw [rp_map]
    exact h5
theorem t_addW (h : a.length + b.length ≤ 100000 ∧ P (.tup (List.map Da.int (a ++ b))) μ) : aAdd (.tup (List.map Da.int a)) (.tup (List.map Da.int b)) μ P := by
  refine ⟨?_, ?_⟩
  · rw [List.length_map, List.length_map]
    exact le_line10 h.1
  · rw [← List.map_append]
    exact h.2
theorem t_slLoW (h : 0 ≤ z ∧ P (.tup (List.map Da.int (a.drop z.toNat))) μ) : aSl (.tup (List.map Da.int a)) (some z) none μ P := by
  obtain ⟨k, rfl⟩ : ∃ k : Nat, z = (k : Int) := ⟨z.toNat, by omega⟩
  show P (.tup (cutA (a.map Da.int) (some (k : Int)) none)) μ
  rw [cutA_lo, ← List.map_drop]
  exact h.2
theorem t_slHiW (h : 0 ≤ z ∧ P (.tup (List.map Da.int (a.take z.toNat))) μ) : aSl (.tup (List.map Da.int a)) none (some z) μ P := by
  obtain ⟨k, rfl⟩ : ∃ k : Nat, z = (k : Int) := ⟨z.toNat, by omega⟩
  show P (.tup (cutA (a.map Da.int) none (some (k : Int)))) μ
  rw [cutA_hi, ← List.map_take]
  exact h.2
theorem t_eqW (h : P (.bl (decide (a = b))) μ) : aEq false (.tup (List.map Da.int a)) (.tup (List.map Da.int b)) μ P := by
  refine ⟨⟨ok_wd _, ok_wd _⟩, ?_⟩
  show P (.bl (Da.eqv (wd a) (wd b))) μ
  rw [eqv_wd]
  exact h
end
end K76
set_option Elab.async false
set_option linter.all false
set_option maxRecDepth 100000
set_option maxHeartbeats 4000000
namespace K76
open PySem PySem.Spec PyProof.Rows L2 AL
def topS (i : Nat) : Stmt := PySem.Challenge.pw_wholenuclei_k76_end_forms.main.body.getD i (.Pass ⟨0, 0, 0, 0⟩)
/-- what the top has written besides the defs -/
structure Txt (P : Program) (w : World) (K : PySem.W.Frag) (mg : Str → Option Value) (base : Heap) (C_InvalidWord fInit : Addr) (fdInit : FuncData) (tM : Tok) : Prop where
  all : mg "all" = none
  bool : mg "bool" = none
  dict : mg "dict" = none
  int : mg "int" = none
  isinstance : mg "isinstance" = none
  len : mg "len" = none
  list : mg "list" = none
  range : mg "range" = none
  str : mg "str" = none
  tuple : mg "tuple" = none
  e_InvalidWord : ErrC K mg "InvalidWord" C_InvalidWord fInit
  c_MOST_LETTERS : mg "MOST_LETTERS" = some (.int 4 tM)
  iG : FnOk P w K mg base CX0 1 fInit fdInit ["self", "value"] (spInit K)
  iB : Binds K fdInit ["self", "value"] []

/-! ### promises -/
def Da.isI : Da → Bool
  | .int _ => true
  | _ => false
def Da.isNat : Da → Bool
  | .int i => decide (0 ≤ i)
  | _ => false
def Da.bel (k : Int) : Da → Bool
  | .int i => decide (0 ≤ i) && decide (i < k)
  | _ => false
def Da.below (k : Int) : Da → Bool
  | .tup l => l.all (Da.bel k)
  | _ => false
def Da.isNil : Da → Bool
  | .tup [] => true
  | _ => false
/-- a value that may be asked: nothing that changes within, not too long, may be compared -/
def Ask (d : Da) : Prop := d.ok = true ∧ ∀ l, d = .tup l → l.length ≤ 1000
theorem there_nop {μ : Mu} : ∀ {d : Da}, d.nop = true → there μ d
  | .non, _ => trivial
  | .bl _, _ => trivial
  | .int _, _ => trivial
  | .str _, _ => trivial
  | .tup _, _ => trivial
  | .lst _, _ => trivial
theorem nopAll_at : ∀ {l : List Da} {i : Nat} {d : Da}, nopAll l = true → l[i]? = some d → d.nop = true
  | [], _, _, _, h => by simp at h
  | x :: l, 0, d, n, h => by
    have e : x = d := by simpa using h
    subst e
    exact (Bool.and_eq_true_iff.mp n).1
  | x :: l, i + 1, d, n, h => nopAll_at (Bool.and_eq_true_iff.mp n).2 (by simpa using h)
def sp_is_integer : ASpec := fun ds μ P _ => ∃ d, ds = [d] ∧ there μ d ∧ P (.bl (Da.isI d)) μ
def sp_is_natural : ASpec := fun ds μ P _ => ∃ d, ds = [d] ∧ there μ d ∧ P (.bl (Da.isNat d)) μ
def sp_are_below : ASpec := fun ds μ P _ => ∃ (d : Da) (k : Int), ds = [d, .int k] ∧ Ask d ∧ P (.bl (Da.below k d)) μ
def sp_check_word (C : Addr) : ASpec := fun ds μ P EP => ∃ (d : Da) (k : Int), ds = [.int k, d] ∧ Ask d ∧ (Da.below k d = true → P .non μ) ∧ (Da.below k d = false → EP C d μ)
def sp_check_again (C : Addr) : ASpec := fun ds μ P EP => ∃ (d : Da) (k : Int), ds = [.int k, d] ∧ Ask d ∧ (Da.below k d = true → Da.isNil d = false → P .non μ) ∧ ((Da.below k d = false ∨ Da.isNil d = true) → EP C d μ)

/-- a word as data, not too long -/
def sp_least_turn : ASpec := fun ds μ P _ => ∃ a : List Int, ds = [wd a] ∧ 0 < a.length ∧ a.length ≤ 1000 ∧ ∀ s, LT a s → P (wd (a.take s)) μ
def sp_short_end : ASpec := fun ds μ P _ => ∃ a w : List Int, ds = [wd a, wd w] ∧ 0 < a.length ∧ a.length ≤ 1000 ∧ w.length ≤ 1000 ∧ ∀ s, LT a s → P (.tup [wd (strip (a.take s) w).1, wd (strip (a.take s) w).2]) μ
/-- letters 0 to 3 -/
def Lets (a : List Int) : Prop := ∀ x ∈ a, 0 ≤ x ∧ x < 4
def sp_end_form (C : Addr) : ASpec := fun ds μ P EP => ∃ x y : Da, ds = [x, y] ∧ Ask x ∧ Ask y ∧
  ((Da.below 4 x = false ∨ Da.isNil x = true) → EP C x μ) ∧ (Da.below 4 x = true → Da.isNil x = false → Da.below 4 y = false → EP C y μ) ∧
  ∀ a w s, x = wd a → y = wd w → 0 < a.length → Lets a → Lets w → LT a s → P (.tup [wd (strip (a.take s) w).1, wd (strip (a.take s) w).2]) μ
theorem below_wd : ∀ {x : Da}, Da.below 4 x = true → ∃ a, x = wd a ∧ Lets a
  | .tup l, h => by
    have key : ∀ l : List Da, l.all (Da.bel 4) = true → ∃ a : List Int, l = a.map Da.int ∧ Lets a := by
      intro l
      induction l with
      | nil => exact fun _ => ⟨[], rfl, fun x hx => by cases hx⟩
      | cons d l ih =>
        intro h
        rw [List.all_cons] at h
        obtain ⟨h1, h2⟩ := Bool.and_eq_true_iff.mp h
        obtain ⟨a, rfl, ha⟩ := ih h2
        cases d with
        | int i =>
          obtain ⟨h3, h4⟩ := Bool.and_eq_true_iff.mp h1
          refine ⟨i :: a, rfl, fun x hx => ?_⟩
          rcases List.mem_cons.mp hx with rfl | hx
          · exact ⟨of_decide_eq_true h3, of_decide_eq_true h4⟩
          · exact ha x hx
        | _ => cases h1
    obtain ⟨a, rfl, ha⟩ := key l h
    exact ⟨a, rfl, ha⟩
theorem wd_below {a : List Int} (h : Lets a) : Da.below 4 (wd a) = true := by
  show (a.map Da.int).all (Da.bel 4) = true
  rw [List.all_map]
  refine List.all_eq_true.mpr fun x hx => ?_
  obtain ⟨h1, h2⟩ := h x hx
  show (decide (0 ≤ x) && decide (x < 4)) = true
  rw [decide_eq_true h1, decide_eq_true h2]
  rfl
theorem wd_nil {a : List Int} (h : 0 < a.length) : Da.isNil (wd a) = false := by
  cases a with
  | nil => cases h
  | cons x a => rfl
theorem ask_wd {a : List Int} (h : a.length ≤ 1000) : Ask (wd a) := ⟨ok_wd a, fun l e => by
  have e' : a.map Da.int = l := by injection e
  rw [← e', List.length_map]
  exact h⟩
theorem ask_len {a : List Int} (h : Ask (wd a)) : a.length ≤ 1000 := by
  have q := h.2 _ rfl
  rw [List.length_map] at q
  exact q

/-! ### the law's own defs -/
def PotOk (l : List Da) : Prop := ∃ (r m c n : Int) (cells : List Int), l = [.int r, .int m, .int c, .int n, .lst (cells.map Da.int)] ∧ 0 ≤ r ∧ 0 ≤ m ∧ m < 1000000000039 ∧ 0 ≤ n ∧ n ≤ cells.length ∧ cells.length ≤ 63
def sp_new1 : ASpec := fun ds μ P _ => ∃ ns : List Int, ds = [.scr ns] ∧ ∀ p, μ p = none → P (.ptr p) (updM μ p (.lst [.int 0, .int 25597, .int 0, .int 0, .lst (ns.map Da.int)]))
def sp_new : ASpec := fun ds μ P _ => ∃ ns : List Int, ds = [.scr ns] ∧ ns.length ≤ 63 ∧ ∀ p, μ p = none → P (.ptr p) (updM μ p (.any PotOk))
def sp_draw1 : ASpec := fun ds μ P _ => ∃ (p : Addr) (many : Int) (l : List Da) (μ0 : Mu), ds = [.ptr p, .int many] ∧ 0 < many ∧ many ≤ 1000 ∧ μ = updM μ0 p (.lst l) ∧ PotOk l ∧ ∀ d l', 0 ≤ d → d < many → PotOk l' → P (.int d) (updM μ0 p (.lst l'))
theorem mod_ok {x m : Int} (h : 0 < m) : 0 ≤ x % m ∧ x % m < m := ⟨Int.emod_nonneg x (by omega), Int.emod_lt_of_pos x h⟩
def sp_draw : ASpec := fun ds μ P _ => ∃ (p : Addr) (many : Int), ds = [.ptr p, .int many] ∧ 0 < many ∧ many ≤ 1000 ∧ μ p = some (.any PotOk) ∧ ∀ d, 0 ≤ d → d < many → P (.int d) μ
local macro_rules | `(tactic| walk_at "go1") => `(tactic| first | (with_reducible refine t_var (by with_unfolding_all exact rfl) ?_) | (with_reducible refine t_ixp (by with_unfolding_all exact rfl) (by decide) (by with_unfolding_all exact rfl) ?_) | (with_reducible refine t_stp (by with_unfolding_all exact rfl) (by decide) (by with_unfolding_all exact Nat.le_of_ble_eq_true rfl) (by with_unfolding_all exact rfl) ?_) | (with_reducible refine t_augp (by with_unfolding_all exact rfl) (by decide) (by with_unfolding_all exact rfl) (by with_unfolding_all exact rfl) ?_) | with_reducible refine t_next ?_ | with_reducible refine t_break ?_ | with_reducible refine t_cont ?_ | with_reducible refine t_seq ?_ | with_reducible refine t_ifs ?_ | with_reducible refine t_drop ?_ | with_reducible refine t_ret ?_ | with_reducible refine t_retN ?_ | with_reducible refine t_asg ?_ | with_reducible refine t_nm ?_ | with_reducible refine t_gtp ?_ | with_reducible refine t_gcons ?_ | with_reducible refine t_gnil ?_ | with_reducible refine t_par ?_ | with_reducible refine t_test ?_ | with_reducible refine t_and ?_ | with_reducible refine t_or ?_ | with_reducible refine t_not ?_ | with_reducible refine t_yes ?_ | with_reducible refine t_andV ?_ | with_reducible refine t_orV ?_ | with_reducible refine t_notV ?_ | with_reducible refine t_if ?_ | with_reducible refine t_isN ?_ | with_reducible refine t_notN ?_ | with_reducible refine t_c ?_ | with_reducible refine t_neg ?_ | with_reducible refine t_nil ?_ | with_reducible refine t_cons ?_ | with_reducible refine t_tup ?_ | with_reducible refine t_lst ?_ | with_reducible refine t_lstM ?_ | with_reducible refine t_cb ?_ | with_reducible refine t_call ?_ | with_reducible refine t_callX ?_ | with_reducible refine t_callSw ?_ | with_reducible refine t_nopart ?_ | with_reducible refine t_part ?_ | with_reducible refine t_sl ?_ | with_reducible refine t_raise ?_ | with_reducible refine t_len1 ?_ | with_reducible refine t_len2 ?_ | with_reducible refine t_tuple1 ?_ | with_reducible refine t_eqI ?_ | with_reducible refine t_addI ?_ | with_reducible refine t_mulI ?_ | with_reducible refine t_aI ?_ | with_reducible refine t_intI ?_ | with_reducible refine t_rng1 ?_ | with_reducible refine t_rng2 ?_ | with_reducible refine t_itT ?_ | with_reducible refine t_itL ?_ | with_reducible refine t_for ?_ | with_reducible refine t_lc ?_ | with_reducible refine t_ift ?_ | with_reducible refine t_iff ?_ | with_reducible refine t_tuple2 ?_ | with_reducible refine t_op ?_ | (refine And.intro (by first | assumption | omega | decide | (exact rfl) | (exact Or.inr (by decide)) | (exact Or.inl (by decide)) | (exact And.intro (by omega) (by omega)) | (exact Or.inl (And.intro (by omega) (by omega))) | (exact Or.inr (And.intro (by omega) (by omega)))) ?_) | dsimp only [aI0, ends0, startA, List.set_cons_zero, List.set_cons_succ, List.map_cons, List.map_nil, List.cons_append, List.nil_append])
local macro_rules | `(tactic| walk_at "go") => `(tactic| repeat walk_at "go1")


section
variable {P : Program} {w : World} {K : PySem.W.Frag} {mg : Str → Option Value} {base : Heap} {C_InvalidWord fInit : Addr} {fdInit : FuncData} {tM : Tok}

abbrev s_is_integer : Stmt := topS 5
theorem sc_is_integer : FnScope ["value"] ["value"] (defScope s_is_integer) := ⟨rfl, rfl, rfl, by decide +kernel, rfl, by decide +kernel, by decide +kernel⟩
theorem ok_is_integer {f : Addr} {fd : FuncData} (F : Fun K "is_integer" "is_integer" s_is_integer f fd) (T : Txt P w K mg base C_InvalidWord fInit fdInit tM)   :
    FnOk P w K mg base CX0 1 f fd ["value"] (spOf K sp_is_integer) := by
  refine fn0 F sc_is_integer (fun ds μ P E h => by obtain ⟨d, rfl, _⟩ := h; rfl) (fun cdv A outer s H E hr => ?_)
  refine ⟨_, _, (as_one (as_ret (ae_and (ae_isi (T := "int") (by decide +kernel) T.isinstance (by rfl) (by rfl) T.int (by decide +kernel) (ae_var 0)) (ae_one (ae_not (ae_isi (T := "bool") (by decide +kernel) T.isinstance (by rfl) (by rfl) T.bool (by decide +kernel) (ae_var 0))))))), ?sem⟩
  case sem =>
    intro ds μ P EP h
    obtain ⟨d, rfl, ht, hP⟩ := h
    refine ⟨ht, ?_⟩
    cases d <;> first | exact ⟨ht, hP⟩ | exact hP
abbrev s_is_natural : Stmt := topS 6
theorem sc_is_natural : FnScope ["value"] ["value"] (defScope s_is_natural) := ⟨rfl, rfl, rfl, by decide +kernel, rfl, by decide +kernel, by decide +kernel⟩
theorem ok_is_natural {f : Addr} {fd : FuncData} (F : Fun K "is_natural" "is_natural" s_is_natural f fd) (T : Txt P w K mg base C_InvalidWord fInit fdInit tM) {f_is_integer : Addr} {fd_is_integer : FuncData} (c_is_integer : Cl P w K mg base CX0 "is_integer" 1 ["value"] sp_is_integer f_is_integer fd_is_integer)  :
    FnOk P w K mg base CX0 2 f fd ["value"] (spOf K sp_is_natural) := by
  refine fn0 F sc_is_natural (fun ds μ P E h => by obtain ⟨d, rfl, _⟩ := h; rfl) (fun cdv A outer s H E hr => ?_)
  refine ⟨_, _, (as_one (as_ret (ae_and (ae_call c_is_integer.G (hr.mono (by omega)) (by rfl) c_is_integer.g c_is_integer.kp c_is_integer.b pass0 (aa_cons (ae_var 0) aa_nil)) (ae_one (ae_ge (ae_var 0) ae_int))))), ?sem⟩
  case sem =>
    intro ds μ P EP h
    obtain ⟨d, rfl, ht, hP⟩ := h
    refine ⟨d, rfl, ht, ?_⟩
    cases d <;> exact hP
abbrev s_are_below : Stmt := topS 7
theorem sc_are_below : FnScope ["value", "many", "own"] ["value", "many"] (defScope s_are_below) := ⟨rfl, rfl, rfl, by decide +kernel, rfl, by decide +kernel, by decide +kernel⟩
theorem ok_are_below {f : Addr} {fd : FuncData} (F : Fun K "are_below" "are_below" s_are_below f fd) (T : Txt P w K mg base C_InvalidWord fInit fdInit tM) {f_is_natural : Addr} {fd_is_natural : FuncData} (c_is_natural : Cl P w K mg base CX0 "is_natural" 2 ["value"] sp_is_natural f_is_natural fd_is_natural)  :
    FnOk P w K mg base CX0 3 f fd ["value", "many"] (spOf K sp_are_below) := by
  refine fn0 F sc_are_below (fun ds μ P E h => by obtain ⟨d, k, rfl, _⟩ := h; rfl) (fun cdv A outer s H E hr => ?_)
  refine ⟨_, _, (as_one (as_ret (ae_and (ae_isi (T := "tuple") (by decide +kernel) T.isinstance (by rfl) (by rfl) T.tuple (by decide +kernel) (ae_var 0)) (ae_one (ae_all rfl T.all (by rfl) (aa_cons (ae_lc rfl sc_are_below.nd (ai_tup (ae_var 0)) (blkOk_by (N := ["value", "many", "own"]) (sc := defScope s_are_below) (by decide +kernel)) (fun _ _ _ _ _ => pg_name (i := 2) sc_are_below.nd rfl (by first | exact Or.inl rfl | exact Or.inr rfl)) (fun _ _ _ _ _ => (ae_and (ae_call c_is_natural.G (hr.mono (by omega)) (by rfl) c_is_natural.g c_is_natural.kp c_is_natural.b pass0 (aa_cons (ae_var 2) aa_nil)) (ae_one (ae_lt (ae_var 2) (ae_var 1)))))) aa_nil)))))), ?sem⟩
  case sem =>
    intro ds μ P EP h
    obtain ⟨d, k, rfl, hA, hP⟩ := h
    refine ⟨there_nop (ok_nop hA.1), ?_⟩
    cases d <;> try exact hP
    rename_i l
    refine ⟨fun i acc => acc = (l.take i).map (fun x => Da.bl (Da.bel k x)), rfl, ?_, ?_⟩
    · rintro D i d acc hD hd rfl
      have hi := (List.getElem?_eq_some_iff.mp hd).1
      have hl := hA.2 l rfl
      have hn : d.nop = true := nopAll_at (ok_nop hA.1) hd
      have fin : ∀ b : Bool, b = Da.bel k d → (updM μ D (.lst ((l.take i).map (fun x => Da.bl (Da.bel k x)))) = updM μ D (.lst ((l.take i).map (fun x => Da.bl (Da.bel k x)))) ∧ ((l.take i).map (fun x => Da.bl (Da.bel k x))).length < 100000 ∧ (l.take i).map (fun x => Da.bl (Da.bel k x)) ++ [Da.bl b] = (l.take (i + 1)).map (fun x => Da.bl (Da.bel k x))) := fun b hb => by
        refine ⟨rfl, ?_, ?_⟩
        · rw [List.length_map, List.length_take]
          omega
        · rw [List.take_add_one, hd, List.map_append, hb]
          rfl
      refine ⟨d, rfl, there_nop hn, ?_⟩
      cases d with
      | int z =>
        by_cases h0 : 0 ≤ z
        · show (if decide (0 ≤ z) = true then _ else _)
          rw [if_pos (decide_eq_true h0)]
          refine fin _ ?_
          show decide (z < k) = (decide (0 ≤ z) && decide (z < k))
          rw [decide_eq_true h0, Bool.true_and]
        · show (if decide (0 ≤ z) = true then _ else _)
          rw [if_neg (by simpa using h0)]
          refine fin _ ?_
          show false = (decide (0 ≤ z) && decide (z < k))
          rw [decide_eq_false h0, Bool.false_and]
      | _ => exact fin _ rfl
    · rintro acc rfl
      rw [List.take_length]
      refine ⟨l.map (Da.bel k), by rw [List.map_map]; rfl, ?_⟩
      have e : (l.map (Da.bel k)).all id = l.all (Da.bel k) := by rw [List.all_map]; rfl
      rw [e]
      exact hP
abbrev s_check_word : Stmt := topS 8
theorem sc_check_word : FnScope ["k", "word"] ["k", "word"] (defScope s_check_word) := ⟨rfl, rfl, rfl, by decide +kernel, rfl, by decide +kernel, by decide +kernel⟩
theorem ok_check_word {f : Addr} {fd : FuncData} (F : Fun K "check_word" "check_word" s_check_word f fd) (T : Txt P w K mg base C_InvalidWord fInit fdInit tM) {f_are_below : Addr} {fd_are_below : FuncData} (c_are_below : Cl P w K mg base CX0 "are_below" 3 ["value", "many"] sp_are_below f_are_below fd_are_below)  :
    FnOk P w K mg base (L2.CX P w) 4 f fd ["k", "word"] (spOf K (sp_check_word C_InvalidWord)) := by
  refine fnX F sc_check_word (fun ds μ P E h => by obtain ⟨d, k, rfl, _⟩ := h; rfl) (fun cdv A outer s H E hr => ?_)
  have tk : Takes (cxOf (L2.CX P w) P w K mg base ["k", "word"] "check_word" (defScope s_check_word) f cdv A outer s H E) (fun cls d _ H => E cls d H) := takes_of rfl rfl rfl rfl
  refine ⟨_, _, (as_one (as_if (at_not (at_val (ae_call c_are_below.G (hr.mono (by omega)) (by rfl) c_are_below.g c_are_below.kp c_are_below.b pass0 (aa_cons (ae_var 1) (aa_cons (ae_var 0) aa_nil))))) (as_one (as_raise rfl tk T.e_InvalidWord T.iG T.iB (hr.mono (by omega)) (by rfl) (ae_var 1))) as_nil)), ?sem⟩
  case sem =>
    intro ds μ P EP h
    obtain ⟨d, k, rfl, hA, h1, h2⟩ := h
    refine ⟨d, k, rfl, hA, ?_⟩
    cases e : Da.below k d with
    | true => exact h1 e
    | false => exact h2 e
abbrev s_check_again : Stmt := topS 9
theorem sc_check_again : FnScope ["k", "again"] ["k", "again"] (defScope s_check_again) := ⟨rfl, rfl, rfl, by decide +kernel, rfl, by decide +kernel, by decide +kernel⟩
theorem ok_check_again {f : Addr} {fd : FuncData} (F : Fun K "check_again" "check_again" s_check_again f fd) (T : Txt P w K mg base C_InvalidWord fInit fdInit tM) {f_are_below : Addr} {fd_are_below : FuncData} (c_are_below : Cl P w K mg base CX0 "are_below" 3 ["value", "many"] sp_are_below f_are_below fd_are_below)  :
    FnOk P w K mg base (L2.CX P w) 4 f fd ["k", "again"] (spOf K (sp_check_again C_InvalidWord)) := by
  refine fnX F sc_check_again (fun ds μ P E h => by obtain ⟨d, k, rfl, _⟩ := h; rfl) (fun cdv A outer s H E hr => ?_)
  have tk : Takes (cxOf (L2.CX P w) P w K mg base ["k", "again"] "check_again" (defScope s_check_again) f cdv A outer s H E) (fun cls d _ H => E cls d H) := takes_of rfl rfl rfl rfl
  refine ⟨_, _, (as_one (as_if (at_w (aw_or (at_not (at_val (ae_call c_are_below.G (hr.mono (by omega)) (by rfl) c_are_below.g c_are_below.kp c_are_below.b pass0 (aa_cons (ae_var 1) (aa_cons (ae_var 0) aa_nil))))) (aw_or1 (at_eq hr.units (ae_var 1) (ae_tup aa_nil))))) (as_one (as_raise rfl tk T.e_InvalidWord T.iG T.iB (hr.mono (by omega)) (by rfl) (ae_var 1))) as_nil)), ?sem⟩
  case sem =>
    intro ds μ P EP h
    obtain ⟨d, k, rfl, hA, h1, h2⟩ := h
    refine ⟨d, k, rfl, hA, ?_⟩
    cases e : Da.below k d with
    | false => exact h2 (.inl e)
    | true =>
      show [].length ≤ 1000 ∧ ((d.ok = true ∧ (Da.tup []).ok = true) ∧ _)
      refine ⟨Nat.zero_le _, ⟨hA.1, by decide⟩, ?_⟩
      have ee : Da.eqv d (.tup []) = Da.isNil d := by
        cases d with
        | tup l =>
          cases l <;> rfl
        | _ => rfl
      show (if Da.eqv d (.tup []) = true then _ else _)
      rw [ee]
      cases e2 : Da.isNil d with
      | true => exact h2 (.inr e2)
      | false => exact h1 e e2
abbrev s_least_turn : Stmt := topS 11
theorem sc_least_turn : FnScope ["again", "size"] ["again"] (defScope s_least_turn) := ⟨rfl, rfl, rfl, by decide +kernel, rfl, by decide +kernel, by decide +kernel⟩
theorem ok_least_turn {f : Addr} {fd : FuncData} (F : Fun K "least_turn" "least_turn" s_least_turn f fd) (T : Txt P w K mg base C_InvalidWord fInit fdInit tM)   :
    FnOk P w K mg base CX0 1 f fd ["again"] (spOf K sp_least_turn) := by
  refine fn0 F sc_least_turn (fun ds μ P E h => by obtain ⟨a, rfl, _⟩ := h; rfl) (fun cdv A outer s H E hr => ?_)
  refine ⟨_, _, (as_cons (as_for PassesOwn.never rfl (ai_range2 (by rfl) T.range (aa_cons ae_int (aa_cons (ae_len T.len (by rfl) (aa_cons (ae_var 0) aa_nil)) aa_nil))) (ag_name (i := 1) sc_least_turn.nd rfl (by first | exact Or.inl rfl | exact Or.inr rfl)) (as_one (as_if (at_w (aw_and (at_eq hr.units (ae_mod (ae_len T.len (by rfl) (aa_cons (ae_var 0) aa_nil)) (ae_var 1)) ae_int) (aw_and1 (at_eq hr.units (ae_var 0) (ae_mul (ae_slice (ae_var 0) ao_none (ao_some (ae_var 1))) (ae_fdiv (ae_len T.len (by rfl) (aa_cons (ae_var 0) aa_nil)) (ae_var 1))))))) (as_one (as_ret (ae_slice (ae_var 0) ao_none (ao_some (ae_var 1))))) as_nil)))
      (as_one (as_ret (ae_var 0)))), ?sem⟩
  case sem =>
    intro ds μ P EP h
    obtain ⟨a, rfl, h0, hz, hP⟩ := h
    have hlen : (a.map Da.int).length = a.length := List.length_map _
    refine ⟨⟨by omega, by omega, by rw [hlen]; omega, by rw [hlen]; omega⟩, fun i ρ' μ' => (∃ z, ρ' = [some (wd a), z]) ∧ μ' = μ ∧ ∀ t, 0 < t → t < 1 + i → ltOk a t = false, ⟨⟨_, rfl⟩, rfl, fun t h1 h2 => by omega⟩, ?_, ?_⟩
    · rintro i d ρ' μ' hd ⟨⟨z, rfl⟩, rfl, hI⟩
      obtain ⟨hi, rfl⟩ := upFrom_get hd
      rw [hlen] at hi
      have hs1 : 1 + i < a.length := by omega
      have e1 : ((1 : Int) + (i : Int)) = ((1 + i : Nat) : Int) := by omega
      refine ⟨by omega, ⟨ok_int _, ok_int _⟩, ?_⟩
      show (if Da.eqv (.int (((a.map Da.int).length : Int) % (1 + (i : Int)))) (.int 0) = true then _ else _)
      have ee : Da.eqv (.int (((a.map Da.int).length : Int) % (1 + (i : Int)))) (.int 0) = decide (a.length % (1 + i) = 0) := by
        show PyData.eqv (.int _) (.int 0) = _
        rw [PyData.eqv, hlen, e1]
        by_cases h : a.length % (1 + i) = 0
        · rw [decide_eq_true h]
          have : ((a.length : Int) % ((1 + i : Nat) : Int)) = 0 := by omega
          rw [this]
          rfl
        · rw [decide_eq_false h]
          have : ((a.length : Int) % ((1 + i : Nat) : Int)) ≠ 0 := by omega
          exact beq_eq_false_iff_ne.mpr this
      rw [ee]
      by_cases hm : a.length % (1 + i) = 0
      · rw [if_pos (decide_eq_true hm)]
        have hq : 2 ≤ a.length / (1 + i) := by
          have := Nat.div_add_mod a.length (1 + i)
          rw [hm] at this
          apply Classical.byContradiction
          intro hlt
          have h1 : a.length / (1 + i) ≤ 1 := by omega
          have h2 : (1 + i) * (a.length / (1 + i)) ≤ (1 + i) * 1 := Nat.mul_le_mul_left _ h1
          omega
        have hq2 : a.length / (1 + i) ≤ a.length := Nat.div_le_self _ _
        have ediv : (((a.map Da.int).length : Int) / (1 + (i : Int))) = ((a.length / (1 + i) : Nat) : Int) := by
          rw [hlen, e1]
          omega
        have ecut : cutA (a.map Da.int) none (some (1 + (i : Int))) = (a.take (1 + i)).map Da.int := by
          rw [e1, cutA_hi, List.map_take]
        show CDiv _ _ ∧ _
        refine ⟨⟨by omega, by omega⟩, ?_⟩
        show (cutA (a.map Da.int) none (some (1 + (i : Int))) ≠ [] ∧ 2 ≤ (((a.map Da.int).length : Int) / (1 + (i : Int))) ∧ (((a.map Da.int).length : Int) / (1 + (i : Int))) ≤ 1000 ∧ (cutA (a.map Da.int) none (some (1 + (i : Int)))).length ≤ 1000) ∧
          ((wd a).ok = true ∧ (Da.tup (List.replicate (((a.map Da.int).length : Int) / (1 + (i : Int))).toNat (cutA (a.map Da.int) none (some (1 + (i : Int))))).flatten).ok = true) ∧ (if Da.eqv (wd a) (Da.tup (List.replicate (((a.map Da.int).length : Int) / (1 + (i : Int))).toNat (cutA (a.map Da.int) none (some (1 + (i : Int))))).flatten) = true then _ else _)
        rw [ediv, ecut]
        have ne : (a.take (1 + i)).map Da.int ≠ [] := by
          intro h
          have := congrArg List.length h
          rw [List.length_map, List.length_take, List.length_nil] at this
          omega
        rw [rp_map]
        refine ⟨⟨ne, by omega, by omega, by rw [List.length_map, List.length_take]; omega⟩, ⟨ok_wd _, ok_wd _⟩, ?_⟩
        show (if Da.eqv (wd a) (wd (rp (((a.length / (1 + i) : Nat) : Int)).toNat (a.take (1 + i)))) = true then _ else _)
        rw [eqv_wd, Int.toNat_natCast]
        by_cases hr2 : a = rp (a.length / (1 + i)) (a.take (1 + i))
        · rw [if_pos (decide_eq_true hr2)]
          show P (.tup (cutA (a.map Da.int) none (some (1 + (i : Int))))) μ'
          rw [ecut]
          refine hP (1 + i) ⟨by omega, by omega, ?_, fun t h1 h2 => hI t h1 h2⟩
          unfold ltOk
          rw [decide_eq_true hm, decide_eq_true hr2]
          rfl
        · rw [if_neg (by simpa using hr2)]
          refine ⟨⟨_, rfl⟩, rfl, fun t h1 h2 => ?_⟩
          by_cases ht : t = 1 + i
          · rw [ht]
            unfold ltOk
            rw [decide_eq_false hr2, Bool.and_false]
          · exact hI t h1 (by omega)
      · rw [if_neg (by simpa using hm)]
        refine ⟨⟨_, rfl⟩, rfl, fun t h1 h2 => ?_⟩
        by_cases ht : t = 1 + i
        · rw [ht]
          unfold ltOk
          rw [decide_eq_false hm, Bool.false_and]
        · exact hI t h1 (by omega)
    · rintro ρ' μ' ⟨⟨z, rfl⟩, rfl, hI⟩
      rw [upFrom_len, hlen] at hI
      have q := hP a.length ⟨h0, Nat.le_refl _, ltOk_self h0, fun t h1 h2 => hI t h1 (by omega)⟩
      rw [List.take_length] at q
      exact q
abbrev s_short_end : Stmt := topS 12
theorem sc_short_end : FnScope ["again", "word"] ["again", "word"] (defScope s_short_end) := ⟨rfl, rfl, rfl, by decide +kernel, rfl, by decide +kernel, by decide +kernel⟩
theorem ok_short_end {f : Addr} {fd : FuncData} (F : Fun K "short_end" "short_end" s_short_end f fd) (T : Txt P w K mg base C_InvalidWord fInit fdInit tM) {f_least_turn : Addr} {fd_least_turn : FuncData} (c_least_turn : Cl P w K mg base CX0 "least_turn" 1 ["again"] sp_least_turn f_least_turn fd_least_turn)  :
    FnOk P w K mg base CX0 2 f fd ["again", "word"] (spOf K sp_short_end) := by
  refine fn0 F sc_short_end (fun ds μ P E h => by obtain ⟨a, w, rfl, _⟩ := h; rfl) (fun cdv A outer s H E hr => ?_)
  refine ⟨_, _, (as_cons (as_set (i := 0) sc_short_end.nd rfl (by first | exact Or.inl rfl | exact Or.inr rfl) (ae_call c_least_turn.G (hr.mono (by omega)) (by rfl) c_least_turn.g c_least_turn.kp c_least_turn.b pass0 (aa_cons (ae_var 0) aa_nil)))
      (as_cons (as_while PassesOwn.never (at_w (aw_and (at_ne hr.units (ae_var 1) (ae_tup aa_nil)) (aw_and1 (at_eq hr.units (ae_ix (ae_var 1) ae_int) (ae_ix (ae_var 0) ae_int))))) (as_one (as_par (i := 0) (j := 1) rfl sc_short_end.nd rfl rfl (by decide) rfl rfl (aa_cons (ae_add (ae_slice (ae_var 0) (ao_some ae_int) ao_none) (ae_slice (ae_var 0) ao_none (ao_some ae_int))) (aa_cons (ae_slice (ae_var 1) (ao_some ae_int) ao_none) aa_nil)))))
      (as_one (as_ret (ae_tup (aa_cons (ae_var 0) (aa_cons (ae_var 1) aa_nil))))))), ?sem⟩
  case sem =>
    intro ds μ P EP h
    obtain ⟨a, w, rfl, h0, hz, hzw, hP⟩ := h
    refine ⟨a, rfl, h0, hz, fun s hs => ?_⟩
    have q := hP s hs
    have hl1 : 0 < (a.take s).length := by rw [List.length_take]; have := hs.1; have := hs.2.1; omega
    have hl2 : (a.take s).length ≤ 1000 := by rw [List.length_take]; omega
    generalize a.take s = b at q hl1 hl2
    refine ⟨fun m ρ' μ' => ∃ b' w', ρ' = [some (wd b'), some (wd w')] ∧ μ' = μ ∧ w'.length = m ∧ w'.length ≤ 1000 ∧ b'.length = b.length ∧ strip b' w' = strip b w, ⟨w.length, b, w, rfl, rfl, rfl, hzw, rfl, rfl⟩, ?_⟩
    rintro m ρ' μ' ⟨b', w', rfl, rfl, hm, hw', hb', hst⟩
    show [].length ≤ 1000 ∧ ((wd w').ok = true ∧ (wd []).ok = true) ∧ (if (!Da.eqv (wd w') (wd [])) = true then _ else _)
    refine ⟨Nat.zero_le _, ⟨ok_wd _, ok_wd _⟩, ?_⟩
    rw [eqv_wd]
    cases w' with
    | nil =>
      show (if (!decide (([] : List Int) = [])) = true then _ else _)
      rw [if_neg (by decide)]
      show [wd b', wd []].length ≤ 1000 ∧ _
      refine ⟨by show 2 ≤ 1000; decide, ?_⟩
      have e : strip b' [] = (b', []) := rfl
      rw [← hst, e] at q
      exact q
    | cons x r =>
      rw [if_pos (by simp)]
      cases b' with
      | nil => rw [← hb'] at hl1; cases hl1
      | cons y t =>
        have a1 : atI ((x :: r).map Da.int) 0 = some (.int x) := atI_nat (j := 0) rfl
        have a2 : atI ((y :: t).map Da.int) 0 = some (.int y) := atI_nat (j := 0) rfl
        dsimp only [wTest, wOp, wVar, Env.get, wC, aIx, wd]
        rw [a1]
        dsimp only
        rw [a2]
        show ((Da.int x).ok = true ∧ (Da.int y).ok = true) ∧ (if Da.eqv (.int x) (.int y) = true then _ else _)
        refine ⟨⟨ok_int _, ok_int _⟩, ?_⟩
        have e1 : Da.eqv (.int x) (.int y) = decide (x = y) := by
          show PyData.eqv (.int x) (.int y) = _
          rw [PyData.eqv]
          rfl
        rw [e1]
        by_cases hxy : x = y
        · rw [if_pos (decide_eq_true hxy)]
          have c1 : cutA ((y :: t).map Da.int) (some 1) none = t.map Da.int := cutA_lo _ 1
          have c2 : cutA ((y :: t).map Da.int) none (some 1) = [Da.int y] := cutA_hi _ 1
          have c3 : cutA ((x :: r).map Da.int) (some 1) none = r.map Da.int := cutA_lo _ 1
          show (cutA ((y :: t).map Da.int) (some 1) none).length + (cutA ((y :: t).map Da.int) none (some 1)).length ≤ sizeLine ∧ ∃ m2, m2 < m ∧ _
          rw [c1, c2]
          refine ⟨?_, r.length, by rw [List.length_cons] at hm; omega, t ++ [y], r, ?_, rfl, rfl, by rw [List.length_cons] at hw'; omega, ?_, ?_⟩
          · rw [List.length_map, List.length_singleton]
            rw [List.length_cons] at hb'
            exact Nat.le_of_lt (small1000 (by omega))
          · rw [c3]
            show [some (Da.tup (t.map Da.int ++ [Da.int y])), some (Da.tup (r.map Da.int))] = [some (Da.tup ((t ++ [y]).map Da.int)), some (Da.tup (r.map Da.int))]
            rw [List.map_append]
            rfl
          · rw [List.length_append, ← hb']
            rfl
          · rw [← hst]
            show strip (t ++ [y]) r = (if (y :: t).head? = some x then strip ((y :: t).tail ++ [x]) r else (y :: t, x :: r))
            rw [if_pos (by rw [hxy]; rfl), hxy]
            rfl
        · rw [if_neg (by simpa using hxy)]
          show [wd (y :: t), wd (x :: r)].length ≤ 1000 ∧ _
          refine ⟨by show 2 ≤ 1000; decide, ?_⟩
          have e : strip (y :: t) (x :: r) = (y :: t, x :: r) := by
            show (if (y :: t).head? = some x then strip ((y :: t).tail ++ [x]) r else (y :: t, x :: r)) = _
            rw [if_neg (show ¬ (y :: t).head? = some x from fun h => hxy (Option.some.inj h).symm)]
          rw [← hst, e] at q
          exact q
abbrev s_end_form : Stmt := topS 13
theorem sc_end_form : FnScope ["again", "word"] ["again", "word"] (defScope s_end_form) := ⟨rfl, rfl, rfl, by decide +kernel, rfl, by decide +kernel, by decide +kernel⟩
theorem ok_end_form {f : Addr} {fd : FuncData} (F : Fun K "end_form" "end_form" s_end_form f fd) (T : Txt P w K mg base C_InvalidWord fInit fdInit tM) {f_check_again : Addr} {fd_check_again : FuncData} (c_check_again : Cl P w K mg base (L2.CX P w) "check_again" 4 ["k", "again"] (sp_check_again C_InvalidWord) f_check_again fd_check_again) {f_check_word : Addr} {fd_check_word : FuncData} (c_check_word : Cl P w K mg base (L2.CX P w) "check_word" 4 ["k", "word"] (sp_check_word C_InvalidWord) f_check_word fd_check_word) {f_short_end : Addr} {fd_short_end : FuncData} (c_short_end : Cl P w K mg base CX0 "short_end" 2 ["again", "word"] sp_short_end f_short_end fd_short_end)  :
    FnOk P w K mg base (L2.CX P w) 5 f fd ["again", "word"] (spOf K (sp_end_form C_InvalidWord)) := by
  refine fnX F sc_end_form (fun ds μ P E h => by obtain ⟨x, y, rfl, _⟩ := h; rfl) (fun cdv A outer s H E hr => ?_)
  have tk : Takes (cxOf (L2.CX P w) P w K mg base ["again", "word"] "end_form" (defScope s_end_form) f cdv A outer s H E) (fun cls d _ H => E cls d H) := takes_of rfl rfl rfl rfl
  refine ⟨_, _, (as_cons (as_expr (ae_callX tk c_check_again.G (hr.mono (by omega)) (by rfl) c_check_again.g c_check_again.kp c_check_again.b (aa_cons (ae_globI (by rfl) T.c_MOST_LETTERS ⟨_, rfl⟩) (aa_cons (ae_var 0) aa_nil))))
      (as_cons (as_expr (ae_callX tk c_check_word.G (hr.mono (by omega)) (by rfl) c_check_word.g c_check_word.kp c_check_word.b (aa_cons (ae_globI (by rfl) T.c_MOST_LETTERS ⟨_, rfl⟩) (aa_cons (ae_var 1) aa_nil))))
      (as_one (as_ret (ae_call c_short_end.G (hr.mono (by omega)) (by rfl) c_short_end.g c_short_end.kp c_short_end.b pass0 (aa_cons (ae_var 0) (aa_cons (ae_var 1) aa_nil))))))), ?sem⟩
  case sem =>
    intro ds μ P EP h
    obtain ⟨x, y, rfl, hx, hy, h1, h2, h3⟩ := h
    refine ⟨x, 4, rfl, hx, fun b1 b2 => ?_, h1⟩
    refine ⟨y, 4, rfl, hy, fun b3 => ?_, h2 b1 b2⟩
    obtain ⟨a, rfl, ha⟩ := below_wd b1
    obtain ⟨w, rfl, hw⟩ := below_wd b3
    have h0 : 0 < a.length := by
      cases a with
      | nil => cases b2
      | cons _ _ => exact Nat.succ_pos _
    exact ⟨a, w, rfl, h0, ask_len hx, ask_len hy, fun s hs => h3 a w s rfl rfl h0 ha hw hs⟩
abbrev s__law_new : Stmt := topS 15
theorem sc__law_new : FnScope ["script"] ["script"] (defScope s__law_new) := ⟨rfl, rfl, rfl, by decide +kernel, rfl, by decide +kernel, by decide +kernel⟩
theorem ok__law_new {f : Addr} {fd : FuncData} (F : Fun K "_law_new" "_law_new" s__law_new f fd) (T : Txt P w K mg base C_InvalidWord fInit fdInit tM)   :
    FnOk P w K mg base CX0 1 f fd ["script"] (spOf K sp_new1) := by
  refine fn0 F sc__law_new (fun ds μ P E h => by obtain ⟨ns, rfl, _⟩ := h; rfl) (fun cdv A outer s H E hr => ?_)
  refine ⟨_, _, (as_one (as_ret (ae_lstM (aa_cons ae_int (aa_cons ae_int (aa_cons ae_int (aa_cons ae_int (aa_cons (ae_list T.list (by rfl) (aa_cons (ae_var 0) aa_nil)) aa_nil)))))))), ?sem⟩
  case sem =>
    intro ds μ P EP h
    obtain ⟨ns, rfl, hP⟩ := h
    refine ⟨by show 5 ≤ 1000; decide, fun p hp => hP p hp⟩
abbrev s__law_draw : Stmt := topS 16
theorem sc__law_draw : FnScope ["pot", "many", "cell", "digit", "both"] ["pot", "many"] (defScope s__law_draw) := ⟨rfl, rfl, rfl, by decide +kernel, rfl, by decide +kernel, by decide +kernel⟩
theorem ok__law_draw {f : Addr} {fd : FuncData} (F : Fun K "_law_draw" "_law_draw" s__law_draw f fd) (T : Txt P w K mg base C_InvalidWord fInit fdInit tM)   :
    FnOk P w K mg base CX0 1 f fd ["pot", "many"] (spOf K sp_draw1) := by
  refine fn0 F sc__law_draw (fun ds μ P E h => by obtain ⟨p, many, l, μ0, rfl, _⟩ := h; rfl) (fun cdv A outer s H E hr => ?_)
  refine ⟨_, _, (as_cons (as_iaddIx (ae_var 0) ae_int ae_int)
      (as_cons (as_if (at_w (aw_and (at_eq hr.units (ae_ix (ae_var 0) ae_int) ae_int) (aw_and1 (at_lt (ae_ix (ae_var 0) ae_int) (ae_len T.len (by rfl) (aa_cons (ae_ix (ae_var 0) ae_int) aa_nil)))))) (as_cons (as_set (i := 2) sc__law_draw.nd rfl (by first | exact Or.inl rfl | exact Or.inr rfl) (ae_ix (ae_ix (ae_var 0) ae_int) (ae_ix (ae_var 0) ae_int)))
      (as_cons (as_iaddIx (ae_var 0) ae_int ae_int)
      (as_one (as_if (at_ge (ae_var 2) (ae_pow ae_int ae_int)) (as_one (as_asg (ae_sub (ae_var 2) (ae_pow ae_int ae_int)) (ag_ix (ae_var 0) ae_int))) (as_one (as_asg (ae_mod (ae_intC T.int (by rfl) (aa_cons (ae_add (ae_mul (ae_ix (ae_var 0) ae_int) ae_int) (ae_mul (ae_add (ae_mul ae_int (ae_var 2)) ae_int) (ae_ix (ae_var 0) ae_int))) aa_nil)) ae_int) (ag_ix (ae_var 0) ae_int))))))) as_nil)
      (as_cons (as_if (at_gt (ae_ix (ae_var 0) ae_int) ae_int) (as_cons (as_set (i := 3) sc__law_draw.nd rfl (by first | exact Or.inl rfl | exact Or.inr rfl) (ae_mod (ae_intC T.int (by rfl) (aa_cons (ae_ix (ae_var 0) ae_int) aa_nil)) (ae_var 1)))
      (as_cons (as_asg (ae_fdiv (ae_ix (ae_var 0) ae_int) (ae_var 1)) (ag_ix (ae_var 0) ae_int))
      (as_one (as_ret (ae_var 3))))) as_nil)
      (as_cons (as_asg (ae_mod (ae_intC T.int (by rfl) (aa_cons (ae_add (ae_add (ae_mul (ae_ix (ae_var 0) ae_int) ae_int) (ae_mul ae_int (ae_ix (ae_var 0) ae_int))) ae_int) aa_nil)) ae_int) (ag_ix (ae_var 0) ae_int))
      (as_cons (as_set (i := 4) sc__law_draw.nd rfl (by first | exact Or.inl rfl | exact Or.inr rfl) (ae_mod (ae_intC T.int (by rfl) (aa_cons (ae_add (ae_mul (ae_mul (ae_ix (ae_var 0) ae_int) (ae_ix (ae_var 0) ae_int)) ae_int) (ae_fdiv (ae_ix (ae_var 0) ae_int) ae_int)) aa_nil)) ae_int))
      (as_one (as_ret (ae_mod (ae_intC T.int (by rfl) (aa_cons (ae_fdiv (ae_var 4) ae_int) aa_nil)) (ae_var 1))))))))), ?sem⟩
  case sem =>
    intro ds μ P EP h
    obtain ⟨p, many, l, μ0, rfl, h1, h2, rfl, ⟨r, m, c, n, cells, rfl, hr0, hm0, hm1, hn0, hn1, hc⟩, hP⟩ := h
    have g0 : (0 : Int) < 1000000000039 := by decide
    -- what follows the first if
    have back : ∀ (r m n : Int) (z1 z2 z3 : Option Da), 0 ≤ r → 0 ≤ m → m < 1000000000039 → 0 ≤ n → n ≤ cells.length →
        wSeq (wIfS (wTest (wOp (aI0 fun i j => Da.bl (decide (j < i))) (wOp aIx (wVar 0) (wC (Da.int 0))) (wC (Da.int 0))))
          (wSeq (wAsg (wOp (aI (fun _ j => 0 < j) fun i j => Da.int (i % j)) (wCB cInt (wCons (wOp aIx (wVar 0) (wC (Da.int 0))) wNil)) (wVar 1)) (gNm 3))
            (wSeq (wAsg (wOp (aI CDiv fun i j => Da.int (i / j)) (wOp aIx (wVar 0) (wC (Da.int 0))) (wVar 1)) (gIx (wVar 0) (wC (Da.int 0)))) (wRet (wVar 3)))) wNext)
          (wSeq (wAsg (wOp (aI (fun _ j => 0 < j) fun i j => Da.int (i % j)) (wCB cInt (wCons (wOp aAdd (wOp aAdd (wOp aMul (wOp aIx (wVar 0) (wC (Da.int 1))) (wC (Da.int 48271))) (wOp aMul (wC (Da.int 7907)) (wOp aIx (wVar 0) (wC (Da.int 2))))) (wC (Da.int 11))) wNil)) (wC (Da.int 1000000000039))) (gIx (wVar 0) (wC (Da.int 1))))
            (wSeq (wAsg (wOp (aI (fun _ j => 0 < j) fun i j => Da.int (i % j)) (wCB cInt (wCons (wOp aAdd (wOp aMul (wOp aMul (wOp aIx (wVar 0) (wC (Da.int 1))) (wOp aIx (wVar 0) (wC (Da.int 1)))) (wC (Da.int 7))) (wOp (aI CDiv fun i j => Da.int (i / j)) (wOp aIx (wVar 0) (wC (Da.int 1))) (wC (Da.int 1024)))) wNil)) (wC (Da.int 999999999989))) (gNm 4))
              (wRet (wOp (aI (fun _ j => 0 < j) fun i j => Da.int (i % j)) (wCB cInt (wCons (wOp (aI CDiv fun i j => Da.int (i / j)) (wVar 4) (wC (Da.int 256))) wNil)) (wVar 1))))) noX (ends0 P)
          [some (.ptr p), some (.int many), z1, z2, z3] (updM μ0 p (.lst [.int r, .int m, .int (c + 1), .int n, .lst (cells.map Da.int)])) := by
      intro r m n z1 z2 z3 hr0 hm0 hm1 hn0 hn1
      walk_at "go"
      by_cases hr : 0 < r
      · rw [if_pos (decide_eq_true hr)]
        walk_at "go"
        exact hP (r % many) _ (mod_ok h1).1 (mod_ok h1).2 ⟨r / many, m, c + 1, n, cells, rfl, Int.ediv_nonneg hr0 (by omega), hm0, hm1, hn0, hn1, hc⟩
      · rw [if_neg (by simpa using hr)]
        have g := mod_ok (x := m * 48271 + 7907 * (c + 1) + 11) g0
        walk_at "go"
        exact hP _ _ (mod_ok h1).1 (mod_ok h1).2 ⟨r, _, c + 1, n, cells, rfl, hr0, g.1, g.2, hn0, hn1, hc⟩
    walk_at "go"
    by_cases hr : r = 0
    · rw [if_pos (decide_eq_true hr)]
      walk_at "go"
      rw [List.length_map]
      by_cases hn : n < (cells.length : Int)
      · rw [if_pos (decide_eq_true hn)]
        walk_at "go"
        obtain ⟨k, rfl⟩ : ∃ k : Nat, n = (k : Int) := ⟨n.toNat, by omega⟩
        have hk : k < cells.length := by omega
        have hcell : (cells.map Da.int)[k]? = some (.int cells[k]) := by
          rw [List.getElem?_map, List.getElem?_eq_getElem hk]
          rfl
        show (match atI (cells.map Da.int) (k : Int) with
          | some d => _
          | none => False)
        rw [atI_lit, hcell]
        generalize cells[k] = z
        walk_at "go"
        by_cases hz : (10 : Int) ^ Int.toNat 18 ≤ z
        · rw [if_pos (decide_eq_true hz)]
          have q := fun z1 z2 z3 => back (z - 10 ^ Int.toNat 18) m (k + 1) z1 z2 z3 (by omega) hm0 hm1 (by omega) (by omega)
          repeat first | exact q _ _ _ | walk_at "go1"
        · rw [if_neg (by simpa using hz)]
          have g := mod_ok (x := m * 331 + (5 * z + 3) * ((k : Int) + 1)) g0
          have q := fun z1 z2 z3 => back r _ (k + 1) z1 z2 z3 hr0 g.1 g.2 (by omega) (by omega)
          repeat first | exact q _ _ _ | walk_at "go1"
      · rw [if_neg (by simpa using hn)]
        exact back r m n _ _ _ hr0 hm0 hm1 hn0 hn1
    · rw [if_neg (by simpa using hr)]
      exact back r m n _ _ _ hr0 hm0 hm1 hn0 hn1

end
end K76
set_option Elab.async false
set_option linter.all false
set_option maxRecDepth 100000
set_option maxHeartbeats 4000000
namespace K76
open PySem PySem.Spec PyProof.Rows L2 AL
local macro_rules | `(tactic| walk_at "go1") => `(tactic| first | with_reducible refine t_lenW ?_ | with_reducible refine t_mulW ?_ | with_reducible refine t_addW ?_ | with_reducible refine t_slLoW ?_ | with_reducible refine t_slHiW ?_ | with_reducible refine t_eqW ?_ | (with_reducible refine t_var (by with_unfolding_all exact rfl) ?_) | (with_reducible refine t_ixp (by with_unfolding_all exact rfl) (by decide) (by with_unfolding_all exact rfl) ?_) | (with_reducible refine t_stp (by with_unfolding_all exact rfl) (by decide) (by with_unfolding_all exact Nat.le_of_ble_eq_true rfl) (by with_unfolding_all exact rfl) ?_) | (with_reducible refine t_augp (by with_unfolding_all exact rfl) (by decide) (by with_unfolding_all exact rfl) (by with_unfolding_all exact rfl) ?_) | with_reducible refine t_next ?_ | with_reducible refine t_break ?_ | with_reducible refine t_cont ?_ | with_reducible refine t_seq ?_ | with_reducible refine t_ifs ?_ | with_reducible refine t_drop ?_ | with_reducible refine t_ret ?_ | with_reducible refine t_retN ?_ | with_reducible refine t_asg ?_ | with_reducible refine t_nm ?_ | with_reducible refine t_gtp ?_ | with_reducible refine t_gcons ?_ | with_reducible refine t_gnil ?_ | with_reducible refine t_par ?_ | with_reducible refine t_test ?_ | with_reducible refine t_and ?_ | with_reducible refine t_or ?_ | with_reducible refine t_not ?_ | with_reducible refine t_yes ?_ | with_reducible refine t_andV ?_ | with_reducible refine t_orV ?_ | with_reducible refine t_notV ?_ | with_reducible refine t_if ?_ | with_reducible refine t_isN ?_ | with_reducible refine t_notN ?_ | with_reducible refine t_c ?_ | with_reducible refine t_neg ?_ | with_reducible refine t_nil ?_ | with_reducible refine t_cons ?_ | with_reducible refine t_tup ?_ | with_reducible refine t_lst ?_ | with_reducible refine t_lstM ?_ | with_reducible refine t_cb ?_ | with_reducible refine t_call ?_ | with_reducible refine t_callX ?_ | with_reducible refine t_callSw ?_ | with_reducible refine t_nopart ?_ | with_reducible refine t_part ?_ | with_reducible refine t_sl ?_ | with_reducible refine t_raise ?_ | with_reducible refine t_len1 ?_ | with_reducible refine t_len2 ?_ | with_reducible refine t_tuple1 ?_ | with_reducible refine t_eqI ?_ | with_reducible refine t_addI ?_ | with_reducible refine t_mulI ?_ | with_reducible refine t_aI ?_ | with_reducible refine t_intI ?_ | with_reducible refine t_rng1 ?_ | with_reducible refine t_rng2 ?_ | with_reducible refine t_itT ?_ | with_reducible refine t_itL ?_ | with_reducible refine t_for ?_ | with_reducible refine t_lc ?_ | with_reducible refine t_ift ?_ | with_reducible refine t_iff ?_ | with_reducible refine t_tuple2 ?_ | with_reducible refine t_op ?_ | (refine And.intro (by first | assumption | omega | decide | (exact rfl) | (exact Or.inr (by decide)) | (exact Or.inl (by decide)) | (exact And.intro (by omega) (by omega)) | (exact Or.inl (And.intro (by omega) (by omega))) | (exact Or.inr (And.intro (by omega) (by omega)))) ?_) | dsimp only [wd, aI0, ends0, startA, List.set_cons_zero, List.set_cons_succ, List.map_cons, List.map_nil, List.cons_append, List.nil_append])
local macro_rules | `(tactic| walk_at "go") => `(tactic| repeat walk_at "go1")

/-! ### the law's own defs, going on -/
def Low (k : Int) (w : List Int) : Prop := ∀ x ∈ w, 0 ≤ x ∧ x < k
def sp_word : ASpec := fun ds μ P _ => ∃ (p : Addr) (k most : Int), ds = [.ptr p, .int k, .int most] ∧ 0 < k ∧ k ≤ 1000 ∧ 0 ≤ most ∧ most ≤ 100 ∧ μ p = some (.any PotOk) ∧ ∀ w : List Int, (w.length : Int) ≤ most → Low k w → P (wd w) μ
/-! data that are asked to be the same, to a depth -/
mutual
def Fit : Nat → Da → Prop
  | _, .ptr _ => False
  | _, .exc _ _ _ _ => False
  | _, .scr _ => False
  | 0, _ => False
  | n + 1, .tup l => l.length ≤ 1000 ∧ FitAll n l
  | n + 1, .lst l => l.length ≤ 1000 ∧ FitAll n l
  | _ + 1, .str x => PyData.strOk x = true
  | _ + 1, .non => True
  | _ + 1, .bl _ => True
  | _ + 1, .int _ => True
def FitAll : Nat → List Da → Prop
  | _, [] => True
  | n, d :: l => Fit n d ∧ FitAll n l
end
theorem fit_at {n : Nat} : ∀ {l : List Da} {i : Nat} {d : Da}, FitAll n l → l[i]? = some d → Fit n d
  | [], _, _, _, e => by cases e
  | x :: l, 0, d, h, e => by
    cases e
    exact h.1
  | x :: l, i + 1, d, h, e => fit_at (l := l) h.2 e
theorem ok_str {x : Str} (h : PyData.strOk x = true) : (Da.str x).ok = true := by
  show (true && SeqAt.shaped (.str x)) = true
  rw [Bool.true_and]
  show (PyData.canLay0 (.str x) && decide (PyData.depth (.str x) ≤ 64)) = true
  rw [PyData.canLay0, h, PyData.depth]
  decide
theorem eqv_str (x : Str) : Da.eqv (.str x) (.str x) = true := by
  show PyData.eqv (.str x) (.str x) = true
  rw [PyData.eqv]
  exact beq_self_eq_true _
def sp_same (n : Nat) : ASpec := fun ds μ P _ => ∃ d, ds = [d, d] ∧ Fit n d ∧ P (.bl true) μ
/-- the last letters of an end -/
def lastOf (a w : List Int) (many : Nat) : List Int := (rp (1 + many / a.length) a ++ w).drop (a.length * (1 + many / a.length) + w.length - many)
def sp_last : ASpec := fun ds μ P _ => ∃ (a w : List Int) (many : Nat), ds = [.tup [wd a, wd w], .int (many : Int)] ∧ 0 < a.length ∧ a.length ≤ 100 ∧ w.length ≤ 100 ∧ many ≤ 500 ∧ many ≤ a.length * (1 + many / a.length) + w.length ∧ 2 ≤ 1 + many / a.length ∧ P (wd (lastOf a w many)) μ
def lineOf (a w : List Int) : List Int := (rp (2 + (w.length + 3 * a.length) / a.length) a ++ w).drop (a.length * (2 + (w.length + 3 * a.length) / a.length) + w.length - (w.length + 3 * a.length))
/-- the law's test -/
def okEnd (a w : List Int) (size turn : Nat) : Bool := decide (((lineOf a w).take ((lineOf a w).length - size)).take (((lineOf a w).take ((lineOf a w).length - size)).length - turn) = ((lineOf a w).take ((lineOf a w).length - size)).drop turn)
def FirstEnd (a w : List Int) (size turn : Nat) : Prop := size ≤ w.length ∧ 0 < turn ∧ turn ≤ a.length ∧ okEnd a w size turn = true ∧ (∀ t, 0 < t → t < turn → okEnd a w size t = false) ∧ ∀ s, s < size → ∀ t, 0 < t → t ≤ a.length → okEnd a w s t = false
def sp_lend : ASpec := fun ds μ P _ => ∃ a w : List Int, ds = [wd a, wd w] ∧ 0 < a.length ∧ a.length ≤ 100 ∧ w.length ≤ 100 ∧ okEnd a w w.length a.length = true ∧
  ∀ size turn, FirstEnd a w size turn → P (.tup [wd (((lineOf a w).take ((lineOf a w).length - size)).drop (((lineOf a w).take ((lineOf a w).length - size)).length - turn)), wd ((lineOf a w).drop ((lineOf a w).length - size))]) μ

section
variable {P : Program} {w : World} {K : PySem.W.Frag} {mg : Str → Option Value} {base : Heap} {C_InvalidWord fInit : Addr} {fdInit : FuncData} {tM : Tok}

abbrev s__law_word : Stmt := topS 18
theorem sc__law_word : FnScope ["pot", "k", "most", "at"] ["pot", "k", "most"] (defScope s__law_word) := ⟨rfl, rfl, rfl, by decide +kernel, rfl, by decide +kernel, by decide +kernel⟩
theorem ok__law_word {f : Addr} {fd : FuncData} (F : Fun K "_law_word" "_law_word" s__law_word f fd) (T : Txt P w K mg base C_InvalidWord fInit fdInit tM) {f__law_draw : Addr} {fd__law_draw : FuncData} (c__law_draw : Cl P w K mg base CX0 "_law_draw" 1 ["pot", "many"] sp_draw f__law_draw fd__law_draw)  :
    FnOk P w K mg base CX0 2 f fd ["pot", "k", "most"] (spOf K sp_word) := by
  refine fn0 F sc__law_word (fun ds μ P E h => by obtain ⟨p, k, most, rfl, _⟩ := h; rfl) (fun cdv A outer s H E hr => ?_)
  refine ⟨_, _, (as_one (as_ret (ae_tuple T.tuple (by rfl) (aa_cons (ae_lc rfl sc__law_word.nd (ai_range1 (by rfl) T.range (aa_cons (ae_call c__law_draw.G (hr.mono (by omega)) (by rfl) c__law_draw.g c__law_draw.kp c__law_draw.b pass0 (aa_cons (ae_var 0) (aa_cons (ae_add (ae_var 2) ae_int) aa_nil))) aa_nil)) (blkOk_by (N := ["pot", "k", "most", "at"]) (sc := defScope s__law_word) (by decide +kernel)) (fun _ _ _ _ _ => pg_name (i := 3) sc__law_word.nd rfl (by first | exact Or.inl rfl | exact Or.inr rfl)) (fun _ _ _ _ _ => (ae_call c__law_draw.G (hr.mono (by omega)) (by rfl) c__law_draw.g c__law_draw.kp c__law_draw.b pass0 (aa_cons (ae_var 0) (aa_cons (ae_var 1) aa_nil))))) aa_nil)))), ?sem⟩
  case sem =>
    intro ds μ P EP h
    obtain ⟨p, k, most, rfl, h1, h2, h3, h4, hp, hP⟩ := h
    walk_at "go"
    refine ⟨p, most + 1, rfl, by omega, by omega, hp, fun n hn0 hn1 => ?_⟩
    walk_at "go"
    refine ⟨fun i acc => ∃ w : List Int, acc = w.map Da.int ∧ w.length = i ∧ Low k w, ⟨[], rfl, rfl, fun x hx => by cases hx⟩, ?_, ?_⟩
    · rintro D i d acc hD hd ⟨w, rfl, hw, hl⟩
      obtain ⟨hi, rfl⟩ := upFrom_get hd
      walk_at "go"
      refine ⟨p, k, rfl, h1, h2, mu_keep hp hD, fun z hz0 hz1 => ⟨rfl, ?_, w ++ [z], ?_, ?_, ?_⟩⟩
      · rw [List.length_map]
        omega
      · rw [List.map_append]
        rfl
      · rw [List.length_append, hw]
        rfl
      · intro x hx
        rcases List.mem_append.mp hx with hx | hx
        · exact hl x hx
        · rw [List.mem_singleton.mp hx]
          exact ⟨hz0, hz1⟩
    · rintro acc ⟨w, rfl, hw, hl⟩
      rw [upFrom_len] at hw
      walk_at "go"
      exact hP w (by omega) hl
abbrev s__law_same : Stmt := topS 17
theorem sc__law_same : FnScope ["got", "due", "at"] ["got", "due"] (defScope s__law_same) := ⟨rfl, rfl, rfl, by decide +kernel, rfl, by decide +kernel, by decide +kernel⟩
theorem ok__law_same {f : Addr} {fd : FuncData} (F : Fun K "_law_same" "_law_same" s__law_same f fd) (T : Txt P w K mg base C_InvalidWord fInit fdInit tM)  {n : Nat} (c__law_same : Cl P w K mg base CX0 "_law_same" n ["got", "due"] (sp_same n) f fd) :
    FnOk P w K mg base CX0 (n + 1) f fd ["got", "due"] (spOf K (sp_same (n + 1))) := by
  refine fn0 F sc__law_same (fun ds μ P E h => by obtain ⟨d, rfl, _⟩ := h; rfl) (fun cdv A outer s H E hr => ?_)
  refine ⟨_, _, (as_cons (as_if (at_val (ae_isi2 (U1 := "list") (U2 := "tuple") (by decide +kernel) (by decide +kernel) T.isinstance (by rfl) (by rfl) T.list (by decide +kernel) (by rfl) T.tuple (by decide +kernel) (ae_var 1))) (as_cons (as_if (at_w (aw_or (at_not (at_val (ae_isi2 (U1 := "list") (U2 := "tuple") (by decide +kernel) (by decide +kernel) T.isinstance (by rfl) (by rfl) T.list (by decide +kernel) (by rfl) T.tuple (by decide +kernel) (ae_var 0)))) (aw_or (at_ne hr.units (ae_isi (T := "list") (by decide +kernel) T.isinstance (by rfl) (by rfl) T.list (by decide +kernel) (ae_var 0)) (ae_isi (T := "list") (by decide +kernel) T.isinstance (by rfl) (by rfl) T.list (by decide +kernel) (ae_var 1))) (aw_or1 (at_ne hr.units (ae_len T.len (by rfl) (aa_cons (ae_var 0) aa_nil)) (ae_len T.len (by rfl) (aa_cons (ae_var 1) aa_nil))))))) (as_one (as_ret ae_bl)) as_nil)
      (as_one (as_ret (ae_all rfl T.all (by rfl) (aa_cons (ae_lc rfl sc__law_same.nd (ai_range1 (by rfl) T.range (aa_cons (ae_len T.len (by rfl) (aa_cons (ae_var 1) aa_nil)) aa_nil)) (blkOk_by (N := ["got", "due", "at"]) (sc := defScope s__law_same) (by decide +kernel)) (fun _ _ _ _ _ => pg_name (i := 2) sc__law_same.nd rfl (by first | exact Or.inl rfl | exact Or.inr rfl)) (fun _ _ _ _ _ => (ae_call c__law_same.G (hr.mono (by omega)) (by rfl) c__law_same.g c__law_same.kp c__law_same.b pass0 (aa_cons (ae_ix (ae_var 0) (ae_var 2)) (aa_cons (ae_ix (ae_var 1) (ae_var 2)) aa_nil))))) aa_nil))))) as_nil)
      (as_cons (as_if (at_isN (ae_var 1)) (as_one (as_ret (ae_isN (ae_var 0)))) as_nil)
      (as_cons (as_if (at_val (ae_isi (T := "dict") (by decide +kernel) T.isinstance (by rfl) (by rfl) T.dict (by decide +kernel) (ae_var 1))) (as_one (as_ret (ae_and (ae_isi (T := "dict") (by decide +kernel) T.isinstance (by rfl) (by rfl) T.dict (by decide +kernel) (ae_var 0)) (ae_one (ae_eq hr.units (ae_var 0) (ae_var 1)))))) as_nil)
      (as_cons (as_if (at_val (ae_isi (T := "bool") (by decide +kernel) T.isinstance (by rfl) (by rfl) T.bool (by decide +kernel) (ae_var 1))) (as_one (as_ret (ae_and (ae_isi (T := "bool") (by decide +kernel) T.isinstance (by rfl) (by rfl) T.bool (by decide +kernel) (ae_var 0)) (ae_one (ae_eq hr.units (ae_var 0) (ae_var 1)))))) as_nil)
      (as_cons (as_if (at_val (ae_isi (T := "str") (by decide +kernel) T.isinstance (by rfl) (by rfl) T.str (by decide +kernel) (ae_var 1))) (as_one (as_ret (ae_and (ae_isi (T := "str") (by decide +kernel) T.isinstance (by rfl) (by rfl) T.str (by decide +kernel) (ae_var 0)) (ae_one (ae_eq hr.units (ae_var 0) (ae_var 1)))))) as_nil)
      (as_one (as_ret (ae_and (ae_isi (T := "int") (by decide +kernel) T.isinstance (by rfl) (by rfl) T.int (by decide +kernel) (ae_var 0)) (ae_and (ae_not (ae_isi (T := "bool") (by decide +kernel) T.isinstance (by rfl) (by rfl) T.bool (by decide +kernel) (ae_var 0))) (ae_one (ae_eq hr.units (ae_var 0) (ae_var 1)))))))))))), ?sem⟩
  case sem =>
    intro ds μ P EP h
    obtain ⟨d, rfl, hd, hP⟩ := h
    have loop : ∀ l : List Da, l.length ≤ 1000 → FitAll n l → ∀ i (dd : Da), l[i]? = some dd → Fit n dd := fun l _ h i dd e => fit_at h e
    cases d with
    | ptr _ => cases hd
    | exc _ _ _ _ => cases hd
    | scr _ => cases hd
    | non => exact ⟨trivial, hP⟩
    | bl b =>
      refine ⟨trivial, ⟨trivial, trivial, trivial, ⟨rfl, rfl⟩, ?_⟩⟩
      cases b <;> exact hP
    | int z =>
      refine ⟨trivial, ⟨trivial, trivial, trivial, trivial, trivial, ⟨ok_int _, ok_int _⟩, ?_⟩⟩
      show P (.bl (Da.eqv (.int z) (.int z))) μ
      rw [eqv_int, decide_eq_true rfl]
      exact hP
    | str x =>
      have ho : (Da.str x).ok = true := ok_str hd
      refine ⟨trivial, ⟨trivial, trivial, trivial, trivial, ⟨ho, ho⟩, ?_⟩⟩
      show P (.bl (Da.eqv (.str x) (.str x))) μ
      rw [eqv_str]
      exact hP
    | tup l =>
      obtain ⟨hl, hf⟩ := hd
      refine ⟨trivial, ⟨trivial, trivial, trivial, ⟨rfl, rfl⟩, ⟨ok_int _, ok_int _⟩, ?_⟩⟩
      show (if (!(Da.eqv (.int (l.length : Nat)) (.int (l.length : Nat)))) = true then _ else _)
      rw [eqv_int, decide_eq_true rfl]
      show (if false = true then _ else _)
      walk_at "go"
      refine ⟨fun i acc => acc = List.replicate i (.bl true), rfl, ?_, ?_⟩
      · rintro D i dd acc hD hdd rfl
        obtain ⟨hi, rfl⟩ := upFrom_get hdd
        have hi2 : i < l.length := by omega
        have eI : (0 : Int) + (i : Int) = (i : Int) := by omega
        have hg : l[i]? = some l[i] := List.getElem?_eq_getElem hi2
        have hfit := loop l hl hf i _ hg
        have hx : ∀ (μ : Mu) (P : Da → Mu → Prop), P l[i] μ → aIx (Da.tup l) (.int (0 + (i : Int))) μ P := fun μ P h => by
          rw [eI]
          show (match atI l (i : Int) with
            | some d => P d μ
            | none => False)
          rw [atI_lit, hg]
          exact h
        walk_at "go"
        refine hx _ _ ?_
        walk_at "go"
        refine hx _ _ ?_
        walk_at "go"
        refine ⟨l[i], rfl, hfit, rfl, by rw [List.length_replicate]; omega, ?_⟩
        rw [List.replicate_succ']
      · rintro acc rfl
        refine ⟨List.replicate (upFrom 0 ((l.length : Nat) : Int).toNat).length true, by rw [List.map_replicate], ?_⟩
        have e : ∀ n : Nat, (List.replicate n true).all id = true := fun n => by
          induction n with
          | zero => rfl
          | succ n ih => rw [List.replicate_succ, List.all_cons, ih]; rfl
        rw [e]
        exact hP
    | lst l =>
      obtain ⟨hl, hf⟩ := hd
      refine ⟨trivial, ⟨trivial, trivial, trivial, ⟨rfl, rfl⟩, ⟨ok_int _, ok_int _⟩, ?_⟩⟩
      show (if (!(Da.eqv (.int (l.length : Nat)) (.int (l.length : Nat)))) = true then _ else _)
      rw [eqv_int, decide_eq_true rfl]
      show (if false = true then _ else _)
      walk_at "go"
      refine ⟨fun i acc => acc = List.replicate i (.bl true), rfl, ?_, ?_⟩
      · rintro D i dd acc hD hdd rfl
        obtain ⟨hi, rfl⟩ := upFrom_get hdd
        have hi2 : i < l.length := by omega
        have eI : (0 : Int) + (i : Int) = (i : Int) := by omega
        have hg : l[i]? = some l[i] := List.getElem?_eq_getElem hi2
        have hfit := loop l hl hf i _ hg
        have hx : ∀ (μ : Mu) (P : Da → Mu → Prop), P l[i] μ → aIx (Da.lst l) (.int (0 + (i : Int))) μ P := fun μ P h => by
          rw [eI]
          show (match atI l (i : Int) with
            | some d => P d μ
            | none => False)
          rw [atI_lit, hg]
          exact h
        walk_at "go"
        refine hx _ _ ?_
        walk_at "go"
        refine hx _ _ ?_
        walk_at "go"
        refine ⟨l[i], rfl, hfit, rfl, by rw [List.length_replicate]; omega, ?_⟩
        rw [List.replicate_succ']
      · rintro acc rfl
        refine ⟨List.replicate (upFrom 0 ((l.length : Nat) : Int).toNat).length true, by rw [List.map_replicate], ?_⟩
        have e : ∀ n : Nat, (List.replicate n true).all id = true := fun n => by
          induction n with
          | zero => rfl
          | succ n ih => rw [List.replicate_succ, List.all_cons, ih]; rfl
        rw [e]
        exact hP
abbrev s__law_last : Stmt := topS 20
theorem sc__law_last : FnScope ["end", "many", "again", "word", "line"] ["end", "many"] (defScope s__law_last) := ⟨rfl, rfl, rfl, by decide +kernel, rfl, by decide +kernel, by decide +kernel⟩
theorem ok__law_last {f : Addr} {fd : FuncData} (F : Fun K "_law_last" "_law_last" s__law_last f fd) (T : Txt P w K mg base C_InvalidWord fInit fdInit tM)   :
    FnOk P w K mg base CX0 1 f fd ["end", "many"] (spOf K sp_last) := by
  refine fn0 F sc__law_last (fun ds μ P E h => by obtain ⟨a, w, many, rfl, _⟩ := h; rfl) (fun cdv A outer s H E hr => ?_)
  refine ⟨_, _, (as_cons (as_asg (ae_var 0) (ag_tup rfl (ags_cons (ag_name (i := 2) sc__law_last.nd rfl (by first | exact Or.inl rfl | exact Or.inr rfl)) (ags_cons (ag_name (i := 3) sc__law_last.nd rfl (by first | exact Or.inl rfl | exact Or.inr rfl)) ags_nil))))
      (as_cons (as_set (i := 4) sc__law_last.nd rfl (by first | exact Or.inl rfl | exact Or.inr rfl) (ae_add (ae_mul (ae_var 2) (ae_add ae_int (ae_fdiv (ae_var 1) (ae_len T.len (by rfl) (aa_cons (ae_var 2) aa_nil))))) (ae_var 3)))
      (as_one (as_ret (ae_slice (ae_var 4) (ao_some (ae_sub (ae_len T.len (by rfl) (aa_cons (ae_var 4) aa_nil)) (ae_var 1))) ao_none))))), ?sem⟩
  case sem =>
    intro ds μ P EP h
    obtain ⟨a, w, many, rfl, h1, h2, h3, h4, h5, h6, hP⟩ := h
    dsimp only [wd]
    have g : many / a.length ≤ many := Nat.div_le_self _ _
    have e : (1 + (many : Int) / (a.length : Int)).toNat = 1 + many / a.length := by omega
    walk_at "go"
    rw [e]
    have el : (rp (1 + many / a.length) a).length ≤ 50100 := by
      rw [rp_len]
      exact Nat.le_trans (Nat.mul_le_mul (show 1 + many / a.length ≤ 501 by omega) h2) (by decide)
    have el2 : (rp (1 + many / a.length) a ++ w).length = a.length * (1 + many / a.length) + w.length := by
      rw [List.length_append, rp_len, Nat.mul_comm]
    walk_at "go"
    have e3 : (((rp (1 + many / a.length) a ++ w).length : Int) - (many : Int)).toNat = a.length * (1 + many / a.length) + w.length - many := by
      rw [el2]
      omega
    rw [e3]
    exact hP
abbrev s__law_end : Stmt := topS 19
theorem sc__law_end : FnScope ["again", "word", "many", "line", "size", "ahead", "turn"] ["again", "word"] (defScope s__law_end) := ⟨rfl, rfl, rfl, by decide +kernel, rfl, by decide +kernel, by decide +kernel⟩
theorem ok__law_end {f : Addr} {fd : FuncData} (F : Fun K "_law_end" "_law_end" s__law_end f fd) (T : Txt P w K mg base C_InvalidWord fInit fdInit tM)   :
    FnOk P w K mg base CX0 1 f fd ["again", "word"] (spOf K sp_lend) := by
  refine fn0 F sc__law_end (fun ds μ P E h => by obtain ⟨a, w, rfl, _⟩ := h; rfl) (fun cdv A outer s H E hr => ?_)
  refine ⟨_, _, (as_cons (as_set (i := 2) sc__law_end.nd rfl (by first | exact Or.inl rfl | exact Or.inr rfl) (ae_add (ae_len T.len (by rfl) (aa_cons (ae_var 1) aa_nil)) (ae_mul ae_int (ae_len T.len (by rfl) (aa_cons (ae_var 0) aa_nil)))))
      (as_cons (as_set (i := 3) sc__law_end.nd rfl (by first | exact Or.inl rfl | exact Or.inr rfl) (ae_add (ae_mul (ae_var 0) (ae_add ae_int (ae_fdiv (ae_var 2) (ae_len T.len (by rfl) (aa_cons (ae_var 0) aa_nil))))) (ae_var 1)))
      (as_cons (as_set (i := 3) sc__law_end.nd rfl (by first | exact Or.inl rfl | exact Or.inr rfl) (ae_slice (ae_var 3) (ao_some (ae_sub (ae_len T.len (by rfl) (aa_cons (ae_var 3) aa_nil)) (ae_var 2))) ao_none))
      (as_cons (as_for PassesOwn.never rfl (ai_range1 (by rfl) T.range (aa_cons (ae_add (ae_len T.len (by rfl) (aa_cons (ae_var 1) aa_nil)) ae_int) aa_nil)) (ag_name (i := 4) sc__law_end.nd rfl (by first | exact Or.inl rfl | exact Or.inr rfl)) (as_cons (as_set (i := 5) sc__law_end.nd rfl (by first | exact Or.inl rfl | exact Or.inr rfl) (ae_slice (ae_var 3) ao_none (ao_some (ae_sub (ae_len T.len (by rfl) (aa_cons (ae_var 3) aa_nil)) (ae_var 4)))))
      (as_one (as_for PassesOwn.never rfl (ai_range2 (by rfl) T.range (aa_cons ae_int (aa_cons (ae_add (ae_len T.len (by rfl) (aa_cons (ae_var 0) aa_nil)) ae_int) aa_nil))) (ag_name (i := 6) sc__law_end.nd rfl (by first | exact Or.inl rfl | exact Or.inr rfl)) (as_one (as_if (at_eq hr.units (ae_slice (ae_var 5) ao_none (ao_some (ae_sub (ae_len T.len (by rfl) (aa_cons (ae_var 5) aa_nil)) (ae_var 6)))) (ae_slice (ae_var 5) (ao_some (ae_var 6)) ao_none)) (as_one (as_ret (ae_tup (aa_cons (ae_slice (ae_var 5) (ao_some (ae_sub (ae_len T.len (by rfl) (aa_cons (ae_var 5) aa_nil)) (ae_var 6))) ao_none) (aa_cons (ae_slice (ae_var 3) (ao_some (ae_sub (ae_len T.len (by rfl) (aa_cons (ae_var 3) aa_nil)) (ae_var 4))) ao_none) aa_nil))))) as_nil))))))
      (as_one (as_ret (ae_tup (aa_cons (ae_var 0) (aa_cons (ae_var 1) aa_nil))))))))), ?sem⟩
  case sem =>
    intro ds μ P EP h
    obtain ⟨a, w, rfl, h1, h2, h3, h4, hP⟩ := h
    dsimp only [wd]
    obtain ⟨N, hN⟩ : ∃ N, N = w.length + 3 * a.length := ⟨_, rfl⟩
    have eN : (w.length : Int) + 3 * (a.length : Int) = (N : Int) := by omega
    have g : N / a.length ≤ N := Nat.div_le_self _ _
    have g3 : (0 : Int) ≤ (N : Int) / (a.length : Int) := Int.ediv_nonneg (by omega) (by omega)
    have e : (2 + (N : Int) / (a.length : Int)).toNat = 2 + N / a.length := by omega
    have el : (rp (2 + N / a.length) a).length ≤ 50200 := by
      rw [rp_len]
      exact Nat.le_trans (Nat.mul_le_mul (show 2 + N / a.length ≤ 502 by omega) h2) (by decide)
    have el2 : (rp (2 + N / a.length) a ++ w).length = a.length * (2 + N / a.length) + w.length := by
      rw [List.length_append, rp_len, Nat.mul_comm]
    have hbig : N ≤ a.length * (2 + N / a.length) + w.length := by
      have := Nat.div_add_mod N a.length
      have := Nat.mod_lt N h1
      rw [Nat.mul_add]
      omega
    walk_at "go"
    rw [eN]
    walk_at "go"
    rw [e]
    walk_at "go"
    have e3 : (((rp (2 + N / a.length) a ++ w).length : Int) - (N : Int)).toNat = a.length * (2 + N / a.length) + w.length - N := by
      rw [el2]
      omega
    have hline : lineOf a w = (rp (2 + N / a.length) a ++ w).drop (a.length * (2 + N / a.length) + w.length - N) := by
      unfold lineOf
      rw [hN]
    have lline : (lineOf a w).length = N := by
      rw [hline, List.length_drop, el2]
      omega
    rw [e3, ← hline]
    refine ⟨fun i ρ' μ' => μ' = μ ∧ (∃ x4 x5 x6, ρ' = [some (wd a), some (wd w), some (.int (N : Int)), some (wd (lineOf a w)), x4, x5, x6]) ∧ ∀ s, s < i → ∀ t, 0 < t → t ≤ a.length → okEnd a w s t = false, ⟨rfl, ⟨_, _, _, rfl⟩, fun s hs => by omega⟩, ?_, ?_⟩
    · rintro i d ρ' μ' hd ⟨rfl, ⟨x4, x5, x6, rfl⟩, hI⟩
      obtain ⟨hi, rfl⟩ := upFrom_get hd
      dsimp only [wd]
      have hi2 : i ≤ w.length := by omega
      walk_at "go"
      have e4 : (((lineOf a w).length : Int) - (0 + (i : Int))).toNat = (lineOf a w).length - i := by omega
      rw [e4]
      obtain ⟨ahead, hahead⟩ : ∃ ahead, ahead = (lineOf a w).take ((lineOf a w).length - i) := ⟨_, rfl⟩
      have lahead : ahead.length = N - i := by
        rw [hahead, List.length_take, lline]
        omega
      rw [← hahead]
      refine ⟨fun j ρ' μ'' => μ'' = μ' ∧ (∃ x6, ρ' = [some (wd a), some (wd w), some (.int (N : Int)), some (wd (lineOf a w)), some (.int (0 + (i : Int))), some (wd ahead), x6]) ∧ ∀ t, 0 < t → t < 1 + j → okEnd a w i t = false, ⟨rfl, ⟨_, rfl⟩, fun t h1 h2 => by omega⟩, ?_, ?_⟩
      · rintro j d ρ' μ'' hd2 ⟨rfl, ⟨x6, rfl⟩, hJ⟩
        obtain ⟨hj, rfl⟩ := upFrom_get hd2
        have hj2 : 1 + j ≤ a.length := by omega
        dsimp only [wd]
        walk_at "go"
        have e5 : ((ahead.length : Int) - (1 + (j : Int))).toNat = ahead.length - (1 + j) := by omega
        have e6 : (1 + (j : Int)).toNat = 1 + j := by omega
        rw [e5, e6]
        have hok : okEnd a w i (1 + j) = decide (ahead.take (ahead.length - (1 + j)) = ahead.drop (1 + j)) := by
          unfold okEnd
          rw [← hahead]
        cases hc : decide (ahead.take (ahead.length - (1 + j)) = ahead.drop (1 + j)) with
        | true =>
          walk_at "go"
          rw [e4, e5]
          rw [hahead]
          exact ⟨Nat.le_of_ble_eq_true rfl, hP i (1 + j) ⟨hi2, by omega, hj2, hok.trans hc, fun t ht1 ht2 => hJ t ht1 ht2, hI⟩⟩
        | false =>
          walk_at "go"
          refine ⟨⟨_, rfl⟩, fun t ht1 ht2 => ?_⟩
          by_cases ht : t = 1 + j
          · rw [ht]
            exact hok.trans hc
          · exact hJ t ht1 (by omega)
      · rintro ρ' μ'' ⟨rfl, ⟨x6, rfl⟩, hJ⟩
        rw [upFrom_len] at hJ
        refine ⟨rfl, ⟨_, _, _, rfl⟩, fun s hs t ht1 ht2 => ?_⟩
        by_cases hsi : s = i
        · rw [hsi]
          exact hJ t ht1 (by omega)
        · exact hI s (by omega) t ht1 ht2
    · rintro ρ' μ' ⟨rfl, ⟨x4, x5, x6, rfl⟩, hI⟩
      rw [upFrom_len] at hI
      have q := hI w.length (by omega) a.length h1 (Nat.le_refl _)
      rw [h4] at q
      cases q

end
end K76
set_option Elab.async false
set_option linter.all false
set_option maxRecDepth 100000
set_option maxHeartbeats 4000000
namespace K76
/-! ### ends without end, read from the right -/
def E (a w : List Int) (n : Nat) : Option Int := if n < w.length then w.reverse[n]? else a.reverse[(n - w.length) % a.length]?
variable {a w c v : List Int}
theorem E_lo {n : Nat} (h : n < w.length) : E a w n = w.reverse[n]? := if_pos h
theorem E_hi {n : Nat} (h : n < a.length) : E a w (w.length + n) = a.reverse[n]? := by
  unfold E
  rw [if_neg (by omega), Nat.add_sub_cancel_left, Nat.mod_eq_of_lt h]
theorem E_per {n : Nat} (h : w.length ≤ n) : E a w (n + a.length) = E a w n := by
  unfold E
  rw [if_neg (by omega), if_neg (by omega)]
  have e : n + a.length - w.length = n - w.length + a.length := by omega
  rw [e, Nat.add_mod_right]
theorem E_ext {f : Nat → Option Int} (h0 : 0 < a.length) (h1 : ∀ n, n < w.length → f n = w.reverse[n]?) (h2 : ∀ n, n < a.length → f (w.length + n) = a.reverse[n]?) (h3 : ∀ n, w.length ≤ n → f (n + a.length) = f n) : ∀ n, E a w n = f n := by
  intro n
  induction n using Nat.strongRecOn with
  | _ n ih =>
    by_cases c1 : n < w.length
    · rw [E_lo c1, h1 n c1]
    · by_cases c2 : n < w.length + a.length
      · have e : n = w.length + (n - w.length) := by omega
        rw [e, E_hi (by omega), h2 _ (by omega)]
      · have e : n = (n - a.length) + a.length := by omega
        rw [e, E_per (by omega), h3 _ (by omega)]
        exact ih _ (by omega)
theorem E_some {n : Nat} (h0 : 0 < a.length) : ∃ x, E a w n = some x := by
  unfold E
  by_cases c : n < w.length
  · rw [if_pos c]
    exact ⟨_, List.getElem?_eq_getElem (by rw [List.length_reverse]; exact c)⟩
  · rw [if_neg c]
    exact ⟨_, List.getElem?_eq_getElem (by rw [List.length_reverse]; exact Nat.mod_lt _ h0)⟩
/-- the written line -/
theorem line_get (k : Nat) : ∀ n, n < k * a.length + w.length → (rp k a ++ w).reverse[n]? = E a w n := by
  induction k with
  | zero =>
    intro n h
    rw [E_lo (by omega)]
    rfl
  | succ k ih =>
    intro n h
    have e : rp (k + 1) a ++ w = a ++ (rp k a ++ w) := by
      unfold rp
      rw [List.replicate_succ, List.flatten_cons, List.append_assoc]
    have el : (rp k a ++ w).reverse.length = k * a.length + w.length := by rw [List.length_reverse, List.length_append, rp_len]
    rw [e, List.reverse_append]
    by_cases c1 : n < k * a.length + w.length
    · rw [List.getElem?_append_left (by omega), ih n c1]
    · rw [List.getElem?_append_right (by omega), el]
      unfold E
      rw [if_neg (by omega)]
      have e2 : n - w.length = a.length * k + (n - (k * a.length + w.length)) := by
        rw [Nat.mul_comm a.length k]
        omega
      rw [e2, Nat.mul_add_mod, Nat.mod_eq_of_lt (by rw [Nat.succ_mul] at h; omega)]
/-- the same end -/
def Same (a w c v : List Int) : Prop := ∀ n, E a w n = E c v n
theorem rev_ext {l m : List Int} (h : ∀ n : Nat, l.reverse[n]? = m.reverse[n]?) : l = m := by
  have := List.ext_getElem? h
  have h2 := congrArg List.reverse this
  rwa [List.reverse_reverse, List.reverse_reverse] at h2
/-- the end goes on with the turn t from s -/
def Per (f : Nat → Option Int) (s t : Nat) : Prop := ∀ n, s ≤ n → f (n + t) = f n
theorem Per.mul {f : Nat → Option Int} {s t : Nat} (h : Per f s t) (k : Nat) : Per f s (k * t) := by
  induction k with
  | zero => intro n _; rw [Nat.zero_mul]; rfl
  | succ k ih =>
    intro n hn
    rw [Nat.succ_mul, ← Nat.add_assoc, h _ (by omega), ih n hn]
theorem Per.up {f : Nat → Option Int} {s s2 t : Nat} (h : Per f s t) (hs : s ≤ s2) : Per f s2 t := fun n hn => h n (by omega)
/-- a turn further out is a turn from where another begins -/
theorem Per.down {f : Nat → Option Int} {s s2 t p : Nat} (h : Per f s2 t) (hp : Per f s p) (h0 : 0 < p) : Per f s t := by
  intro n hn
  have q := hp.mul s2
  have hb : s2 ≤ s2 * p := Nat.le_mul_of_pos_right s2 h0
  rw [← q (n + t) (by omega), ← q n hn]
  have e : n + t + s2 * p = n + s2 * p + t := by omega
  rw [e]
  exact h _ (by omega)
theorem bez (p : Nat) : ∀ q, 0 < p → 0 < q → ∃ x y, Nat.gcd p q + y * q = x * p := by
  induction p using Nat.strongRecOn with
  | _ p ih =>
    intro q hp hq
    by_cases c : q % p = 0
    · refine ⟨1, 0, ?_⟩
      have : p ∣ q := Nat.dvd_of_mod_eq_zero c
      rw [Nat.gcd_eq_left this]
      omega
    · -- gcd p q = gcd (q % p) p
      obtain ⟨x, y, e⟩ := ih (q % p) (Nat.mod_lt _ hp) p (Nat.pos_of_ne_zero c) hp
      -- gcd + y * p = x * (q % p) = x * q - x * (q / p) * p
      rw [← Nat.gcd_rec] at e
      have e2 : x * q = x * (q % p) + x * (q / p) * p := by
        have := Nat.div_add_mod q p
        calc x * q = x * (p * (q / p) + q % p) := by rw [this]
          _ = x * (q % p) + x * (q / p) * p := by rw [Nat.mul_add, Nat.mul_comm p, ← Nat.mul_assoc]; omega
      -- gcd + (y + x*(q/p)) * p = x * q; turn round: gcd + (k*p - x) * q = (k*q - (y + ..)) * p, k great
      have e3 : Nat.gcd p q + (y + x * (q / p)) * p = x * q := by
        rw [e2, ← e, Nat.add_mul]
        omega
      obtain ⟨z, hz⟩ : ∃ z, z = y + x * (q / p) := ⟨_, rfl⟩
      rw [← hz] at e3
      -- choose k = x + z
      refine ⟨(x + z) * q - z, (x + z) * p - x, ?_⟩
      have h1 : x ≤ (x + z) * p := Nat.le_trans (Nat.le_add_right x z) (Nat.le_mul_of_pos_right _ hp)
      have h2 : z ≤ (x + z) * q := Nat.le_trans (Nat.le_add_left z x) (Nat.le_mul_of_pos_right _ hq)
      rw [Nat.sub_mul, Nat.sub_mul]
      have h3 : x * q ≤ (x + z) * p * q := Nat.mul_le_mul_right _ h1
      have h4 : z * p ≤ (x + z) * q * p := Nat.mul_le_mul_right _ h2
      have h5 : (x + z) * p * q = (x + z) * q * p := by rw [Nat.mul_assoc, Nat.mul_comm p q, ← Nat.mul_assoc]
      omega
theorem Per.gcd {f : Nat → Option Int} {s p q : Nat} (hp : Per f s p) (hq : Per f s q) (h0 : 0 < p) (h1 : 0 < q) : Per f s (Nat.gcd p q) := by
  intro n hn
  obtain ⟨x, y, e⟩ := bez p q h0 h1
  rw [← hq.mul y (n + Nat.gcd p q) (by omega)]
  have e2 : n + Nat.gcd p q + y * q = n + x * p := by omega
  rw [e2, hp.mul x n hn]
/-- a turn of the whole word, in the word -/
theorem ltOk_per {t : Nat} (h0 : 0 < t) (ht : t ≤ a.length) : ltOk a t = true ↔ (a.length % t = 0 ∧ Per (E a w) w.length t) := by
  have split : ltOk a t = true ↔ (a.length % t = 0 ∧ a = rp (a.length / t) (a.take t)) := by
    unfold ltOk
    rw [Bool.and_eq_true_iff, decide_eq_true_iff, decide_eq_true_iff]
  rw [split]
  have lt : (a.take t).length = t := by rw [List.length_take]; omega
  constructor
  · rintro ⟨hm, he⟩
    refine ⟨hm, ?_⟩
    have hx : ∀ n, E a w n = E (a.take t) w n := by
      refine E_ext (by omega) (fun n hn => E_lo hn) (fun n hn => ?_) (fun n hn => ?_)
      · have q := line_get (a := a.take t) (w := w) (a.length / t) (w.length + n) (by
          rw [lt]
          have := Nat.div_add_mod a.length t
          rw [hm, Nat.mul_comm] at this
          omega)
        rw [← he] at q
        rw [← q, List.reverse_append, List.getElem?_append_right (by rw [List.length_reverse]; omega), List.length_reverse, Nat.add_sub_cancel_left]
      · have q := Per.mul (f := E (a.take t) w) (s := w.length) (t := t) (fun n hn => by have := E_per (a := a.take t) hn; rwa [lt] at this) (a.length / t)
        have e : a.length / t * t = a.length := by
          have := Nat.div_add_mod a.length t
          rw [hm, Nat.mul_comm] at this
          omega
        rw [e] at q
        exact q n hn
    intro n hn
    rw [hx, hx]
    have := E_per (a := a.take t) hn
    rwa [lt] at this
  · rintro ⟨hm, hp⟩
    refine ⟨hm, ?_⟩
    have e : a.length / t * t = a.length := by
      have := Nat.div_add_mod a.length t
      rw [hm, Nat.mul_comm] at this
      omega
    have hx : ∀ n, E (a.take t) [] n = E a w (w.length + n) := by
      refine E_ext (by omega) (fun n hn => by cases hn) (fun n hn => ?_) (fun n hn => ?_)
      · rw [lt] at hn
        rw [List.reverse_take, List.getElem?_drop, ← E_hi (a := a) (w := w) (n := a.length - t + n) (by omega)]
        have e1 : (a.length / t - 1) * t = a.length - t := by rw [Nat.sub_mul, e, Nat.one_mul]
        have q := hp.mul (a.length / t - 1) (w.length + n) (by omega)
        rw [e1] at q
        have e2 : w.length + n + (a.length - t) = w.length + (a.length - t + n) := by omega
        rw [e2] at q
        rw [q]
        show E a w (w.length + (0 + n)) = _
        rw [Nat.zero_add]
      · rw [lt, ← Nat.add_assoc]
        exact hp _ (by omega)
    refine rev_ext fun n => ?_
    by_cases hn : n < a.length
    · have q := line_get (a := a.take t) (w := []) (a.length / t) n (by rw [lt, e]; exact hn)
      rw [List.append_nil] at q
      rw [q, hx, E_hi hn]
    · rw [List.getElem?_eq_none (by rw [List.length_reverse]; omega), List.getElem?_eq_none (by rw [List.length_reverse, rp_len, lt, e]; omega)]
/-- of no lesser turn -/
def Prim (c : List Int) : Prop := 0 < c.length ∧ ∀ t, 0 < t → t < c.length → ltOk c t = false
def Red (c v : List Int) : Prop := Prim c ∧ ∀ x v', v = x :: v' → c.head? ≠ some x
theorem take_same {s : Nat} (h : LT a s) (w : List Int) : Same (a.take s) w a w ∧ Prim (a.take s) := by
  obtain ⟨h0, h1, h2, h3⟩ := h
  have lt : (a.take s).length = s := by rw [List.length_take]; omega
  have hs : Same (a.take s) w a w := by
    obtain ⟨hm, hp⟩ := (ltOk_per (w := w) h0 h1).mp h2
    refine E_ext (by omega) (fun n hn => E_lo hn) (fun n hn => ?_) (fun n hn => ?_)
    · have e : a.length / s * s = a.length := by
        have := Nat.div_add_mod a.length s
        rw [hm, Nat.mul_comm] at this
        omega
      rw [lt] at hn
      rw [List.reverse_take, List.getElem?_drop, ← E_hi (a := a) (w := w) (n := a.length - s + n) (by omega)]
      have e1 : (a.length / s - 1) * s = a.length - s := by rw [Nat.sub_mul, e, Nat.one_mul]
      have q := hp.mul (a.length / s - 1) (w.length + n) (by omega)
      rw [e1] at q
      have e2 : w.length + n + (a.length - s) = w.length + (a.length - s + n) := by omega
      rw [e2] at q
      exact q.symm
    · rw [lt]
      exact hp n hn
  refine ⟨hs, by omega, fun t ht1 ht2 => ?_⟩
  cases hc : ltOk (a.take s) t with
  | false => rfl
  | true =>
    rw [lt] at ht2
    obtain ⟨hm, hp⟩ := (ltOk_per (w := w) ht1 (by omega)).mp hc
    have hm2 := ((ltOk_per (w := w) h0 h1).mp h2).1
    have hp2 : Per (E a w) w.length t := fun n hn => by rw [← hs, ← hs]; exact hp n hn
    have hmod : a.length % t = 0 := by
      rw [lt] at hm
      exact Nat.mod_eq_zero_of_dvd (Nat.dvd_trans (Nat.dvd_of_mod_eq_zero hm) (Nat.dvd_of_mod_eq_zero hm2))
    have := (ltOk_per (w := w) ht1 (by omega)).mpr ⟨hmod, hp2⟩
    rw [h3 t ht1 ht2] at this
    cases this
theorem step_same (x : Int) (t w : List Int) : Same (t ++ [x]) w (x :: t) (x :: w) := by
  have h0 : E (x :: t) (x :: w) w.length = some x := by
    rw [E_lo (by rw [List.length_cons]; omega), List.reverse_cons, List.getElem?_append_right (by rw [List.length_reverse]; omega), List.length_reverse, Nat.sub_self]
    rfl
  refine E_ext (by rw [List.length_append]; exact Nat.succ_pos _) (fun n hn => ?_) (fun n hn => ?_) (fun n hn => ?_)
  · rw [E_lo (by rw [List.length_cons]; omega), List.reverse_cons, List.getElem?_append_left (by rw [List.length_reverse]; omega)]
  · rw [List.length_append, List.length_singleton] at hn
    rw [List.reverse_append]
    cases n with
    | zero => exact h0
    | succ m =>
      have e : w.length + (m + 1) = (x :: w).length + m := by rw [List.length_cons]; omega
      rw [e, E_hi (by rw [List.length_cons]; omega), List.reverse_cons, List.getElem?_append_left (by rw [List.length_reverse]; omega)]
      rfl
  · have el : (t ++ [x]).length = (x :: t).length := by rw [List.length_append]; rfl
    rw [el]
    by_cases c : n = w.length
    · rw [c, h0]
      have e : w.length + (x :: t).length = (x :: w).length + t.length := by rw [List.length_cons, List.length_cons]; omega
      rw [e, E_hi (by rw [List.length_cons]; omega), List.reverse_cons, List.getElem?_append_right (by rw [List.length_reverse]; omega), List.length_reverse, Nat.sub_self]
      rfl
    · exact E_per (by rw [List.length_cons]; omega)
theorem Prim.of_per (h0 : 0 < c.length) (h : ∀ t, 0 < t → t < c.length → c.length % t = 0 → ¬ Per (E c w) w.length t) : Prim c := by
  refine ⟨h0, fun t h1 h2 => ?_⟩
  cases hc : ltOk c t with
  | false => rfl
  | true =>
    obtain ⟨a1, a2⟩ := (ltOk_per (w := w) h1 (by omega)).mp hc
    exact (h t h1 h2 a1 a2).elim
theorem Prim.per (h : Prim c) {t : Nat} (h1 : 0 < t) (h2 : t < c.length) (h3 : c.length % t = 0) : ¬ Per (E c w) w.length t := by
  intro q
  have := (ltOk_per (w := w) h1 (by omega)).mpr ⟨h3, q⟩
  rw [h.2 t h1 h2] at this
  cases this
theorem step_prim {x : Int} {t : List Int} (h : Prim (x :: t)) : Prim (t ++ [x]) := by
  have el : (t ++ [x]).length = (x :: t).length := by rw [List.length_append]; rfl
  refine Prim.of_per (w := []) (by rw [el]; exact h.1) fun p h1 h2 h3 q => ?_
  rw [el] at h2 h3
  have hs := step_same x t []
  refine h.per (w := [x]) h1 h2 h3 fun n hn => ?_
  rw [← hs, ← hs]
  exact q n (by show 0 ≤ n; omega)
theorem strip_red : ∀ (w a : List Int), Prim a → Red (strip a w).1 (strip a w).2 ∧ Same (strip a w).1 (strip a w).2 a w
  | [], a, h => ⟨⟨h, fun x v' e => by cases e⟩, fun n => rfl⟩
  | x :: w, a, h => by
    show Red (if a.head? = some x then strip (a.tail ++ [x]) w else (a, x :: w)).1 (if a.head? = some x then strip (a.tail ++ [x]) w else (a, x :: w)).2 ∧ Same (if a.head? = some x then strip (a.tail ++ [x]) w else (a, x :: w)).1 (if a.head? = some x then strip (a.tail ++ [x]) w else (a, x :: w)).2 a (x :: w)
    by_cases c : a.head? = some x
    · rw [if_pos c]
      cases a with
      | nil => cases c
      | cons y t =>
        have e : y = x := Option.some.inj c
        subst e
        obtain ⟨r1, r2⟩ := strip_red w (t ++ [y]) (step_prim h)
        exact ⟨r1, fun n => (r2 n).trans (step_same y t w n)⟩
    · rw [if_neg c]
      exact ⟨⟨h, fun y v' e => by cases e; exact c⟩, fun n => rfl⟩
theorem red_len {c v d u : List Int} (h : Red c v) (h' : Red d u) (hs : Same c v d u) (hl : v.length ≤ u.length) : c.length = d.length ∧ v.length = u.length := by
  have pc : Per (E c v) v.length c.length := fun n hn => E_per hn
  have pd : Per (E d u) u.length d.length := fun n hn => E_per hn
  have pd' : Per (E c v) u.length d.length := fun n hn => by rw [hs, hs]; exact pd n hn
  have g := (pc.up hl).gcd pd' h.1.1 h'.1.1
  have gpos : 0 < Nat.gcd c.length d.length := Nat.gcd_pos_of_pos_left _ h.1.1
  have gc : Nat.gcd c.length d.length ∣ c.length := Nat.gcd_dvd_left _ _
  have gd : Nat.gcd c.length d.length ∣ d.length := Nat.gcd_dvd_right _ _
  have lc := Nat.le_of_dvd h.1.1 gc
  have ld := Nat.le_of_dvd h'.1.1 gd
  have e1 : Nat.gcd c.length d.length = c.length := by
    apply Classical.byContradiction
    intro ne
    exact h.1.per (w := v) gpos (by omega) (Nat.mod_eq_zero_of_dvd gc) (g.down pc h.1.1)
  have e2 : Nat.gcd c.length d.length = d.length := by
    apply Classical.byContradiction
    intro ne
    refine h'.1.per (w := u) gpos (by omega) (Nat.mod_eq_zero_of_dvd gd) fun n hn => ?_
    rw [← hs, ← hs]
    exact g n hn
  have el : c.length = d.length := e1.symm.trans e2
  refine ⟨el, ?_⟩
  apply Classical.byContradiction
  intro ne
  -- the word of the second begins with a letter that its turn begins with
  cases u with
  | nil => rw [List.length_nil] at hl ne; omega
  | cons x u' =>
    have q := pc u'.length (by rw [List.length_cons] at hl ne; omega)
    rw [hs, hs, el] at q
    have hx : E d (x :: u') u'.length = some x := by
      rw [E_lo (by rw [List.length_cons]; omega), List.reverse_cons, List.getElem?_append_right (by rw [List.length_reverse]; omega), List.length_reverse, Nat.sub_self]
      rfl
    rw [hx] at q
    cases d with
    | nil => exact absurd h'.1.1 (by simp)
    | cons y d' =>
      have e : u'.length + (y :: d').length = (x :: u').length + d'.length := by rw [List.length_cons, List.length_cons]; omega
      rw [e, E_hi (by rw [List.length_cons]; omega), List.reverse_cons, List.getElem?_append_right (by rw [List.length_reverse]; omega), List.length_reverse, Nat.sub_self] at q
      exact h'.2 x u' rfl q
theorem same_eq {c v d u : List Int} (h0 : c.length = d.length) (h1 : v.length = u.length) (hs : Same c v d u) : c = d ∧ v = u := by
  refine ⟨rev_ext fun n => ?_, rev_ext fun n => ?_⟩
  · by_cases hn : n < c.length
    · rw [← E_hi (w := v) hn, hs, h1, E_hi (by omega)]
    · rw [List.getElem?_eq_none (by rw [List.length_reverse]; omega), List.getElem?_eq_none (by rw [List.length_reverse]; omega)]
  · by_cases hn : n < v.length
    · rw [← E_lo (a := c) hn, hs, E_lo (by omega)]
    · rw [List.getElem?_eq_none (by rw [List.length_reverse]; omega), List.getElem?_eq_none (by rw [List.length_reverse]; omega)]
theorem Same.symm {c v d u : List Int} (h : Same c v d u) : Same d u c v := fun n => (h n).symm
theorem Same.trans {c v d u e t : List Int} (h : Same c v d u) (h2 : Same d u e t) : Same c v e t := fun n => (h n).trans (h2 n)
theorem red_one {c v d u : List Int} (h : Red c v) (h' : Red d u) (hs : Same c v d u) : c = d ∧ v = u := by
  by_cases hl : v.length ≤ u.length
  · obtain ⟨a1, a2⟩ := red_len h h' hs hl
    exact same_eq a1 a2 hs
  · obtain ⟨a1, a2⟩ := red_len h' h hs.symm (by omega)
    exact same_eq a1.symm a2.symm hs
/-! ### the windows of the law -/
theorem win_len {k m : Nat} (h : m ≤ a.length * k + w.length) : ((rp k a ++ w).drop (a.length * k + w.length - m)).length = m := by
  rw [List.length_drop, List.length_append, rp_len, Nat.mul_comm k]
  omega
theorem win_get {k m n : Nat} (h : m ≤ a.length * k + w.length) (hn : n < m) : ((rp k a ++ w).drop (a.length * k + w.length - m)).reverse[n]? = E a w n := by
  have el : (rp k a ++ w).length = a.length * k + w.length := by rw [List.length_append, rp_len, Nat.mul_comm]
  rw [List.reverse_drop, el, List.getElem?_take_of_lt (by omega)]
  exact line_get k n (by rw [Nat.mul_comm k]; omega)
theorem line_room (h0 : 0 < a.length) : w.length + 3 * a.length ≤ a.length * (2 + (w.length + 3 * a.length) / a.length) + w.length := by
  have := Nat.div_add_mod (w.length + 3 * a.length) a.length
  have := Nat.mod_lt (w.length + 3 * a.length) h0
  rw [Nat.mul_add]
  omega
theorem line_len (h0 : 0 < a.length) : (lineOf a w).length = w.length + 3 * a.length := win_len (line_room h0)
theorem line_E (h0 : 0 < a.length) {n : Nat} (hn : n < w.length + 3 * a.length) : (lineOf a w).reverse[n]? = E a w n := win_get (line_room h0) hn
def ahead (a w : List Int) (s : Nat) : List Int := (lineOf a w).take ((lineOf a w).length - s)
theorem ahead_len (h0 : 0 < a.length) {s : Nat} (hs : s ≤ w.length) : (ahead a w s).length = w.length + 3 * a.length - s := by
  unfold ahead
  rw [List.length_take, line_len h0]
  omega
theorem ahead_E (h0 : 0 < a.length) {s n : Nat} (hs : s ≤ w.length) (hn : s + n < w.length + 3 * a.length) : (ahead a w s).reverse[n]? = E a w (s + n) := by
  unfold ahead
  have e : (lineOf a w).length - ((lineOf a w).length - s) = s := by rw [line_len h0]; omega
  rw [List.reverse_take, e, List.getElem?_drop]
  exact line_E h0 hn
theorem okEnd_per (h0 : 0 < a.length) {s t : Nat} (hs : s ≤ w.length) (h1 : 0 < t) (ht : t ≤ a.length) : okEnd a w s t = true ↔ Per (E a w) s t := by
  have e : okEnd a w s t = true ↔ (ahead a w s).take ((ahead a w s).length - t) = (ahead a w s).drop t := by
    unfold okEnd ahead
    exact decide_eq_true_iff
  rw [e]
  have al := ahead_len h0 hs
  have r1 : ((ahead a w s).take ((ahead a w s).length - t)).reverse = (ahead a w s).reverse.drop t := by
    rw [List.reverse_take]
    congr 1
    omega
  have r2 : ((ahead a w s).drop t).reverse = (ahead a w s).reverse.take ((ahead a w s).length - t) := List.reverse_drop
  constructor
  · intro h
    have h2 := congrArg List.reverse h
    rw [r1, r2] at h2
    have near : ∀ n, s ≤ n → n + t < w.length + 3 * a.length → E a w (n + t) = E a w n := by
      intro n hn hb
      have q := congrArg (fun l => l[n - s]?) h2
      rw [List.getElem?_drop, List.getElem?_take_of_lt (by omega), ahead_E h0 hs (by omega), ahead_E h0 hs (by omega)] at q
      have e1 : s + (t + (n - s)) = n + t := by omega
      have e2 : s + (n - s) = n := by omega
      rw [e1, e2] at q
      exact q
    intro n
    induction n using Nat.strongRecOn with
    | _ n ih =>
      intro hn
      by_cases hb : n + t < w.length + 3 * a.length
      · exact near n hn hb
      · have e1 : n = n - a.length + a.length := by omega
        have e2 : n + t = n - a.length + t + a.length := by omega
        have q := ih (n - a.length) (by omega) (by omega)
        have p1 := E_per (a := a) (w := w) (n := n - a.length + t) (by omega)
        have p2 := E_per (a := a) (w := w) (n := n - a.length) (by omega)
        rw [← e2] at p1
        rw [← e1] at p2
        rw [p1, p2, q]
  · intro h
    refine rev_ext fun n => ?_
    rw [r1, r2, List.getElem?_drop]
    by_cases hb : n < (ahead a w s).length - t
    · rw [List.getElem?_take_of_lt hb, ahead_E h0 hs (by omega), ahead_E h0 hs (by omega)]
      have e1 : s + (t + n) = s + n + t := by omega
      rw [e1]
      exact h _ (by omega)
    · rw [List.getElem?_eq_none (by rw [List.length_reverse]; omega), List.getElem?_eq_none (by rw [List.length_take]; omega)]
theorem okEnd_whole (h0 : 0 < a.length) : okEnd a w w.length a.length = true := (okEnd_per h0 (Nat.le_refl _) h0 (Nat.le_refl _)).mpr fun n hn => E_per hn
theorem first_red (h0 : 0 < a.length) {size turn : Nat} (h : FirstEnd a w size turn) :
    Red ((ahead a w size).drop ((ahead a w size).length - turn)) ((lineOf a w).drop ((lineOf a w).length - size)) ∧ Same ((ahead a w size).drop ((ahead a w size).length - turn)) ((lineOf a w).drop ((lineOf a w).length - size)) a w ∧
    ((ahead a w size).drop ((ahead a w size).length - turn)).length = turn ∧ ((lineOf a w).drop ((lineOf a w).length - size)).length = size := by
  obtain ⟨f1, f2, f3, f4, f5, f6⟩ := h
  have al := ahead_len h0 f1
  have ll := line_len (w := w) h0
  obtain ⟨c, hc⟩ : ∃ c, c = (ahead a w size).drop ((ahead a w size).length - turn) := ⟨_, rfl⟩
  obtain ⟨v, hv⟩ : ∃ v, v = (lineOf a w).drop ((lineOf a w).length - size) := ⟨_, rfl⟩
  rw [← hc, ← hv]
  have cl : c.length = turn := by rw [hc, List.length_drop]; omega
  have vl : v.length = size := by rw [hv, List.length_drop]; omega
  have cg : ∀ n, n < turn → c.reverse[n]? = E a w (size + n) := fun n hn => by
    rw [hc, List.reverse_drop, List.getElem?_take_of_lt (by omega)]
    exact ahead_E h0 f1 (by omega)
  have vg : ∀ n, n < size → v.reverse[n]? = E a w n := fun n hn => by
    rw [hv, List.reverse_drop, List.getElem?_take_of_lt (by omega)]
    exact line_E h0 (by omega)
  have per := (okEnd_per h0 f1 f2 f3).mp f4
  have hs : Same c v a w := E_ext (by omega) (fun n hn => (vg n (by omega)).symm) (fun n hn => by rw [vl]; exact (cg n (by omega)).symm) (fun n hn => by rw [cl]; exact per n (by omega))
  refine ⟨⟨Prim.of_per (w := v) (by omega) fun t t1 t2 _ q => ?_, fun x v' e hh => ?_⟩, hs, cl, vl⟩
  · rw [vl] at q
    have := (okEnd_per h0 f1 t1 (by omega)).mpr fun n hn => by rw [← hs, ← hs]; exact q n hn
    rw [f5 t t1 (by omega)] at this
    cases this
  · have vl' : v'.length + 1 = size := by rw [← vl, e]; rfl
    have x1 : E a w v'.length = some x := by
      rw [← vg _ (by omega), e, List.reverse_cons, List.getElem?_append_right (by rw [List.length_reverse]; omega), List.length_reverse, Nat.sub_self]
      rfl
    have x2 : E a w (v'.length + turn) = some x := by
      cases c with
      | nil => cases hh
      | cons y c' =>
        have e2 : y = x := Option.some.inj hh
        subst e2
        have e3 : v'.length + turn = size + c'.length := by rw [List.length_cons] at cl; omega
        rw [e3, ← cg _ (by rw [List.length_cons] at cl; omega), List.reverse_cons, List.getElem?_append_right (by rw [List.length_reverse]; omega), List.length_reverse, Nat.sub_self]
        rfl
    have := (okEnd_per (a := a) (w := w) (s := v'.length) h0 (by omega) f2 f3).mpr fun n hn => by
      by_cases hb : n = v'.length
      · rw [hb, x1, x2]
      · exact per n (by omega)
    rw [f6 v'.length (by omega) turn f2 f3] at this
    cases this
/-! ### the letters -/
theorem E_mem {n : Nat} {x : Int} (h : E a w n = some x) : x ∈ a ∨ x ∈ w := by
  unfold E at h
  by_cases c : n < w.length
  · rw [if_pos c] at h
    exact .inr (List.mem_reverse.mp (List.mem_of_getElem? h))
  · rw [if_neg c] at h
    exact .inl (List.mem_reverse.mp (List.mem_of_getElem? h))
theorem same_lets (hs : Same c v a w) (h1 : Lets a) (h2 : Lets w) : Lets c ∧ Lets v := by
  have key : ∀ n x, E c v n = some x → 0 ≤ x ∧ x < 4 := fun n x hx => by
    rw [hs] at hx
    rcases E_mem hx with h | h
    · exact h1 x h
    · exact h2 x h
  constructor
  · intro x hx
    obtain ⟨n, hn⟩ := List.getElem?_of_mem (List.mem_reverse.mpr hx)
    have hl : n < c.length := by
      have := (List.getElem?_eq_some_iff.mp hn).1
      rwa [List.length_reverse] at this
    exact key (v.length + n) x (by rw [E_hi hl]; exact hn)
  · intro x hx
    obtain ⟨n, hn⟩ := List.getElem?_of_mem (List.mem_reverse.mpr hx)
    have hl : n < v.length := by
      have := (List.getElem?_eq_some_iff.mp hn).1
      rwa [List.length_reverse] at this
    exact key n x (by rw [E_lo hl]; exact hn)
/-! ### ends that are the same -/
theorem same_rp {k : Nat} (hk : 0 < k) (h0 : 0 < a.length) (w : List Int) : Same (rp k a) w a w := by
  refine E_ext (by rw [rp_len]; exact Nat.mul_pos hk h0) (fun n hn => E_lo hn) (fun n hn => ?_) (fun n hn => ?_)
  · rw [rp_len] at hn
    rw [← line_get k (w.length + n) (by omega), List.reverse_append, List.getElem?_append_right (by rw [List.length_reverse]; omega), List.length_reverse, Nat.add_sub_cancel_left]
  · rw [rp_len]
    exact Per.mul (fun n hn => E_per hn) k n hn
theorem same_grow : ∀ (d u w : List Int), Same (d ++ u) (d ++ w) (u ++ d) w
  | [], u, w => by rw [List.append_nil]; exact fun n => rfl
  | x :: d, u, w => by
    have q := (step_same x (d ++ u) (d ++ w)).symm
    have r := same_grow d (u ++ [x]) w
    rw [← List.append_assoc, List.append_assoc u, List.singleton_append] at r
    exact q.trans r
theorem same_turned (a w : List Int) (step : Nat) : Same (a.drop step ++ a.take step) (a.drop step ++ w) a w := by
  have q := same_grow (a.drop step) (a.take step) w
  rwa [List.take_append_drop] at q
theorem same_again (a w : List Int) : Same a (a ++ w) a w := by
  have q := same_grow a [] w
  rwa [List.append_nil, List.nil_append] at q
theorem last_room {a w : List Int} {many : Nat} (h0 : 0 < a.length) : many ≤ a.length * (1 + many / a.length) + w.length := by
  have := Nat.div_add_mod many a.length
  have := Nat.mod_lt many h0
  rw [Nat.mul_add]
  omega
/-- two ends, by their last letters -/
theorem last_same {a w o m : List Int} {many : Nat} (h0 : 0 < a.length) (h1 : 0 < o.length) (hm : w.length + a.length + o.length ≤ many) (hm2 : m.length + a.length + o.length ≤ many) :
    lastOf o m many = lastOf a w many ↔ Same o m a w := by
  have g1 : ∀ n, n < many → (lastOf a w many).reverse[n]? = E a w n := fun n hn => win_get (last_room h0) hn
  have g2 : ∀ n, n < many → (lastOf o m many).reverse[n]? = E o m n := fun n hn => win_get (last_room h1) hn
  have l1 : (lastOf a w many).length = many := win_len (last_room h0)
  have l2 : (lastOf o m many).length = many := win_len (last_room h1)
  constructor
  · intro h n
    induction n using Nat.strongRecOn with
    | _ n ih =>
      by_cases hb : n < many
      · rw [← g1 n hb, ← g2 n hb, h]
      · have p1 := E_per (a := o) (w := m) (n := n - o.length) (by omega)
        have p2 := E_per (a := a) (w := w) (n := n - o.length - a.length) (by omega)
        have p3 := E_per (a := o) (w := m) (n := n - o.length - a.length) (by omega)
        have p4 := E_per (a := a) (w := w) (n := n - a.length) (by omega)
        have e1 : n - o.length + o.length = n := by omega
        have e2 : n - o.length - a.length + a.length = n - o.length := by omega
        have e3 : n - o.length - a.length + o.length = n - a.length := by omega
        have e4 : n - a.length + a.length = n := by omega
        rw [e1] at p1
        rw [e2] at p2
        rw [e3] at p3
        rw [e4] at p4
        rw [p1, ih _ (by omega), p2, p4, ← ih (n - a.length) (by omega), p3]
        exact (ih _ (by omega)).symm
  · intro h
    refine rev_ext fun n => ?_
    by_cases hn : n < many
    · rw [g1 n hn, g2 n hn]
      exact h n
    · rw [List.getElem?_eq_none (by rw [List.length_reverse]; omega), List.getElem?_eq_none (by rw [List.length_reverse]; omega)]
end K76
set_option Elab.async false
set_option linter.all false
set_option maxRecDepth 100000
set_option maxHeartbeats 4000000
namespace K76
open PySem PySem.Spec PyProof.Rows L2 AL
local macro_rules | `(tactic| walk_at "go1") => `(tactic| first | with_reducible refine t_lenW ?_ | with_reducible refine t_mulW ?_ | with_reducible refine t_addW ?_ | with_reducible refine t_slLoW ?_ | with_reducible refine t_slHiW ?_ | with_reducible refine t_eqW ?_ | (with_reducible refine t_var (by with_unfolding_all exact rfl) ?_) | (with_reducible refine t_ixp (by with_unfolding_all exact rfl) (by decide) (by with_unfolding_all exact rfl) ?_) | (with_reducible refine t_stp (by with_unfolding_all exact rfl) (by decide) (by with_unfolding_all exact Nat.le_of_ble_eq_true rfl) (by with_unfolding_all exact rfl) ?_) | (with_reducible refine t_augp (by with_unfolding_all exact rfl) (by decide) (by with_unfolding_all exact rfl) (by with_unfolding_all exact rfl) ?_) | with_reducible refine t_next ?_ | with_reducible refine t_break ?_ | with_reducible refine t_cont ?_ | with_reducible refine t_seq ?_ | with_reducible refine t_ifs ?_ | with_reducible refine t_drop ?_ | with_reducible refine t_ret ?_ | with_reducible refine t_retN ?_ | with_reducible refine t_asg ?_ | with_reducible refine t_nm ?_ | with_reducible refine t_gtp ?_ | with_reducible refine t_gcons ?_ | with_reducible refine t_gnil ?_ | with_reducible refine t_par ?_ | with_reducible refine t_test ?_ | with_reducible refine t_and ?_ | with_reducible refine t_or ?_ | with_reducible refine t_not ?_ | with_reducible refine t_yes ?_ | with_reducible refine t_andV ?_ | with_reducible refine t_orV ?_ | with_reducible refine t_notV ?_ | with_reducible refine t_if ?_ | with_reducible refine t_isN ?_ | with_reducible refine t_notN ?_ | with_reducible refine t_c ?_ | with_reducible refine t_neg ?_ | with_reducible refine t_nil ?_ | with_reducible refine t_cons ?_ | with_reducible refine t_tup ?_ | with_reducible refine t_lst ?_ | with_reducible refine t_lstM ?_ | with_reducible refine t_cb ?_ | with_reducible refine t_call ?_ | with_reducible refine t_callX ?_ | with_reducible refine t_callSw ?_ | with_reducible refine t_nopart ?_ | with_reducible refine t_part ?_ | with_reducible refine t_sl ?_ | with_reducible refine t_raise ?_ | with_reducible refine t_len1 ?_ | with_reducible refine t_len2 ?_ | with_reducible refine t_tuple1 ?_ | with_reducible refine t_eqI ?_ | with_reducible refine t_addI ?_ | with_reducible refine t_mulI ?_ | with_reducible refine t_aI ?_ | with_reducible refine t_intI ?_ | with_reducible refine t_rng1 ?_ | with_reducible refine t_rng2 ?_ | with_reducible refine t_itT ?_ | with_reducible refine t_itL ?_ | with_reducible refine t_for ?_ | with_reducible refine t_lc ?_ | with_reducible refine t_ift ?_ | with_reducible refine t_iff ?_ | with_reducible refine t_tuple2 ?_ | with_reducible refine t_op ?_ | (refine And.intro (by first | assumption | omega | decide | (exact rfl) | (exact Or.inr (by decide)) | (exact Or.inl (by decide)) | (exact And.intro (by omega) (by omega)) | (exact Or.inl (And.intro (by omega) (by omega))) | (exact Or.inr (And.intro (by omega) (by omega)))) ?_) | dsimp only [wd, aI0, ends0, startA, List.set_cons_zero, List.set_cons_succ, List.map_cons, List.map_nil, List.cons_append, List.nil_append])
local macro_rules | `(tactic| walk_at "go") => `(tactic| repeat walk_at "go1")


def Da.good (x : Da) : Bool := Da.below 4 x && !Da.isNil x
def sp_refused : ASpec := fun ds μ P _ => ∃ x y : Da, ds = [x, y] ∧ Ask x ∧ Ask y ∧ ((Da.below 4 x = false ∨ Da.isNil x = true) → P (.lst [x]) μ) ∧ (Da.below 4 x = true → Da.isNil x = false → Da.below 4 y = false → P (.lst [y]) μ) ∧ (Da.below 4 x = true → Da.isNil x = false → Da.below 4 y = true → P (.lst [.str "none"]) μ)
section
variable {P : Program} {w : World} {K : PySem.W.Frag} {mg : Str → Option Value} {base : Heap} {C_InvalidWord fInit : Addr} {fdInit : FuncData} {tM : Tok}

abbrev s__law_refused : Stmt := topS 21
theorem sc__law_refused : FnScope ["again", "word", "kept", "error"] ["again", "word"] (defScope s__law_refused) := ⟨rfl, rfl, rfl, by decide +kernel, rfl, by decide +kernel, by decide +kernel⟩
theorem ok__law_refused {f : Addr} {fd : FuncData} (F : Fun K "_law_refused" "_law_refused" s__law_refused f fd) (T : Txt P w K mg base C_InvalidWord fInit fdInit tM) {f_end_form : Addr} {fd_end_form : FuncData} (c_end_form : Cl P w K mg base (L2.CX P w) "end_form" 5 ["again", "word"] (sp_end_form C_InvalidWord) f_end_form fd_end_form)  :
    FnOk P w K mg base CX0 6 f fd ["again", "word"] (spOf K sp_refused) := by
  refine fn0 F sc__law_refused (fun ds μ P E h => by obtain ⟨x, y, rfl, _⟩ := h; rfl) (fun cdv A outer s H E hr => ?_)
  refine ⟨_, _, (as_cons (as_set (i := 2) sc__law_refused.nd rfl (by first | exact Or.inl rfl | exact Or.inr rfl) (ae_lst (aa_cons ae_str aa_nil)))
      (as_cons (as_tryAs (i := 3) rfl rfl sc__law_refused.nd rfl rfl ⟨by rfl, by decide, Or.inl T.e_InvalidWord.gC⟩ takes0 (fun W pn xe tk => (as_one (as_expr (ae_callXT tk c_end_form.G (hr.mono (by omega)) (by rfl) c_end_form.g c_end_form.kp c_end_form.b (aa_cons (ae_var 0) (aa_cons (ae_var 1) aa_nil)))))) (fun a oe cls d pn hz hf => (as_one (as_set (i := 2) sc__law_refused.nd rfl (by first | exact Or.inl rfl | exact Or.inr rfl) (ae_lst (aa_cons (ae_xval (i := 3) T.e_InvalidWord.xf T.e_InvalidWord.nv hz hf) aa_nil))))))
      (as_one (as_ret (ae_var 2))))), ?sem⟩
  case sem =>
    intro ds μ P EP h
    obtain ⟨x, y, rfl, hx, hy, h1, h2, h3⟩ := h
    have tail : ∀ d : Da, P (.lst [d]) μ → ∀ (a dd : Addr), wAsg (wLst (wCons (wXval 3 a C_InvalidWord (.ref C_InvalidWord) (some dd)) wNil)) (gNm 2) noX
        { nx := fun ρ' μ' => wRet (wVar 2) noX { nx := fun x μ => P Da.non μ, rt := P, bk := fun x x_1 => False, ct := fun x x_1 => False } (ρ'.set 3 none) μ', rt := P, bk := fun _ _ => False, ct := fun _ _ => False }
        [some x, some y, some (.lst [.str "none"]), some (.exc a C_InvalidWord dd d)] μ := fun d hd a dd => by
      exact ⟨⟨rfl, rfl, rfl, rfl⟩, Nat.le_of_ble_eq_true rfl, hd⟩
    walk_at "go"
    refine ⟨x, y, rfl, hx, hy, fun hb => ⟨true, T.e_InvalidWord.te, fun _ a dd => ?_, fun e => by cases e⟩, fun b1 b2 b3 => ⟨true, T.e_InvalidWord.te, fun _ a dd => ?_, fun e => by cases e⟩, fun a w s e1 e2 h0 l1 l2 hs => ?_⟩
    · exact tail x (h1 hb) a dd
    · exact tail y (h2 b1 b2 b3) a dd
    · subst e1
      subst e2
      exact h3 (wd_below l1) (wd_nil h0) (wd_below l2)

end
end K76
set_option Elab.async false
set_option linter.all false
set_option maxRecDepth 100000
set_option maxHeartbeats 4000000
namespace K76
open PySem PySem.Spec PyProof.Rows L2 AL
def sp_form : ASpec := fun ds μ P _ => ∃ a w : List Int, ds = [wd a, wd w] ∧ 0 < a.length ∧ a.length ≤ 1000 ∧ w.length ≤ 1000 ∧ Lets a ∧ Lets w ∧ ∀ c v, Red c v → Same c v a w → P (.tup [wd c, wd v]) μ
def sp_lend2 : ASpec := fun ds μ P _ => ∃ a w : List Int, ds = [wd a, wd w] ∧ 0 < a.length ∧ a.length ≤ 100 ∧ w.length ≤ 100 ∧ ∀ c v, Red c v → Same c v a w → c.length ≤ a.length → v.length ≤ w.length → P (.tup [wd c, wd v]) μ
def sp_law : ASpec := fun ds μ P _ => ∃ ns : List Int, ds = [.scr ns] ∧ ns.length ≤ 63 ∧ ∀ μ', P (.bl true) μ'
theorem wd_inj {a b : List Int} (h : wd a = wd b) : a = b := by
  have e := eqv_wd a b
  have e2 := eqv_wd a a
  rw [decide_eq_true rfl] at e2
  rw [← h, e2] at e
  exact of_decide_eq_true e.symm

/-! ### steps over the law's own data -/
section
variable {μ : Mu} {P : Da → Mu → Prop} {a b c v : List Int} {x y : Da} {l : List Da} {z : Int}
theorem t_addC (h : b.length ≤ 1000 ∧ P (.tup (List.map Da.int (z :: b))) μ) : aAdd (.tup [Da.int z]) (.tup (List.map Da.int b)) μ P :=
  t_addW (a := [z]) (b := b) ⟨by rw [List.length_singleton]; omega, h.2⟩
theorem t_nt {T1 T2 : Prop} (h : T1) : if (!false) = true then T1 else T2 := h
theorem t_nf {T1 T2 : Prop} (h : T2) : if (!true) = true then T1 else T2 := h
theorem t_ix0 (h : P x μ) : aIx (.tup [x, y]) (.int 0) μ P := h
theorem t_ix1 (h : P y μ) : aIx (.tup [x, y]) (.int 1) μ P := h
theorem t_mulL4 (h : P (.lst [x, x, x, x]) μ) : aMul (.lst [x]) (.int 4) μ P := ⟨⟨by omega, by omega, by rw [List.length_singleton]; omega⟩, h⟩
theorem ok_form (a b : List Int) : (Da.tup [wd a, wd b]).ok = true := by
  show (((nopAll (a.map Da.int)) && ((nopAll (b.map Da.int)) && true)) && SeqAt.shaped (.tuple [.tuple (pyAll (a.map Da.int)), .tuple (pyAll (b.map Da.int))])) = true
  rw [nopAll_ints, nopAll_ints, pyAll_ints, pyAll_ints]
  show (PyData.canLay0 (.tuple [.tuple (a.map PyData.int), .tuple (b.map PyData.int)]) && decide (PyData.depth (.tuple [.tuple (a.map PyData.int), .tuple (b.map PyData.int)]) ≤ 64)) = true
  simp only [PyData.canLay0, PyData.canLayAll0, canLay_ints, PyData.depth, PyData.depthAll, depth_ints]
  decide
theorem eqv_form (a b c v : List Int) : Da.eqv (.tup [wd a, wd b]) (.tup [wd c, wd v]) = decide (a = c ∧ b = v) := by
  show PyData.eqv (.tuple [.tuple (pyAll (a.map Da.int)), .tuple (pyAll (b.map Da.int))]) (.tuple [.tuple (pyAll (c.map Da.int)), .tuple (pyAll (v.map Da.int))]) = _
  rw [pyAll_ints, pyAll_ints, pyAll_ints, pyAll_ints]
  simp only [PyData.eqv, PyData.eqvAll, eqvAll_ints]
  by_cases h1 : a = c <;> by_cases h2 : b = v <;> simp [h1, h2]
theorem t_eqD (h : P (.bl (decide (a = c ∧ b = v))) μ) : aEq false (.tup [.tup (List.map Da.int a), .tup (List.map Da.int b)]) (.tup [.tup (List.map Da.int c), .tup (List.map Da.int v)]) μ P := by
  refine ⟨⟨ok_form _ _, ok_form _ _⟩, ?_⟩
  show P (.bl (Da.eqv (.tup [wd a, wd b]) (.tup [wd c, wd v]))) μ
  rw [eqv_form]
  exact h
theorem fit_ints (n : Nat) : ∀ a : List Int, FitAll (n + 1) (a.map Da.int)
  | [] => trivial
  | x :: a => ⟨trivial, fit_ints n a⟩
theorem fit_wd (n : Nat) {a : List Int} (h : a.length ≤ 1000) : Fit (n + 2) (wd a) := ⟨by rw [List.length_map]; exact h, fit_ints n a⟩
theorem fit_form (n : Nat) {a b : List Int} (h1 : a.length ≤ 1000) (h2 : b.length ≤ 1000) : Fit (n + 3) (.tup [wd a, wd b]) := ⟨Nat.le_of_ble_eq_true rfl, fit_wd n h1, fit_wd n h2, trivial⟩
theorem lets_rp {k : Nat} (h : Lets a) : Lets (rp k a) := by
  intro x hx
  unfold rp at hx
  obtain ⟨l, h1, h2⟩ := List.mem_flatten.mp hx
  rw [(List.mem_replicate.mp h1).2] at h2
  exact h x h2
theorem lets_app (h1 : Lets a) (h2 : Lets b) : Lets (a ++ b) := fun x hx => by
  rcases List.mem_append.mp hx with h | h
  · exact h1 x h
  · exact h2 x h
theorem lets_drop {n : Nat} (h : Lets a) : Lets (a.drop n) := fun x hx => h x (List.mem_of_mem_drop hx)
theorem lets_take {n : Nat} (h : Lets a) : Lets (a.take n) := fun x hx => h x (List.mem_of_mem_take hx)
theorem low_lets {k : Int} (h : Low k a) (hk : k ≤ 4) : Lets a := fun x hx => ⟨(h x hx).1, Int.lt_of_lt_of_le (h x hx).2 hk⟩
/-- what the program refuses -/
def Wr (x : Da) : Prop := Ask x ∧ Fit 2 x ∧ (Da.isNil x = true ∨ Da.below 4 x = false)
theorem eqv_nil (d : Da) : Da.eqv d (.tup []) = Da.isNil d := by
  cases d with
  | tup l => cases l <;> rfl
  | _ => rfl
def wrongL : List Da := [.tup [], .tup [.int 4], .lst [.int 0], .str "0", .non, .tup [.int 0, .int (-1)], .tup [.bl true], .int 5]
theorem wrongs {d : Int} (h0 : 0 ≤ d) (h1 : d < 8) : ∃ x, atI wrongL d = some x ∧ Wr x := by
  have c : d = 0 ∨ d = 1 ∨ d = 2 ∨ d = 3 ∨ d = 4 ∨ d = 5 ∨ d = 6 ∨ d = 7 := by omega
  rcases c with rfl | rfl | rfl | rfl | rfl | rfl | rfl | rfl
  · exact ⟨_, rfl, ⟨by decide, fun l e => by cases e; decide⟩, ⟨Nat.le_of_ble_eq_true rfl, trivial⟩, .inl rfl⟩
  · exact ⟨_, rfl, ⟨by decide, fun l e => by cases e; decide⟩, ⟨Nat.le_of_ble_eq_true rfl, trivial, trivial⟩, .inr rfl⟩
  · exact ⟨_, rfl, ⟨by decide, fun l e => by cases e⟩, ⟨Nat.le_of_ble_eq_true rfl, trivial, trivial⟩, .inr rfl⟩
  · exact ⟨_, rfl, ⟨by decide +kernel, fun l e => by cases e⟩, (by decide +kernel : PyData.strOk "0" = true), .inr rfl⟩
  · exact ⟨_, rfl, ⟨by decide, fun l e => by cases e⟩, trivial, .inr rfl⟩
  · exact ⟨_, rfl, ⟨by decide, fun l e => by cases e; decide⟩, ⟨Nat.le_of_ble_eq_true rfl, trivial, trivial, trivial⟩, .inr rfl⟩
  · exact ⟨_, rfl, ⟨by decide, fun l e => by cases e; decide⟩, ⟨Nat.le_of_ble_eq_true rfl, trivial, trivial⟩, .inr rfl⟩
  · exact ⟨_, rfl, ⟨by decide, fun l e => by cases e⟩, trivial, .inr rfl⟩
variable {EP : Addr → Da → Mu → Prop}
theorem ref_bad (hw : Wr x) (hy : Ask y) (h : P (.lst [x]) μ) : sp_refused [x, y] μ P EP := by
  refine ⟨x, y, rfl, hw.1, hy, fun _ => h, fun b1 b2 _ => ?_, fun b1 b2 _ => ?_⟩ <;> (rcases hw.2.2 with q | q <;> simp [b1, b2] at q)
theorem ref_good (h0 : 0 < a.length) (h1 : a.length ≤ 1000) (hl : Lets a) (hy : Ask y) (hb : Da.below 4 y = false) (h : P (.lst [y]) μ) : sp_refused [wd a, y] μ P EP := by
  refine ⟨wd a, y, rfl, ask_wd h1, hy, fun q => ?_, fun _ _ _ => h, fun _ _ q => ?_⟩
  · rw [wd_below hl, wd_nil h0] at q
    rcases q with q | q <;> cases q
  · rw [hb] at q
    cases q
theorem ref_none (h0 : 0 < a.length) (h1 : a.length ≤ 1000) (hl : Lets a) (h : P (.lst [.str "none"]) μ) : sp_refused [wd a, .tup []] μ P EP := by
  refine ⟨wd a, .tup [], rfl, ask_wd h1, ⟨by decide, fun l e => by cases e; decide⟩, fun q => ?_, fun _ _ q => ?_, fun _ _ _ => h⟩
  · rw [wd_below hl, wd_nil h0] at q
    rcases q with q | q <;> cases q
  · cases q
end
local macro_rules | `(tactic| walk_at "go1") => `(tactic| first | with_reducible refine t_nt ?_ | with_reducible refine t_nf ?_ | with_reducible refine t_addC ?_ | with_reducible refine t_ix0 ?_ | with_reducible refine t_ix1 ?_ | with_reducible refine t_mulL4 ?_ | with_reducible refine t_eqD ?_ | with_reducible refine t_lenW ?_ | with_reducible refine t_mulW ?_ | with_reducible refine t_addW ?_ | with_reducible refine t_slLoW ?_ | with_reducible refine t_slHiW ?_ | with_reducible refine t_eqW ?_ | (with_reducible refine t_var (by with_unfolding_all exact rfl) ?_) | (with_reducible refine t_ixp (by with_unfolding_all exact rfl) (by decide) (by with_unfolding_all exact rfl) ?_) | (with_reducible refine t_stp (by with_unfolding_all exact rfl) (by decide) (by with_unfolding_all exact Nat.le_of_ble_eq_true rfl) (by with_unfolding_all exact rfl) ?_) | (with_reducible refine t_augp (by with_unfolding_all exact rfl) (by decide) (by with_unfolding_all exact rfl) (by with_unfolding_all exact rfl) ?_) | with_reducible refine t_next ?_ | with_reducible refine t_break ?_ | with_reducible refine t_cont ?_ | with_reducible refine t_seq ?_ | with_reducible refine t_ifs ?_ | with_reducible refine t_drop ?_ | with_reducible refine t_ret ?_ | with_reducible refine t_retN ?_ | with_reducible refine t_asg ?_ | with_reducible refine t_nm ?_ | with_reducible refine t_gtp ?_ | with_reducible refine t_gcons ?_ | with_reducible refine t_gnil ?_ | with_reducible refine t_par ?_ | with_reducible refine t_test ?_ | with_reducible refine t_and ?_ | with_reducible refine t_or ?_ | with_reducible refine t_not ?_ | with_reducible refine t_yes ?_ | with_reducible refine t_andV ?_ | with_reducible refine t_orV ?_ | with_reducible refine t_notV ?_ | with_reducible refine t_if ?_ | with_reducible refine t_isN ?_ | with_reducible refine t_notN ?_ | with_reducible refine t_c ?_ | with_reducible refine t_neg ?_ | with_reducible refine t_nil ?_ | with_reducible refine t_cons ?_ | with_reducible refine t_tup ?_ | with_reducible refine t_lst ?_ | with_reducible refine t_lstM ?_ | with_reducible refine t_cb ?_ | with_reducible refine t_call ?_ | with_reducible refine t_callX ?_ | with_reducible refine t_callSw ?_ | with_reducible refine t_nopart ?_ | with_reducible refine t_part ?_ | with_reducible refine t_sl ?_ | with_reducible refine t_raise ?_ | with_reducible refine t_len1 ?_ | with_reducible refine t_len2 ?_ | with_reducible refine t_tuple1 ?_ | with_reducible refine t_eqI ?_ | with_reducible refine t_addI ?_ | with_reducible refine t_mulI ?_ | with_reducible refine t_aI ?_ | with_reducible refine t_intI ?_ | with_reducible refine t_rng1 ?_ | with_reducible refine t_rng2 ?_ | with_reducible refine t_itT ?_ | with_reducible refine t_itL ?_ | with_reducible refine t_for ?_ | with_reducible refine t_lc ?_ | with_reducible refine t_ift ?_ | with_reducible refine t_iff ?_ | with_reducible refine t_tuple2 ?_ | with_reducible refine t_op ?_ | (refine And.intro (by first | assumption | omega | decide | (exact rfl) | (exact Nat.le_of_ble_eq_true rfl) | (exact Or.inr (by decide)) | (exact Or.inl (by decide)) | (exact And.intro (by omega) (by omega)) | (exact Or.inl (And.intro (by omega) (by omega))) | (exact Or.inr (And.intro (by omega) (by omega)))) ?_) | dsimp only [wd, aI0, ends0, startA, List.set_cons_zero, List.set_cons_succ, List.map_cons, List.map_nil, List.cons_append, List.nil_append])
local macro_rules | `(tactic| walk_at "go") => `(tactic| repeat walk_at "go1")



section
variable {P : Program} {w : World} {K : PySem.W.Frag} {mg : Str → Option Value} {base : Heap} {C_InvalidWord fInit : Addr} {fdInit : FuncData} {tM : Tok}
theorem form_of {CX : CXT} {k : Nat} {f : Addr} {fd : FuncData} {ps : List Str} {C : Addr} (F : FnOk P w K mg base CX k f fd ps (spOf K (sp_end_form C))) : FnOk P w K mg base CX k f fd ps (spOf K sp_form) :=
  fn_wk F fun ds μ P EP ⟨a, w, e, h0, h1, h2, l1, l2, h⟩ => ⟨wd a, wd w, e, ask_wd h1, ask_wd h2,
    (fun hb => by
      rw [wd_below l1, wd_nil h0] at hb
      rcases hb with hb | hb <;> cases hb),
    (fun _ _ hb => by
      rw [wd_below l2] at hb
      cases hb),
    fun a' w' s e1 e2 h0' l1' l2' hs => by
      have e1 := wd_inj e1
      have e2 := wd_inj e2
      subst e1
      subst e2
      obtain ⟨t1, t2⟩ := take_same hs w
      obtain ⟨r1, r2⟩ := strip_red w (a.take s) t2
      exact ⟨μ, Wk.refl μ, h _ _ r1 (r2.trans t1)⟩⟩
theorem lend_of {CX : CXT} {k : Nat} {f : Addr} {fd : FuncData} {ps : List Str} (F : FnOk P w K mg base CX k f fd ps (spOf K sp_lend)) : FnOk P w K mg base CX k f fd ps (spOf K sp_lend2) :=
  fn_wk F fun ds μ P EP ⟨a, w, e, h0, h1, h2, h⟩ => ⟨a, w, e, h0, h1, h2, okEnd_whole h0, fun size turn hf => by
    obtain ⟨r1, r2, r3, r4⟩ := first_red h0 hf
    have f3 := hf.2.2.1
    have f1 := hf.1
    exact ⟨μ, Wk.refl μ, h _ _ r1 r2 (Nat.le_trans (Nat.le_of_eq r3) f3) (Nat.le_trans (Nat.le_of_eq r4) f1)⟩⟩
theorem new_of {CX : CXT} {k : Nat} {f : Addr} {fd : FuncData} {ps : List Str} (F : FnOk P w K mg base CX k f fd ps (spOf K sp_new1)) : FnOk P w K mg base CX k f fd ps (spOf K sp_new) :=
  fn_wk F fun ds μ P EP ⟨ns, e, hn, h⟩ => ⟨ns, e, fun p hp => by
    refine ⟨updM μ p (.any PotOk), ?_, h p hp⟩
    have q := wk_shut (μ := updM μ p (.lst [.int 0, .int 25597, .int 0, .int 0, .lst (ns.map Da.int)])) (p := p) (S := PotOk) updM_same ⟨0, 25597, 0, 0, ns, rfl, by decide, by decide, by decide, by decide, by omega, hn⟩
    rw [updM_updM] at q
    exact q⟩
theorem draw_of {CX : CXT} {k : Nat} {f : Addr} {fd : FuncData} {ps : List Str} (F : FnOk P w K mg base CX k f fd ps (spOf K sp_draw1)) : FnOk P w K mg base CX k f fd ps (spOf K sp_draw) :=
  fn_op F fun ds μ P EP ⟨p, many, e, h1, h2, hp, h⟩ => ⟨p, PotOk, hp, fun l hl => ⟨p, many, l, μ, e, h1, h2, rfl, hl, fun d l' d1 d2 hl' => ⟨μ, (by have q := wk_back (l := l) hp hl'; rw [updM_updM] at q; exact q), h d d1 d2⟩⟩⟩
theorem same_none {CX : CXT} {k : Nat} {f : Addr} {fd : FuncData} {ps : List Str} : FnOk P w K mg base CX k f fd ps (spOf K (sp_same 0)) := by
  have no : ∀ vs H Q E, ¬ spOf K (sp_same 0) vs H Q E := fun vs H Q E ⟨B, ds, μ, P, EP, M, r, ⟨d, e, hd, _⟩, _⟩ => by
    cases d <;> exact hd
  exact ⟨fun vs H Q E h => (no _ _ _ _ h).elim, fun A outer s H args us vs Q E _ _ _ _ h => (no _ _ _ _ h).elim⟩

abbrev s_law : Stmt := topS 22
theorem sc_law : FnScope ["script", "pot", "turn", "k", "again", "word", "due", "step", "turned", "got", "other", "more", "wrong"] ["script"] (defScope s_law) := ⟨rfl, rfl, rfl, by decide +kernel, rfl, by decide +kernel, by decide +kernel⟩
theorem ok_law {f : Addr} {fd : FuncData} (F : Fun K "law" "law" s_law f fd) (T : Txt P w K mg base C_InvalidWord fInit fdInit tM) {f__law_new : Addr} {fd__law_new : FuncData} (c__law_new : Cl P w K mg base CX0 "_law_new" 1 ["script"] sp_new f__law_new fd__law_new) {f__law_draw : Addr} {fd__law_draw : FuncData} (c__law_draw : Cl P w K mg base CX0 "_law_draw" 1 ["pot", "many"] sp_draw f__law_draw fd__law_draw) {f__law_word : Addr} {fd__law_word : FuncData} (c__law_word : Cl P w K mg base CX0 "_law_word" 2 ["pot", "k", "most"] sp_word f__law_word fd__law_word) {f__law_end : Addr} {fd__law_end : FuncData} (c__law_end : Cl P w K mg base CX0 "_law_end" 1 ["again", "word"] sp_lend2 f__law_end fd__law_end) {f__law_same : Addr} {fd__law_same : FuncData} (c__law_same : Cl P w K mg base CX0 "_law_same" 4 ["got", "due"] (sp_same 4) f__law_same fd__law_same) {f_end_form : Addr} {fd_end_form : FuncData} (c_end_form : Cl P w K mg base (L2.CX P w) "end_form" 5 ["again", "word"] sp_form f_end_form fd_end_form) {f__law_last : Addr} {fd__law_last : FuncData} (c__law_last : Cl P w K mg base CX0 "_law_last" 1 ["end", "many"] sp_last f__law_last fd__law_last) {f__law_refused : Addr} {fd__law_refused : FuncData} (c__law_refused : Cl P w K mg base CX0 "_law_refused" 6 ["again", "word"] sp_refused f__law_refused fd__law_refused) (kb_end_form : KBinds K fd_end_form ["again", "word"] ["word", "again"] swG swG) :
    FnOk P w K mg base CX0 7 f fd ["script"] (spOf K sp_law) := by
  refine fn0 F sc_law (fun ds μ P E h => by obtain ⟨ns, rfl, _⟩ := h; rfl) (fun cdv A outer s H E hr => ?_)
  refine ⟨_, _, (as_cons (as_set (i := 1) sc_law.nd rfl (by first | exact Or.inl rfl | exact Or.inr rfl) (ae_call c__law_new.G (hr.mono (by omega)) (by rfl) c__law_new.g c__law_new.kp c__law_new.b pass0 (aa_cons (ae_var 0) aa_nil)))
      (as_cons (as_for PassesOwn.never rfl (ai_range1 (by rfl) T.range (aa_cons ae_int aa_nil)) (ag_name (i := 2) sc_law.nd rfl (by first | exact Or.inl rfl | exact Or.inr rfl)) (as_cons (as_set (i := 3) sc_law.nd rfl (by first | exact Or.inl rfl | exact Or.inr rfl) (ae_add ae_int (ae_call c__law_draw.G (hr.mono (by omega)) (by rfl) c__law_draw.g c__law_draw.kp c__law_draw.b pass0 (aa_cons (ae_var 1) (aa_cons ae_int aa_nil)))))
      (as_cons (as_par (i := 4) (j := 5) rfl sc_law.nd rfl rfl (by decide) rfl rfl (aa_cons (ae_add (ae_tup (aa_cons (ae_call c__law_draw.G (hr.mono (by omega)) (by rfl) c__law_draw.g c__law_draw.kp c__law_draw.b pass0 (aa_cons (ae_var 1) (aa_cons (ae_var 3) aa_nil))) aa_nil)) (ae_call c__law_word.G (hr.mono (by omega)) (by rfl) c__law_word.g c__law_word.kp c__law_word.b pass0 (aa_cons (ae_var 1) (aa_cons (ae_var 3) (aa_cons ae_int aa_nil))))) (aa_cons (ae_call c__law_word.G (hr.mono (by omega)) (by rfl) c__law_word.g c__law_word.kp c__law_word.b pass0 (aa_cons (ae_var 1) (aa_cons (ae_var 3) (aa_cons ae_int aa_nil)))) aa_nil)))
      (as_cons (as_set (i := 6) sc_law.nd rfl (by first | exact Or.inl rfl | exact Or.inr rfl) (ae_call c__law_end.G (hr.mono (by omega)) (by rfl) c__law_end.g c__law_end.kp c__law_end.b pass0 (aa_cons (ae_var 4) (aa_cons (ae_var 5) aa_nil))))
      (as_cons (as_if (at_not (at_val (ae_call c__law_same.G (hr.mono (by omega)) (by rfl) c__law_same.g c__law_same.kp c__law_same.b pass0 (aa_cons (ae_lst (aa_cons (ae_call c_end_form.G (hr.mono (by omega)) (by rfl) c_end_form.g c_end_form.kp c_end_form.b passL (aa_cons (ae_var 4) (aa_cons (ae_var 5) aa_nil))) (aa_cons (ae_callSw c_end_form.G (hr.mono (by omega)) (by rfl) c_end_form.g c_end_form.kp kb_end_form passL (ak_cons (ae_var 5) (ak_cons (ae_var 4) ak_nil))) (aa_cons (ae_call c_end_form.G (hr.mono (by omega)) (by rfl) c_end_form.g c_end_form.kp c_end_form.b passL (aa_cons (ae_ix (ae_var 6) ae_int) (aa_cons (ae_ix (ae_var 6) ae_int) aa_nil))) (aa_cons (ae_call c_end_form.G (hr.mono (by omega)) (by rfl) c_end_form.g c_end_form.kp c_end_form.b passL (aa_cons (ae_mul (ae_var 4) ae_int) (aa_cons (ae_var 5) aa_nil))) aa_nil))))) (aa_cons (ae_mul (ae_lst (aa_cons (ae_var 6) aa_nil)) ae_int) aa_nil))))) (as_one (as_ret ae_bl)) as_nil)
      (as_cons (as_set (i := 7) sc_law.nd rfl (by first | exact Or.inl rfl | exact Or.inr rfl) (ae_call c__law_draw.G (hr.mono (by omega)) (by rfl) c__law_draw.g c__law_draw.kp c__law_draw.b pass0 (aa_cons (ae_var 1) (aa_cons (ae_add (ae_len T.len (by rfl) (aa_cons (ae_var 4) aa_nil)) ae_int) aa_nil))))
      (as_cons (as_set (i := 8) sc_law.nd rfl (by first | exact Or.inl rfl | exact Or.inr rfl) (ae_add (ae_slice (ae_var 4) (ao_some (ae_var 7)) ao_none) (ae_slice (ae_var 4) ao_none (ao_some (ae_var 7)))))
      (as_cons (as_set (i := 9) sc_law.nd rfl (by first | exact Or.inl rfl | exact Or.inr rfl) (ae_lst (aa_cons (ae_call c_end_form.G (hr.mono (by omega)) (by rfl) c_end_form.g c_end_form.kp c_end_form.b passL (aa_cons (ae_var 8) (aa_cons (ae_add (ae_slice (ae_var 4) (ao_some (ae_var 7)) ao_none) (ae_var 5)) aa_nil))) (aa_cons (ae_call c_end_form.G (hr.mono (by omega)) (by rfl) c_end_form.g c_end_form.kp c_end_form.b passL (aa_cons (ae_var 4) (aa_cons (ae_add (ae_var 4) (ae_var 5)) aa_nil))) (aa_cons (ae_eq hr.units (ae_call c_end_form.G (hr.mono (by omega)) (by rfl) c_end_form.g c_end_form.kp c_end_form.b passL (aa_cons (ae_mul (ae_var 4) ae_int) (aa_cons (ae_add (ae_slice (ae_var 4) (ao_some (ae_var 7)) ao_none) (ae_var 5)) aa_nil))) (ae_var 6)) aa_nil)))))
      (as_cons (as_if (at_not (at_val (ae_call c__law_same.G (hr.mono (by omega)) (by rfl) c__law_same.g c__law_same.kp c__law_same.b pass0 (aa_cons (ae_var 9) (aa_cons (ae_lst (aa_cons (ae_var 6) (aa_cons (ae_var 6) (aa_cons (ae_eq hr.units (ae_call c__law_end.G (hr.mono (by omega)) (by rfl) c__law_end.g c__law_end.kp c__law_end.b pass0 (aa_cons (ae_var 4) (aa_cons (ae_add (ae_slice (ae_var 4) (ao_some (ae_var 7)) ao_none) (ae_var 5)) aa_nil))) (ae_var 6)) aa_nil)))) aa_nil))))) (as_one (as_ret ae_bl)) as_nil)
      (as_cons (as_set (i := 10) sc_law.nd rfl (by first | exact Or.inl rfl | exact Or.inr rfl) (ae_add (ae_tup (aa_cons (ae_call c__law_draw.G (hr.mono (by omega)) (by rfl) c__law_draw.g c__law_draw.kp c__law_draw.b pass0 (aa_cons (ae_var 1) (aa_cons (ae_var 3) aa_nil))) aa_nil)) (ae_call c__law_word.G (hr.mono (by omega)) (by rfl) c__law_word.g c__law_word.kp c__law_word.b pass0 (aa_cons (ae_var 1) (aa_cons (ae_var 3) (aa_cons ae_int aa_nil))))))
      (as_cons (as_set (i := 11) sc_law.nd rfl (by first | exact Or.inl rfl | exact Or.inr rfl) (ae_call c__law_word.G (hr.mono (by omega)) (by rfl) c__law_word.g c__law_word.kp c__law_word.b pass0 (aa_cons (ae_var 1) (aa_cons (ae_var 3) (aa_cons ae_int aa_nil)))))
      (as_cons (as_if (at_not (at_val (ae_call c__law_same.G (hr.mono (by omega)) (by rfl) c__law_same.g c__law_same.kp c__law_same.b pass0 (aa_cons (ae_eq hr.units (ae_call c_end_form.G (hr.mono (by omega)) (by rfl) c_end_form.g c_end_form.kp c_end_form.b passL (aa_cons (ae_var 10) (aa_cons (ae_var 11) aa_nil))) (ae_var 6)) (aa_cons (ae_eq hr.units (ae_call c__law_last.G (hr.mono (by omega)) (by rfl) c__law_last.g c__law_last.kp c__law_last.b pass0 (aa_cons (ae_tup (aa_cons (ae_var 10) (aa_cons (ae_var 11) aa_nil))) (aa_cons ae_int aa_nil))) (ae_call c__law_last.G (hr.mono (by omega)) (by rfl) c__law_last.g c__law_last.kp c__law_last.b pass0 (aa_cons (ae_tup (aa_cons (ae_var 4) (aa_cons (ae_var 5) aa_nil))) (aa_cons ae_int aa_nil)))) aa_nil))))) (as_one (as_ret ae_bl)) as_nil)
      (as_cons (as_set (i := 12) sc_law.nd rfl (by first | exact Or.inl rfl | exact Or.inr rfl) (ae_ix (ae_lst (aa_cons (ae_tup aa_nil) (aa_cons (ae_tup (aa_cons ae_int aa_nil)) (aa_cons (ae_lst (aa_cons ae_int aa_nil)) (aa_cons ae_str (aa_cons ae_non (aa_cons (ae_tup (aa_cons ae_int (aa_cons (ae_neg ae_int) aa_nil))) (aa_cons (ae_tup (aa_cons ae_bl aa_nil)) (aa_cons ae_int aa_nil))))))))) (ae_call c__law_draw.G (hr.mono (by omega)) (by rfl) c__law_draw.g c__law_draw.kp c__law_draw.b pass0 (aa_cons (ae_var 1) (aa_cons ae_int aa_nil)))))
      (as_cons (as_set (i := 9) sc_law.nd rfl (by first | exact Or.inl rfl | exact Or.inr rfl) (ae_lst (aa_cons (ae_call c__law_refused.G (hr.mono (by omega)) (by rfl) c__law_refused.g c__law_refused.kp c__law_refused.b pass0 (aa_cons (ae_var 12) (aa_cons (ae_var 12) aa_nil))) (aa_cons (ae_call c__law_refused.G (hr.mono (by omega)) (by rfl) c__law_refused.g c__law_refused.kp c__law_refused.b pass0 (aa_cons (ae_var 4) (aa_cons (ae_if (at_ne hr.units (ae_var 12) (ae_tup aa_nil)) (ae_var 12) (ae_tup (aa_cons ae_int aa_nil))) aa_nil))) (aa_cons (ae_call c__law_refused.G (hr.mono (by omega)) (by rfl) c__law_refused.g c__law_refused.kp c__law_refused.b pass0 (aa_cons (ae_var 12) (aa_cons (ae_var 5) aa_nil))) (aa_cons (ae_call c__law_refused.G (hr.mono (by omega)) (by rfl) c__law_refused.g c__law_refused.kp c__law_refused.b pass0 (aa_cons (ae_var 4) (aa_cons (ae_tup aa_nil) aa_nil))) aa_nil))))))
      (as_one (as_if (at_not (at_val (ae_call c__law_same.G (hr.mono (by omega)) (by rfl) c__law_same.g c__law_same.kp c__law_same.b pass0 (aa_cons (ae_var 9) (aa_cons (ae_lst (aa_cons (ae_lst (aa_cons (ae_var 12) aa_nil)) (aa_cons (ae_lst (aa_cons (ae_if (at_ne hr.units (ae_var 12) (ae_tup aa_nil)) (ae_var 12) (ae_tup (aa_cons ae_int aa_nil))) aa_nil)) (aa_cons (ae_lst (aa_cons (ae_var 12) aa_nil)) (aa_cons (ae_lst (aa_cons ae_str aa_nil)) aa_nil))))) aa_nil))))) (as_one (as_ret ae_bl)) as_nil))))))))))))))))
      (as_one (as_ret ae_bl)))), ?sem⟩
  case sem =>
    intro ds μ P EP h
    obtain ⟨ns, rfl, hn, hP⟩ := h
    walk_at "go"
    refine ⟨ns, rfl, hn, fun p hp => ?_⟩
    walk_at "go"
    refine ⟨fun i ρ' μ' => (∃ x2 x3 x4 x5 x6 x7 x8 x9 x10 x11 x12, ρ' = [some (.scr ns), some (.ptr p), x2, x3, x4, x5, x6, x7, x8, x9, x10, x11, x12]) ∧ μ' = updM μ p (.any PotOk), ⟨⟨_, _, _, _, _, _, _, _, _, _, _, rfl⟩, rfl⟩, ?_, ?_⟩
    · rintro i d ρ' μ' hd ⟨⟨x2, x3, x4, x5, x6, x7, x8, x9, x10, x11, x12, rfl⟩, rfl⟩
      walk_at "go"
      refine ⟨p, 4, rfl, by omega, by omega, updM_same, fun k hk0 hk1 => ?_⟩
      walk_at "go"
      obtain ⟨K1, hK1⟩ : ∃ K1, K1 = 1 + k := ⟨_, rfl⟩
      rw [← hK1]
      refine ⟨p, K1, rfl, by omega, by omega, updM_same, fun z hz0 hz1 => ?_⟩
      walk_at "go"
      refine ⟨p, K1, 5, rfl, by omega, by omega, by omega, by omega, updM_same, fun w1 hw1 lw1 => ?_⟩
      walk_at "go"
      obtain ⟨a, ha⟩ : ∃ a, a = z :: w1 := ⟨_, rfl⟩
      rw [← ha]
      have a0 : 0 < a.length := by rw [ha]; exact Nat.succ_pos _
      have a6 : a.length ≤ 6 := by rw [ha, List.length_cons]; omega
      have la : Lets a := by
        rw [ha]
        intro x hx
        rcases List.mem_cons.mp hx with rfl | hx
        · exact ⟨hz0, by omega⟩
        · exact low_lets lw1 (by omega) x hx
      clear ha
      refine ⟨p, K1, 10, rfl, by omega, by omega, by omega, by omega, updM_same, fun w hw lw => ?_⟩
      have w10 : w.length ≤ 10 := by omega
      have lw := low_lets lw (show K1 ≤ 4 by omega)
      walk_at "go"
      refine ⟨a, w, rfl, a0, by omega, by omega, fun c v r1 r2 lc lv => ?_⟩
      obtain ⟨lec, lev⟩ := same_lets r2 la lw
      have c0 : 0 < c.length := r1.1.1
      have fitD : Fit 3 (.tup [wd c, wd v]) := fit_form 0 (by omega) (by omega)
      have one : ∀ b u, Same b u a w → ∀ c' v', Red c' v' → Same c' v' b u → c = c' ∧ v = v' := fun b u hs c' v' q1 q2 => red_one r1 q1 (r2.trans (q2.trans hs).symm)
      walk_at "go"
      refine ⟨a, w, rfl, a0, by omega, by omega, la, lw, fun c' v' q1 q2 => ?_⟩
      obtain ⟨rfl, rfl⟩ := one a w (fun _ => rfl) c' v' q1 q2
      walk_at "go"
      refine ⟨a, w, rfl, a0, by omega, by omega, la, lw, fun c' v' q1 q2 => ?_⟩
      obtain ⟨rfl, rfl⟩ := one a w (fun _ => rfl) c' v' q1 q2
      walk_at "go"
      refine ⟨c, v, rfl, c0, by omega, by omega, lec, lev, fun c' v' q1 q2 => ?_⟩
      obtain ⟨rfl, rfl⟩ := one c v r2 c' v' q1 q2
      walk_at "go"
      refine ⟨rp 2 a, w, rfl, by rw [rp_len]; omega, by rw [rp_len]; omega, by omega, lets_rp la, lw, fun c' v' q1 q2 => ?_⟩
      obtain ⟨rfl, rfl⟩ := one _ w (same_rp (by omega) a0 w) c' v' q1 q2
      walk_at "go"
      refine ⟨_, rfl, ⟨Nat.le_of_ble_eq_true rfl, fitD, fitD, fitD, fitD, trivial⟩, ?_⟩
      walk_at "go"
      refine ⟨p, (a.length : Int) + 1, by first | rfl | rw [List.length_map], by omega, by omega, updM_same, fun st hs0 hs1 => ?_⟩
      obtain ⟨n, rfl⟩ : ∃ n : Nat, st = (n : Int) := ⟨st.toNat, by omega⟩
      have hn6 : n ≤ a.length := by omega
      have ldr : (a.drop n).length = a.length - n := List.length_drop
      have ltk : (a.take n).length = n := by rw [List.length_take]; omega
      have ltu : (a.drop n ++ a.take n).length = a.length := by rw [List.length_append]; omega
      have ldw : (a.drop n ++ w).length = a.length - n + w.length := by rw [List.length_append]; omega
      have law : (a ++ w).length = a.length + w.length := List.length_append
      have lr3 : (rp 3 a).length = 3 * a.length := rp_len 3 a
      have lad : Lets (a.drop n) := lets_drop la
      walk_at "go"
      rw [Int.toNat_natCast]
      walk_at "go"
      rw [Int.toNat_natCast]
      walk_at "go"
      refine ⟨a.drop n ++ a.take n, a.drop n ++ w, rfl, by omega, by omega, by omega, lets_app lad (lets_take la), lets_app lad lw, fun c' v' q1 q2 => ?_⟩
      obtain ⟨rfl, rfl⟩ := one _ _ (same_turned a w n) c' v' q1 q2
      walk_at "go"
      refine ⟨a, a ++ w, rfl, a0, by omega, by omega, la, lets_app la lw, fun c' v' q1 q2 => ?_⟩
      obtain ⟨rfl, rfl⟩ := one _ _ (same_again a w) c' v' q1 q2
      walk_at "go"
      rw [Int.toNat_natCast]
      walk_at "go"
      refine ⟨rp 3 a, a.drop n ++ w, rfl, by omega, by omega, by omega, lets_rp la, lets_app lad lw, fun c3 v3 q1 q2 => ?_⟩
      have q2 := q2.trans (same_rp (by omega) a0 (a.drop n ++ w))
      walk_at "go"
      rw [Int.toNat_natCast]
      walk_at "go"
      refine ⟨a, a.drop n ++ w, rfl, a0, by omega, by omega, fun c4 v4 q3 q4 _ _ => ?_⟩
      obtain ⟨rfl, rfl⟩ := red_one q1 q3 (q2.trans q4.symm)
      walk_at "go"
      refine ⟨_, rfl, ⟨Nat.le_of_ble_eq_true rfl, fitD, fitD, trivial, trivial⟩, ?_⟩
      clear q1 q2 q3 q4
      walk_at "go"
      refine ⟨p, K1, rfl, by omega, by omega, updM_same, fun z2 hz20 hz21 => ?_⟩
      walk_at "go"
      refine ⟨p, K1, 5, rfl, by omega, by omega, by omega, by omega, updM_same, fun w2 hw2 lw2 => ?_⟩
      walk_at "go"
      obtain ⟨o, ho⟩ : ∃ o, o = z2 :: w2 := ⟨_, rfl⟩
      rw [← ho]
      have o0 : 0 < o.length := by rw [ho]; exact Nat.succ_pos _
      have o6 : o.length ≤ 6 := by rw [ho, List.length_cons]; omega
      have lo : Lets o := by
        rw [ho]
        intro x hx
        rcases List.mem_cons.mp hx with rfl | hx
        · exact ⟨hz20, by omega⟩
        · exact low_lets lw2 (by omega) x hx
      clear ho
      walk_at "go"
      refine ⟨p, K1, 10, rfl, by omega, by omega, by omega, by omega, updM_same, fun m hm lm => ?_⟩
      have m10 : m.length ≤ 10 := by omega
      have lm := low_lets lm (show K1 ≤ 4 by omega)
      walk_at "go"
      refine ⟨o, m, rfl, o0, by omega, by omega, lo, lm, fun c5 v5 q5 q6 => ?_⟩
      walk_at "go"
      have room : ∀ (b u : List Int), 0 < b.length → b.length ≤ 6 → 60 ≤ b.length * (1 + 60 / b.length) + u.length ∧ 2 ≤ 1 + 60 / b.length := fun b u h1 h2 => ⟨last_room h1, by
        have := Nat.div_le_div_left h2 h1 (a := 60)
        omega⟩
      refine ⟨o, m, 60, rfl, o0, by omega, by omega, by omega, (room o m o0 o6).1, (room o m o0 o6).2, ?_⟩
      walk_at "go"
      refine ⟨a, w, 60, rfl, a0, by omega, by omega, by omega, (room a w a0 a6).1, (room a w a0 a6).2, ?_⟩
      walk_at "go"
      have hb : decide (c5 = c ∧ v5 = v) = decide (lastOf o m 60 = lastOf a w 60) := by
        refine decide_eq_decide.mpr ((last_same a0 o0 (by omega) (by omega)).trans ⟨fun h => ?_, fun h => ?_⟩).symm
        · obtain ⟨e1, e2⟩ := red_one q5 r1 (q6.trans (h.trans r2.symm))
          exact ⟨e1, e2⟩
        · obtain ⟨rfl, rfl⟩ := h
          exact q6.symm.trans r2
      rw [hb]
      clear hb q5 q6
      refine ⟨_, rfl, trivial, ?_⟩
      walk_at "go"
      refine ⟨p, 8, rfl, by omega, by omega, updM_same, fun d8 h80 h81 => ?_⟩
      obtain ⟨x, hx, wx⟩ := wrongs h80 h81
      have hix : ∀ (μ : Mu) (P : Da → Mu → Prop), P x μ → aIx (.lst wrongL) (.int d8) μ P := fun μ P h => by
        show (match atI wrongL d8 with
          | some d => P d μ
          | none => False)
        rw [hx]
        exact h
      have hq : ∀ (μ : Mu) (P : Da → Mu → Prop), P (.bl (!Da.isNil x)) μ → aEq true x (.tup []) μ P := fun μ P h => ⟨⟨wx.1.1, by decide⟩, by
        show P (.bl (!Da.eqv x (.tup []))) μ
        rw [eqv_nil]
        exact h⟩
      have ask7 : Ask (.tup [.int 7]) := ⟨by decide, fun l e => by cases e; decide⟩
      have fit7 : Fit 2 (.tup [.int 7]) := ⟨Nat.le_of_ble_eq_true rfl, trivial, trivial⟩
      have askw : Ask (wd w) := ask_wd (by omega)
      have fitn : Fit 2 (.str "none") := (by decide +kernel : PyData.strOk "none" = true)
      refine hix _ _ ?_
      walk_at "go"
      refine ref_bad wx wx.1 ?_
      walk_at "go"
      refine hq _ _ ?_
      cases e : Da.isNil x with
      | true =>
        walk_at "go"
        refine ref_good a0 (by omega) la ask7 rfl ?_
        walk_at "go"
        refine ref_bad wx askw ?_
        walk_at "go"
        refine ref_none a0 (by omega) la ?_
        walk_at "go"
        refine hq _ _ ?_
        rw [e]
        walk_at "go"
        refine ⟨_, rfl, ⟨Nat.le_of_ble_eq_true rfl, ⟨Nat.le_of_ble_eq_true rfl, wx.2.1, trivial⟩, ⟨Nat.le_of_ble_eq_true rfl, fit7, trivial⟩, ⟨Nat.le_of_ble_eq_true rfl, wx.2.1, trivial⟩, ⟨Nat.le_of_ble_eq_true rfl, fitn, trivial⟩, trivial⟩, ?_⟩
        walk_at "go"
        exact ⟨⟨_, _, _, _, _, _, _, _, _, _, _, rfl⟩, rfl⟩
      | false =>
        have hb : Da.below 4 x = false := by
          rcases wx.2.2 with q | q
          · rw [e] at q
            cases q
          · exact q
        walk_at "go"
        refine ref_good a0 (by omega) la wx.1 hb ?_
        walk_at "go"
        refine ref_bad wx askw ?_
        walk_at "go"
        refine ref_none a0 (by omega) la ?_
        walk_at "go"
        refine hq _ _ ?_
        rw [e]
        walk_at "go"
        refine ⟨_, rfl, ⟨Nat.le_of_ble_eq_true rfl, ⟨Nat.le_of_ble_eq_true rfl, wx.2.1, trivial⟩, ⟨Nat.le_of_ble_eq_true rfl, wx.2.1, trivial⟩, ⟨Nat.le_of_ble_eq_true rfl, wx.2.1, trivial⟩, ⟨Nat.le_of_ble_eq_true rfl, fitn, trivial⟩, trivial⟩, ?_⟩
        walk_at "go"
        exact ⟨⟨_, _, _, _, _, _, _, _, _, _, _, rfl⟩, rfl⟩
    · rintro ρ' μ' ⟨⟨x2, x3, x4, x5, x6, x7, x8, x9, x10, x11, x12, rfl⟩, rfl⟩
      exact hP _

end
end K76
set_option Elab.async false
set_option linter.all false
set_option maxRecDepth 100000
set_option maxHeartbeats 4000000
namespace K76
open PySem PySem.Spec PyProof.Rows L2 AL
/-! ### the errors' class -/
def bodyOf : Stmt → List Stmt
  | .ClassDef _ _ _ b _ _ _ _ _ _ _ => b
  | _ => []
abbrev sInit : Stmt := (bodyOf (topS 1)).getD 0 (.Pass ⟨0, 0, 0, 0⟩)
theorem sc_init : FnScope ["self", "value"] ["self", "value"] (defScope sInit) := ⟨rfl, rfl, rfl, by decide +kernel, rfl, by decide +kernel, by decide +kernel⟩
section
variable {P : Program} {w : World} {K : PySem.W.Frag} {mg : Str → Option Value} {base : Heap}
theorem ok_init {f : Addr} {fd : FuncData} {k : Nat} (F : Fun K "__init__" "NucleiError.__init__" sInit f fd) (mVE : mg "ValueError" = none) (vV : PySem.W.findCls K (.type "ValueError") (.type "type") "__init__" = some (.val (.builtin "ValueError.__init__"))) :
    FnOk P w K mg base CX0 (k + 1) f fd ["self", "value"] (spInit K) := by
  refine init_ok F sc_init fun cdv A outer s H E => ?_
  exact pss_cons (ps_expr (pe_veinit (by rfl) mVE vV (by exact (pa_cons (pv 0) (pa_cons (pv 1) pa_nil))))) (pss_one (ps_ost (pv 0) (pv 1)))
end
/-- an error of the class at S is what «except S» names -/
theorem exm_self {K : PySem.W.Frag} {S : Addr} (h1 : PySem.W.subIn K (.ref S) (.type "BaseException") = some true) (h2 : PySem.W.isClsIn K S = true) (h3 : PySem.W.typeIn K (.ref S) = some (.type "type")) (h4 : PySem.W.subIn K (.ref S) (.ref S) = some true) :
    PySem.W.exmOne K (.ref S) (.ref S) = some true := by
  have e1 : (PySem.W.subIn K (.ref S) (.type "BaseException") == some true) = true := by rw [h1] <;> rfl
  have e2 : ((PySem.W.clsIn K S).isSome && PySem.W.typeIn K (.ref S) == some (.type "type")) = true := by
    have h2' : (PySem.W.clsIn K S).isSome = true := h2
    rw [h2', h3] <;> rfl
  show (if (PySem.W.subIn K (.ref S) (.type "BaseException") == some true) = true then (if ((PySem.W.clsIn K S).isSome && PySem.W.typeIn K (.ref S) == some (.type "type")) = true then PySem.W.subIn K (.ref S) (.ref S) else none) else none) = some true
  rw [if_pos e1, if_pos e2]
  exact h4
theorem all_mk {l : PySem.W.OpenLaw} {w : World} {K : PySem.W.Frag} {h : Heap} {mg : Str → Option Value} {fa C f0 f1 f2 f3 f4 f5 f6 f7 f8 f9 f10 f11 f12 f13 f14 f15 f16 : Addr} (X : K.In h) (G : h.Ns mainGlobals mg) (hfa : mg "law" = some (.ref fa))
    {cnm cq : Str} {cN : Addr} {cbs cbm : List Value} {csn : List Str} {csub : List Value} {cab : Bool} {ccol : Option Bool} {cdd : Option Addr} {cm0 cm1 cm2 cm3 cm5 : Option Value} {tM : Tok}
    {od0 an0 od1 an1 od2 an2 od3 an3 od4 an4 od5 an5 od6 an6 od7 an7 od8 an8 od9 an9 od10 an10 od11 an11 od12 an12 od13 an13 od14 an14 od15 an15 od16 an16 : Option Addr} {sl0 sl1 sl2 sl3 sl4 sl5 sl6 sl7 sl8 sl9 sl10 sl11 sl12 sl13 sl14 sl15 sl16 : Array (Option Value)} {oc0 kV0 dc0 pm0 cd0 ct0 oc1 kV1 dc1 pm1 cd1 ct1 oc2 kV2 dc2 pm2 cd2 ct2 oc3 kV3 dc3 pm3 cd3 ct3 oc4 kV4 dc4 pm4 cd4 ct4 oc5 kV5 dc5 pm5 cd5 ct5 oc6 kV6 dc6 pm6 cd6 ct6 oc7 kV7 dc7 pm7 cd7 ct7 oc8 kV8 dc8 pm8 cd8 ct8 oc9 kV9 dc9 pm9 cd9 ct9 oc10 kV10 dc10 pm10 cd10 ct10 oc11 kV11 dc11 pm11 cd11 ct11 oc12 kV12 dc12 pm12 cd12 ct12 oc13 kV13 dc13 pm13 cd13 ct13 oc14 kV14 dc14 pm14 cd14 ct14 oc15 kV15 dc15 pm15 cd15 ct15 oc16 kV16 dc16 pm16 cd16 ct16 : Value}
    (aC : PySem.W.nsIn K mainGlobals "InvalidWord" = some (some (.ref C)))
    (xL : K.lookup C = some (excClassObj cnm cq C cN cbs cbm true csn csub cab ccol cdd cm0 cm1 cm2 cm3 cm5 "ValueError.__new__"))
    (xB : PySem.HandSPX.refsVE cbm = true)
    (sa : PySem.W.findIn K (.ref C) "__setattr__" = some (some (.builtin "object.__setattr__")))
    (ga : PySem.W.findIn K (.ref C) "__getattribute__" = some (some (.builtin "BaseException.__getattribute__")))
    (gg : PySem.W.findIn K (.ref C) "__getattr__" = some none)
    (nb : PySem.W.findIn K (.ref C) "value" = some none)
    (aI : PySem.W.findIn K (.ref C) "__init__" = some (some (.ref f0)))
    (tI : PySem.W.typeIn K (.ref f0) = some (.type "function"))
    (l0 : K.lookup f0 = some ⟨oc0, od0, .func (PySem.W.fnOf "__init__" "NucleiError.__init__" (defArgs sInit) (defBody sInit) (defScope sInit) .none kV0 dc0 pm0 an0 cd0 ct0), sl0⟩)
    (c0 : PySem.W.codeIn K cd0 "NucleiError.__init__" = true)
    (k0 : PySem.W.keepIn K (.ref f0) = true)
    (kC : PySem.W.keepIn K (.ref C) = true)
    (eC : PySem.W.subIn K (.ref C) (.type "BaseException") = some true)
    (tC : PySem.W.typeIn K (.ref C) = some (.type "type"))
    (hC : PySem.W.hasDictIn K C = true)
    (iC : PySem.W.isClsIn K C = true)
    (sC : PySem.W.subIn K (.ref C) (.ref C) = some true)
    (vV : PySem.W.findCls K (.type "ValueError") (.type "type") "__init__" = some (.val (.builtin "ValueError.__init__")))
    (aM : PySem.W.nsIn K mainGlobals "MOST_LETTERS" = some (some (.int 4 tM)))
    (z_all : PySem.W.nsIn K mainGlobals "all" = some none)
    (z_bool : PySem.W.nsIn K mainGlobals "bool" = some none)
    (z_dict : PySem.W.nsIn K mainGlobals "dict" = some none)
    (z_int : PySem.W.nsIn K mainGlobals "int" = some none)
    (z_isinstance : PySem.W.nsIn K mainGlobals "isinstance" = some none)
    (z_len : PySem.W.nsIn K mainGlobals "len" = some none)
    (z_list : PySem.W.nsIn K mainGlobals "list" = some none)
    (z_range : PySem.W.nsIn K mainGlobals "range" = some none)
    (z_str : PySem.W.nsIn K mainGlobals "str" = some none)
    (z_tuple : PySem.W.nsIn K mainGlobals "tuple" = some none)
    (z_ValueError : PySem.W.nsIn K mainGlobals "ValueError" = some none)
    (a1 : PySem.W.nsIn K mainGlobals "is_integer" = some (some (.ref f1)))
    (l1 : K.lookup f1 = some ⟨oc1, od1, .func (PySem.W.fnOf "is_integer" "is_integer" (defArgs s_is_integer) (defBody s_is_integer) (defScope s_is_integer) .none kV1 dc1 pm1 an1 cd1 ct1), sl1⟩)
    (c1 : PySem.W.codeIn K cd1 "is_integer" = true)
    (k1 : PySem.W.keepIn K (.ref f1) = true)
    (a2 : PySem.W.nsIn K mainGlobals "is_natural" = some (some (.ref f2)))
    (l2 : K.lookup f2 = some ⟨oc2, od2, .func (PySem.W.fnOf "is_natural" "is_natural" (defArgs s_is_natural) (defBody s_is_natural) (defScope s_is_natural) .none kV2 dc2 pm2 an2 cd2 ct2), sl2⟩)
    (c2 : PySem.W.codeIn K cd2 "is_natural" = true)
    (k2 : PySem.W.keepIn K (.ref f2) = true)
    (a3 : PySem.W.nsIn K mainGlobals "are_below" = some (some (.ref f3)))
    (l3 : K.lookup f3 = some ⟨oc3, od3, .func (PySem.W.fnOf "are_below" "are_below" (defArgs s_are_below) (defBody s_are_below) (defScope s_are_below) .none kV3 dc3 pm3 an3 cd3 ct3), sl3⟩)
    (c3 : PySem.W.codeIn K cd3 "are_below" = true)
    (k3 : PySem.W.keepIn K (.ref f3) = true)
    (a4 : PySem.W.nsIn K mainGlobals "check_word" = some (some (.ref f4)))
    (l4 : K.lookup f4 = some ⟨oc4, od4, .func (PySem.W.fnOf "check_word" "check_word" (defArgs s_check_word) (defBody s_check_word) (defScope s_check_word) .none kV4 dc4 pm4 an4 cd4 ct4), sl4⟩)
    (c4 : PySem.W.codeIn K cd4 "check_word" = true)
    (k4 : PySem.W.keepIn K (.ref f4) = true)
    (a5 : PySem.W.nsIn K mainGlobals "check_again" = some (some (.ref f5)))
    (l5 : K.lookup f5 = some ⟨oc5, od5, .func (PySem.W.fnOf "check_again" "check_again" (defArgs s_check_again) (defBody s_check_again) (defScope s_check_again) .none kV5 dc5 pm5 an5 cd5 ct5), sl5⟩)
    (c5 : PySem.W.codeIn K cd5 "check_again" = true)
    (k5 : PySem.W.keepIn K (.ref f5) = true)
    (a6 : PySem.W.nsIn K mainGlobals "least_turn" = some (some (.ref f6)))
    (l6 : K.lookup f6 = some ⟨oc6, od6, .func (PySem.W.fnOf "least_turn" "least_turn" (defArgs s_least_turn) (defBody s_least_turn) (defScope s_least_turn) .none kV6 dc6 pm6 an6 cd6 ct6), sl6⟩)
    (c6 : PySem.W.codeIn K cd6 "least_turn" = true)
    (k6 : PySem.W.keepIn K (.ref f6) = true)
    (a7 : PySem.W.nsIn K mainGlobals "short_end" = some (some (.ref f7)))
    (l7 : K.lookup f7 = some ⟨oc7, od7, .func (PySem.W.fnOf "short_end" "short_end" (defArgs s_short_end) (defBody s_short_end) (defScope s_short_end) .none kV7 dc7 pm7 an7 cd7 ct7), sl7⟩)
    (c7 : PySem.W.codeIn K cd7 "short_end" = true)
    (k7 : PySem.W.keepIn K (.ref f7) = true)
    (a8 : PySem.W.nsIn K mainGlobals "end_form" = some (some (.ref f8)))
    (l8 : K.lookup f8 = some ⟨oc8, od8, .func (PySem.W.fnOf "end_form" "end_form" (defArgs s_end_form) (defBody s_end_form) (defScope s_end_form) .none kV8 dc8 pm8 an8 cd8 ct8), sl8⟩)
    (c8 : PySem.W.codeIn K cd8 "end_form" = true)
    (k8 : PySem.W.keepIn K (.ref f8) = true)
    (a9 : PySem.W.nsIn K mainGlobals "_law_new" = some (some (.ref f9)))
    (l9 : K.lookup f9 = some ⟨oc9, od9, .func (PySem.W.fnOf "_law_new" "_law_new" (defArgs s__law_new) (defBody s__law_new) (defScope s__law_new) .none kV9 dc9 pm9 an9 cd9 ct9), sl9⟩)
    (c9 : PySem.W.codeIn K cd9 "_law_new" = true)
    (k9 : PySem.W.keepIn K (.ref f9) = true)
    (a10 : PySem.W.nsIn K mainGlobals "_law_draw" = some (some (.ref f10)))
    (l10 : K.lookup f10 = some ⟨oc10, od10, .func (PySem.W.fnOf "_law_draw" "_law_draw" (defArgs s__law_draw) (defBody s__law_draw) (defScope s__law_draw) .none kV10 dc10 pm10 an10 cd10 ct10), sl10⟩)
    (c10 : PySem.W.codeIn K cd10 "_law_draw" = true)
    (k10 : PySem.W.keepIn K (.ref f10) = true)
    (a11 : PySem.W.nsIn K mainGlobals "_law_same" = some (some (.ref f11)))
    (l11 : K.lookup f11 = some ⟨oc11, od11, .func (PySem.W.fnOf "_law_same" "_law_same" (defArgs s__law_same) (defBody s__law_same) (defScope s__law_same) .none kV11 dc11 pm11 an11 cd11 ct11), sl11⟩)
    (c11 : PySem.W.codeIn K cd11 "_law_same" = true)
    (k11 : PySem.W.keepIn K (.ref f11) = true)
    (a12 : PySem.W.nsIn K mainGlobals "_law_word" = some (some (.ref f12)))
    (l12 : K.lookup f12 = some ⟨oc12, od12, .func (PySem.W.fnOf "_law_word" "_law_word" (defArgs s__law_word) (defBody s__law_word) (defScope s__law_word) .none kV12 dc12 pm12 an12 cd12 ct12), sl12⟩)
    (c12 : PySem.W.codeIn K cd12 "_law_word" = true)
    (k12 : PySem.W.keepIn K (.ref f12) = true)
    (a13 : PySem.W.nsIn K mainGlobals "_law_end" = some (some (.ref f13)))
    (l13 : K.lookup f13 = some ⟨oc13, od13, .func (PySem.W.fnOf "_law_end" "_law_end" (defArgs s__law_end) (defBody s__law_end) (defScope s__law_end) .none kV13 dc13 pm13 an13 cd13 ct13), sl13⟩)
    (c13 : PySem.W.codeIn K cd13 "_law_end" = true)
    (k13 : PySem.W.keepIn K (.ref f13) = true)
    (a14 : PySem.W.nsIn K mainGlobals "_law_last" = some (some (.ref f14)))
    (l14 : K.lookup f14 = some ⟨oc14, od14, .func (PySem.W.fnOf "_law_last" "_law_last" (defArgs s__law_last) (defBody s__law_last) (defScope s__law_last) .none kV14 dc14 pm14 an14 cd14 ct14), sl14⟩)
    (c14 : PySem.W.codeIn K cd14 "_law_last" = true)
    (k14 : PySem.W.keepIn K (.ref f14) = true)
    (a15 : PySem.W.nsIn K mainGlobals "_law_refused" = some (some (.ref f15)))
    (l15 : K.lookup f15 = some ⟨oc15, od15, .func (PySem.W.fnOf "_law_refused" "_law_refused" (defArgs s__law_refused) (defBody s__law_refused) (defScope s__law_refused) .none kV15 dc15 pm15 an15 cd15 ct15), sl15⟩)
    (c15 : PySem.W.codeIn K cd15 "_law_refused" = true)
    (k15 : PySem.W.keepIn K (.ref f15) = true)
    (a16 : PySem.W.nsIn K mainGlobals "law" = some (some (.ref f16)))
    (l16 : K.lookup f16 = some ⟨oc16, od16, .func (PySem.W.fnOf "law" "law" (defArgs s_law) (defBody s_law) (defScope s_law) .none kV16 dc16 pm16 an16 cd16 ct16), sl16⟩)
    (c16 : PySem.W.codeIn K cd16 "law" = true)
    (k16 : PySem.W.keepIn K (.ref f16) = true) :
    ∃ fd : FuncData, (∀ (s : Shared) (v : Value), BindsTo s fd ⟨[v], []⟩ [("script", v)]) ∧ ∀ base : Heap, K.In base → base.Ns mainGlobals mg → FnOk l.prog w K mg base CX0 7 fa fd ["script"] (spOf K sp_law) := by
  have e := hfa.symm.trans (PySem.W.mg_of X G a16)
  cases e
  have F0 := fun_mk (st := sInit) l0 c0 k0
  have F1 := fun_mk (st := s_is_integer) l1 c1 k1
  have F2 := fun_mk (st := s_is_natural) l2 c2 k2
  have F3 := fun_mk (st := s_are_below) l3 c3 k3
  have F4 := fun_mk (st := s_check_word) l4 c4 k4
  have F5 := fun_mk (st := s_check_again) l5 c5 k5
  have F6 := fun_mk (st := s_least_turn) l6 c6 k6
  have F7 := fun_mk (st := s_short_end) l7 c7 k7
  have F8 := fun_mk (st := s_end_form) l8 c8 k8
  have F9 := fun_mk (st := s__law_new) l9 c9 k9
  have F10 := fun_mk (st := s__law_draw) l10 c10 k10
  have F11 := fun_mk (st := s__law_same) l11 c11 k11
  have F12 := fun_mk (st := s__law_word) l12 c12 k12
  have F13 := fun_mk (st := s__law_end) l13 c13 k13
  have F14 := fun_mk (st := s__law_last) l14 c14 k14
  have F15 := fun_mk (st := s__law_refused) l15 c15 k15
  have F16 := fun_mk (st := s_law) l16 c16 k16
  have b0 := F0.binds (ps := ["self", "value"]) fun _ _ _ _ _ _ us hl => match us, hl with | [_, _], _ => rfl
  have b1 := F1.binds (ps := ["value"]) fun _ _ _ _ _ _ us hl => match us, hl with | [_], _ => rfl
  have b2 := F2.binds (ps := ["value"]) fun _ _ _ _ _ _ us hl => match us, hl with | [_], _ => rfl
  have b3 := F3.binds (ps := ["value", "many"]) fun _ _ _ _ _ _ us hl => match us, hl with | [_, _], _ => rfl
  have b4 := F4.binds (ps := ["k", "word"]) fun _ _ _ _ _ _ us hl => match us, hl with | [_, _], _ => rfl
  have b5 := F5.binds (ps := ["k", "again"]) fun _ _ _ _ _ _ us hl => match us, hl with | [_, _], _ => rfl
  have b6 := F6.binds (ps := ["again"]) fun _ _ _ _ _ _ us hl => match us, hl with | [_], _ => rfl
  have b7 := F7.binds (ps := ["again", "word"]) fun _ _ _ _ _ _ us hl => match us, hl with | [_, _], _ => rfl
  have b8 := F8.binds (ps := ["again", "word"]) fun _ _ _ _ _ _ us hl => match us, hl with | [_, _], _ => rfl
  have b9 := F9.binds (ps := ["script"]) fun _ _ _ _ _ _ us hl => match us, hl with | [_], _ => rfl
  have b10 := F10.binds (ps := ["pot", "many"]) fun _ _ _ _ _ _ us hl => match us, hl with | [_, _], _ => rfl
  have b11 := F11.binds (ps := ["got", "due"]) fun _ _ _ _ _ _ us hl => match us, hl with | [_, _], _ => rfl
  have b12 := F12.binds (ps := ["pot", "k", "most"]) fun _ _ _ _ _ _ us hl => match us, hl with | [_, _, _], _ => rfl
  have b13 := F13.binds (ps := ["again", "word"]) fun _ _ _ _ _ _ us hl => match us, hl with | [_, _], _ => rfl
  have b14 := F14.binds (ps := ["end", "many"]) fun _ _ _ _ _ _ us hl => match us, hl with | [_, _], _ => rfl
  have b15 := F15.binds (ps := ["again", "word"]) fun _ _ _ _ _ _ us hl => match us, hl with | [_, _], _ => rfl
  have b16 := F16.binds (ps := ["script"]) fun _ _ _ _ _ _ us hl => match us, hl with | [_], _ => rfl
  have err : ErrC K mg "InvalidWord" C f0 := ⟨PySem.W.mg_of X G aC, ⟨⟨_, _, _, _, _, _, _, _, _, _, _, _, _, _, _, xL, xB⟩, sa, eC, tC, kC⟩, aI, tI, nb, ⟨ga, gg, eC, hC⟩, exm_self eC iC tC sC⟩
  refine ⟨PySem.W.fnOf "law" "law" (defArgs s_law) (defBody s_law) (defScope s_law) .none kV16 dc16 pm16 an16 cd16 ct16, fun s v => .of_eq rfl, fun base _ _ => ?_⟩
  have i0 : FnOk l.prog w K mg base CX0 1 f0 _ ["self", "value"] (spInit K) := ok_init F0 (PySem.W.mg_none_of X G z_ValueError) vV
  have T : Txt l.prog w K mg base C f0 _ tM := { all := PySem.W.mg_none_of X G z_all, bool := PySem.W.mg_none_of X G z_bool, dict := PySem.W.mg_none_of X G z_dict, int := PySem.W.mg_none_of X G z_int, isinstance := PySem.W.mg_none_of X G z_isinstance, len := PySem.W.mg_none_of X G z_len, list := PySem.W.mg_none_of X G z_list, range := PySem.W.mg_none_of X G z_range, str := PySem.W.mg_none_of X G z_str, tuple := PySem.W.mg_none_of X G z_tuple, e_InvalidWord := err, c_MOST_LETTERS := PySem.W.mg_of X G aM, iG := i0, iB := b0 }
  have C1 : Cl l.prog w K mg base CX0 "is_integer" 1 ["value"] sp_is_integer f1 _ := ⟨PySem.W.mg_of X G a1, k1, b1, (ok_is_integer F1 T )⟩
  have C2 : Cl l.prog w K mg base CX0 "is_natural" 2 ["value"] sp_is_natural f2 _ := ⟨PySem.W.mg_of X G a2, k2, b2, (ok_is_natural F2 T C1)⟩
  have C3 : Cl l.prog w K mg base CX0 "are_below" 3 ["value", "many"] sp_are_below f3 _ := ⟨PySem.W.mg_of X G a3, k3, b3, (ok_are_below F3 T C2)⟩
  have C4 : Cl l.prog w K mg base (L2.CX l.prog w) "check_word" 4 ["k", "word"] (sp_check_word C) f4 _ := ⟨PySem.W.mg_of X G a4, k4, b4, (ok_check_word F4 T C3)⟩
  have C5 : Cl l.prog w K mg base (L2.CX l.prog w) "check_again" 4 ["k", "again"] (sp_check_again C) f5 _ := ⟨PySem.W.mg_of X G a5, k5, b5, (ok_check_again F5 T C3)⟩
  have C6 : Cl l.prog w K mg base CX0 "least_turn" 1 ["again"] sp_least_turn f6 _ := ⟨PySem.W.mg_of X G a6, k6, b6, (ok_least_turn F6 T )⟩
  have C7 : Cl l.prog w K mg base CX0 "short_end" 2 ["again", "word"] sp_short_end f7 _ := ⟨PySem.W.mg_of X G a7, k7, b7, (ok_short_end F7 T C6)⟩
  have C8 : Cl l.prog w K mg base (L2.CX l.prog w) "end_form" 5 ["again", "word"] (sp_end_form C) f8 _ := ⟨PySem.W.mg_of X G a8, k8, b8, (ok_end_form F8 T C5 C4 C7)⟩
  have C9 : Cl l.prog w K mg base CX0 "_law_new" 1 ["script"] sp_new f9 _ := ⟨PySem.W.mg_of X G a9, k9, b9, new_of (ok__law_new F9 T )⟩
  have C10 : Cl l.prog w K mg base CX0 "_law_draw" 1 ["pot", "many"] sp_draw f10 _ := ⟨PySem.W.mg_of X G a10, k10, b10, draw_of (ok__law_draw F10 T )⟩
  have C12 : Cl l.prog w K mg base CX0 "_law_word" 2 ["pot", "k", "most"] sp_word f12 _ := ⟨PySem.W.mg_of X G a12, k12, b12, (ok__law_word F12 T C10)⟩
  have S0 : Cl l.prog w K mg base CX0 "_law_same" 0 ["got", "due"] (sp_same 0) f11 _ := ⟨PySem.W.mg_of X G a11, k11, b11, same_none⟩
  have S1 : Cl l.prog w K mg base CX0 "_law_same" 1 ["got", "due"] (sp_same 1) f11 _ := ⟨PySem.W.mg_of X G a11, k11, b11, ok__law_same F11 T S0⟩
  have S2 : Cl l.prog w K mg base CX0 "_law_same" 2 ["got", "due"] (sp_same 2) f11 _ := ⟨PySem.W.mg_of X G a11, k11, b11, ok__law_same F11 T S1⟩
  have S3 : Cl l.prog w K mg base CX0 "_law_same" 3 ["got", "due"] (sp_same 3) f11 _ := ⟨PySem.W.mg_of X G a11, k11, b11, ok__law_same F11 T S2⟩
  have S4 : Cl l.prog w K mg base CX0 "_law_same" 4 ["got", "due"] (sp_same 4) f11 _ := ⟨PySem.W.mg_of X G a11, k11, b11, ok__law_same F11 T S3⟩
  have C13 : Cl l.prog w K mg base CX0 "_law_end" 1 ["again", "word"] sp_lend2 f13 _ := ⟨PySem.W.mg_of X G a13, k13, b13, lend_of (ok__law_end F13 T )⟩
  have C14 : Cl l.prog w K mg base CX0 "_law_last" 1 ["end", "many"] sp_last f14 _ := ⟨PySem.W.mg_of X G a14, k14, b14, (ok__law_last F14 T )⟩
  have C15 : Cl l.prog w K mg base CX0 "_law_refused" 6 ["again", "word"] sp_refused f15 _ := ⟨PySem.W.mg_of X G a15, k15, b15, (ok__law_refused F15 T C8)⟩
  have Cf : Cl l.prog w K mg base (L2.CX l.prog w) "end_form" 5 ["again", "word"] sp_form f8 _ := ⟨PySem.W.mg_of X G a8, k8, b8, form_of C8.G⟩
  have kb : KBinds K _ ["again", "word"] ["word", "again"] swG swG := kb_sw F8 rfl fun _ _ _ _ _ _ _ _ => rfl
  exact ok_law F16 T C9 C10 C12 C13 S4 Cf C14 C15 kb
theorem entry {K : PySem.W.Frag} {H : Hp} {a : Addr} {ns : List Int} (hl : ns.length ≤ 63) (hS : SqL K H a (ns.map V.int)) : spOf K sp_law [V.ref a] H (fun v _ => v = V.bl true) fun _ _ _ => False :=
  ⟨H, [.scr ns], fun _ => none, fun d _ => d = .bl true, fun _ _ _ => False, ⟨Ex.refl H, fun a o e => by cases e⟩, .cons (.scr ⟨hS⟩) .nil, ⟨ns, rfl, hl, fun μ' => rfl⟩, fun v d B' H' μ' _ _ r hd => by
    subst hd
    cases r
    rfl, fun _ _ _ _ _ _ _ _ _ _ _ z => z⟩
theorem walk {l : PySem.W.OpenLaw} {q : Program} {loose : List Str} {XP : (Str → Option Value) → Heap → Prop} {YP : World → Heap → Prop} {d : DefRec} {K : Params → PySem.W.Frag} (hn : l.most = some 63) (hdf : d.params.defaults = [])
    (hY : ∀ (w : World) (h : Heap), YP w h → (K w.params).In h)
    (F : ∀ (w : World) (mg : Str → Option Value) (fa : Addr) (h : Heap), (K w.params).In h → h.Ns mainGlobals mg → mg d.name = some (.ref fa) →
      ∃ fd : FuncData, (∀ (s : Shared) (u : Value), BindsTo s fd ⟨[u], []⟩ [("script", u)]) ∧ ∀ base : Heap, (K w.params).In base → base.Ns mainGlobals mg → FnOk l.prog w (K w.params) mg base CX0 7 fa fd ["script"] (spOf (K w.params) sp_law)) :
    PySem.W.WalkO q loose XP YP l.row.toRowW d [] (fun f vs => PySem.call f vs) :=
  L2.walk_of (n := 63) (k := 7) (x := "script") (CX := fun _ => CX0) (sp := fun w => spOf (K w.params) sp_law) hn (by decide) hdf ⟨rfl, by decide, by decide⟩ hY F (fun w H a ns hl _ hS => entry hl hS) fun _ _ _ _ _ z => z
end K76
open PySem PySem.W PyProof.Rows in
set_option maxRecDepth 100000 in
set_option maxHeartbeats 0 in
theorem PySem.Challenge.cw_wholenuclei_k76_end_forms_holds : PySem.Challenge.rw_wholenuclei_k76_end_forms.Holds := by
  w_on; o_law; k_head; (case hw => w_witness2)
  k_fill
  refine K76.walk (l := PySem.Challenge.rw_wholenuclei_k76_end_forms) rfl rfl (fun w h Y => PySem.W.kIn_of Y) ?F
  case F =>
    intro w mg fa h KX G hmg
    refine' K76.all_mk KX G hmg ?aC ?xL ?xB ?sa ?ga ?gg ?nb ?aI ?tI ?l0 ?c0 ?k0 ?kC ?eC ?tC ?hC ?iC ?sC ?vV ?aM ?z_all ?z_bool ?z_dict ?z_int ?z_isinstance ?z_len ?z_list ?z_range ?z_str ?z_tuple ?z_ValueError ?a1 ?l1 ?c1 ?k1 ?a2 ?l2 ?c2 ?k2 ?a3 ?l3 ?c3 ?k3 ?a4 ?l4 ?c4 ?k4 ?a5 ?l5 ?c5 ?k5 ?a6 ?l6 ?c6 ?k6 ?a7 ?l7 ?c7 ?k7 ?a8 ?l8 ?c8 ?k8 ?a9 ?l9 ?c9 ?k9 ?a10 ?l10 ?c10 ?k10 ?a11 ?l11 ?c11 ?k11 ?a12 ?l12 ?c12 ?k12 ?a13 ?l13 ?c13 ?k13 ?a14 ?l14 ?c14 ?k14 ?a15 ?l15 ?c15 ?k15 ?a16 ?l16 ?c16 ?k16
    (case aC => k_is)
    (case xL => k_is)
    (case xB => first | rfl | decide +kernel)
    (case sa => k_is)
    (case ga => k_is)
    (case gg => k_is)
    (case nb => k_is)
    (case aI => k_is)
    (case tI => k_is)
    (case l0 => k_is)
    (case c0 => k_is)
    (case k0 => k_is)
    (case kC => k_is)
    (case eC => k_is)
    (case tC => k_is)
    (case hC => k_is)
    (case iC => k_is)
    (case sC => first | rfl | k_is)
    (case vV => k_is)
    (case aM => k_is)
    (case z_all => k_is)
    (case z_bool => k_is)
    (case z_dict => k_is)
    (case z_int => k_is)
    (case z_isinstance => k_is)
    (case z_len => k_is)
    (case z_list => k_is)
    (case z_range => k_is)
    (case z_str => k_is)
    (case z_tuple => k_is)
    (case z_ValueError => k_is)
    (case a1 => k_is)
    (case l1 => k_is)
    (case c1 => k_is)
    (case k1 => k_is)
    (case a2 => k_is)
    (case l2 => k_is)
    (case c2 => k_is)
    (case k2 => k_is)
    (case a3 => k_is)
    (case l3 => k_is)
    (case c3 => k_is)
    (case k3 => k_is)
    (case a4 => k_is)
    (case l4 => k_is)
    (case c4 => k_is)
    (case k4 => k_is)
    (case a5 => k_is)
    (case l5 => k_is)
    (case c5 => k_is)
    (case k5 => k_is)
    (case a6 => k_is)
    (case l6 => k_is)
    (case c6 => k_is)
    (case k6 => k_is)
    (case a7 => k_is)
    (case l7 => k_is)
    (case c7 => k_is)
    (case k7 => k_is)
    (case a8 => k_is)
    (case l8 => k_is)
    (case c8 => k_is)
    (case k8 => k_is)
    (case a9 => k_is)
    (case l9 => k_is)
    (case c9 => k_is)
    (case k9 => k_is)
    (case a10 => k_is)
    (case l10 => k_is)
    (case c10 => k_is)
    (case k10 => k_is)
    (case a11 => k_is)
    (case l11 => k_is)
    (case c11 => k_is)
    (case k11 => k_is)
    (case a12 => k_is)
    (case l12 => k_is)
    (case c12 => k_is)
    (case k12 => k_is)
    (case a13 => k_is)
    (case l13 => k_is)
    (case c13 => k_is)
    (case k13 => k_is)
    (case a14 => k_is)
    (case l14 => k_is)
    (case c14 => k_is)
    (case k14 => k_is)
    (case a15 => k_is)
    (case l15 => k_is)
    (case c15 => k_is)
    (case k15 => k_is)
    (case a16 => k_is)
    (case l16 => k_is)
    (case c16 => k_is)
    (case k16 => k_is)
