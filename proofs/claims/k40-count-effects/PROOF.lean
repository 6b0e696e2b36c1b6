import PyProof.Rows.All
import Wide.All
import OpenK.AllK
import Wide.FinOn
import HandS.ForMost
import HandS.ForExc
import HandS.Evl
import HandS.Star
import HandS.Style
import HandS.TupAny
import HandS.IsInst
import HandS.Zip
import HandS.Wide
import HandS.TupMul
import HandS.WideBits
import KE.GoesMore
import KE.GoesEnumKw
import PyProof.Rows.CallKwBuiltin
import HandS.EndBits
import PySem.Challenge.RW_skylineeffect_k40_count_effects
set_option Elab.async false
set_option linter.all false
set_option maxRecDepth 100000
set_option maxHeartbeats 4000000
namespace Mi
open PySem L2 Evl

abbrev D := PyData
/-! ### what stands for data -/
mutual
inductive Rp (K : PySem.W.Frag) (H : Hp) : V → D → Prop
  | non : Rp K H .non .none
  | bl (b : Bool) : Rp K H (.bl b) (.bool b)
  | int (i : Int) : Rp K H (.int i) (.int i)
  | str (x : Str) : Rp K H (.str x) (.str x)
  | lst {a : Addr} {xs : List V} {ds : List D} : H a = some (.lst xs) → RpAll K H xs ds → Rp K H (.ref a) (.list ds)
  | tup {a : Addr} {xs : List V} {ds : List D} : SqT K H a xs → RpAll K H xs ds → Rp K H (.ref a) (.tuple ds)
inductive RpAll (K : PySem.W.Frag) (H : Hp) : List V → List D → Prop
  | nil : RpAll K H [] []
  | cons {v : V} {vs : List V} {d : D} {ds : List D} : Rp K H v d → RpAll K H vs ds → RpAll K H (v :: vs) (d :: ds)
end
section
variable {K : PySem.W.Frag} {H H' : Hp}
mutual
theorem Rp.mono (e : Ex H H') : ∀ (x : D) (v : V), Rp K H v x → Rp K H' v x
  | .none, _, h => by cases h; exact .non
  | .bool b, _, h => by cases h; exact .bl b
  | .int i, _, h => by cases h; exact .int i
  | .str s, _, h => by cases h; exact .str s
  | .list ds, _, h => by
    cases h with
    | lst h1 h2 => exact .lst (e _ _ h1) (RpAll.mono e ds _ h2)
  | .tuple ds, _, h => by
    cases h with
    | tup h1 h2 => exact .tup (ex_t e h1) (RpAll.mono e ds _ h2)
  | .dict _, _, h => by cases h
theorem RpAll.mono (e : Ex H H') : ∀ (xs : List D) (vs : List V), RpAll K H vs xs → RpAll K H' vs xs
  | [], _, h => by cases h; exact .nil
  | d :: ds, _, h => by
    cases h with
    | cons h1 h2 => exact .cons (Rp.mono e d _ h1) (RpAll.mono e ds _ h2)
end
mutual
theorem Rp.dp : ∀ (x : D) (v : V), Rp K H v x → Dp K H v x
  | .none, _, h => by cases h; exact .non
  | .bool b, _, h => by cases h; exact .bl b
  | .int i, _, h => by cases h; exact .int i
  | .str s, _, h => by cases h; exact .str s
  | .list ds, _, h => by
    cases h with
    | lst h1 h2 => exact .lst (SqL.of h1) (RpAll.dp ds _ h2)
  | .tuple ds, _, h => by
    cases h with
    | tup h1 h2 => exact .tup h1 (RpAll.dp ds _ h2)
  | .dict _, _, h => by cases h
theorem RpAll.dp : ∀ (xs : List D) (vs : List V), RpAll K H vs xs → DpAll K H vs xs
  | [], _, h => by cases h; exact .nil
  | d :: ds, _, h => by
    cases h with
    | cons h1 h2 => exact .cons (Rp.dp d _ h1) (RpAll.dp ds _ h2)
end
theorem Rp.m {x : D} {v : V} (h : Rp K H v x) (e : Ex H H') : Rp K H' v x := Rp.mono e _ _ h
theorem RpAll.m {x : List D} {v : List V} (h : RpAll K H v x) (e : Ex H H') : RpAll K H' v x := RpAll.mono e _ _ h
theorem RpAll.len : ∀ {xs : List D} {vs : List V}, RpAll K H vs xs → vs.length = xs.length
  | [], _, h => by cases h; rfl
  | _ :: _, _, h => by
    cases h with
    | cons _ h2 => simp [RpAll.len h2]
theorem RpAll.app : ∀ {xs ys : List D} {vs ws : List V}, RpAll K H vs xs → RpAll K H ws ys → RpAll K H (vs ++ ws) (xs ++ ys)
  | [], _, _, _, h, h' => by cases h; exact h'
  | _ :: _, _, _, _, h, h' => by
    cases h with
    | cons h1 h2 => exact .cons h1 (RpAll.app h2 h')
theorem RpAll.one {x : D} {v : V} (h : Rp K H v x) : RpAll K H [v] [x] := .cons h .nil
theorem RpAll.get : ∀ {xs : List D} {vs : List V} {i : Nat} {x : D}, RpAll K H vs xs → xs[i]? = some x → ∃ v, vs[i]? = some v ∧ Rp K H v x
  | [], _, i, _, _, e => by simp at e
  | d :: ds, _, 0, x, h, e => by
    cases h with
    | cons h1 h2 => simp at e; subst e; exact ⟨_, rfl, h1⟩
  | d :: ds, _, i + 1, x, h, e => by
    cases h with
    | cons h1 h2 =>
      obtain ⟨v, e1, r⟩ := RpAll.get (i := i) h2 (by simpa using e)
      exact ⟨v, by simpa using e1, r⟩
theorem RpAll.get' {xs : List D} {vs : List V} {i : Nat} {v : V} (h : RpAll K H vs xs) (e : vs[i]? = some v) : ∃ x, xs[i]? = some x ∧ Rp K H v x := by
  have hl := h.len
  obtain ⟨hi, e1⟩ := List.getElem?_eq_some_iff.mp e
  have hi' : i < xs.length := by omega
  obtain ⟨w, e2, r⟩ := h.get (List.getElem?_eq_getElem hi')
  rw [e] at e2; cases e2
  exact ⟨_, List.getElem?_eq_getElem hi', r⟩
theorem RpAll.take : ∀ {xs : List D} {vs : List V} (n : Nat), RpAll K H vs xs → RpAll K H (vs.take n) (xs.take n)
  | _, _, 0, h => by simp; exact .nil
  | [], _, _ + 1, h => by cases h; exact .nil
  | d :: ds, _, n + 1, h => by
    cases h with
    | cons h1 h2 => simp; exact .cons h1 (RpAll.take n h2)
theorem RpAll.drop : ∀ {xs : List D} {vs : List V} (n : Nat), RpAll K H vs xs → RpAll K H (vs.drop n) (xs.drop n)
  | _, _, 0, h => by simpa using h
  | [], _, _ + 1, h => by cases h; exact .nil
  | d :: ds, _, n + 1, h => by
    cases h with
    | cons h1 h2 => simp; exact RpAll.drop n h2
theorem RpAll.set : ∀ {xs : List D} {vs : List V} (n : Nat) {x : D} {v : V}, RpAll K H vs xs → Rp K H v x → RpAll K H (vs.set n v) (xs.set n x)
  | [], _, n, _, _, h, _ => by cases h; simp; exact .nil
  | d :: ds, _, 0, x, v, h, r => by
    cases h with
    | cons h1 h2 => simp; exact .cons r h2
  | d :: ds, _, n + 1, x, v, h, r => by
    cases h with
    | cons h1 h2 => simp; exact .cons h1 (RpAll.set n h2 r)
theorem RpAll.eraseIdx : ∀ {xs : List D} {vs : List V} (n : Nat), RpAll K H vs xs → RpAll K H (vs.eraseIdx n) (xs.eraseIdx n)
  | [], _, n, h => by cases h; simp; exact .nil
  | d :: ds, _, 0, h => by
    cases h with
    | cons h1 h2 => simp; exact h2
  | d :: ds, _, n + 1, h => by
    cases h with
    | cons h1 h2 => simp; exact .cons h1 (RpAll.eraseIdx n h2)
theorem RpAll.dropLast {xs : List D} {vs : List V} (h : RpAll K H vs xs) : RpAll K H vs.dropLast xs.dropLast := by
  rw [List.dropLast_eq_take, List.dropLast_eq_take, h.len]; exact h.take _
theorem RpAll.rev : ∀ {xs : List D} {vs : List V}, RpAll K H vs xs → RpAll K H vs.reverse xs.reverse
  | [], _, h => by cases h; exact .nil
  | d :: ds, _, h => by
    cases h with
    | cons h1 h2 => simp; exact (RpAll.rev h2).app (.one h1)
theorem RpAll.rep {xs : List D} {vs : List V} (h : RpAll K H vs xs) : ∀ k : Nat, RpAll K H (List.replicate k vs).flatten (List.replicate k xs).flatten
  | 0 => by simp; exact .nil
  | k + 1 => by
    rw [List.replicate_succ, List.replicate_succ, List.flatten_cons, List.flatten_cons]
    exact h.app (h.rep k)
end

/-! ### slots, results -/
inductive Sl where
  | un
  | d (x : D)
  | own (io : Bool) (xs : List D)
  | scr (ns : List Int)
abbrev Ga := List Sl
inductive Res (α : Type) where
  | ok (a : α)
  | exc (c : Str) (x : D)
  | stuck
inductive R where
  | d (x : D)
  | f (xs : List D)
inductive Fl where
  | nx
  | rt (r : R)
  | bk
  | ct
def Res.bind {α β : Type} (r : Res α) (f : α → Res β) : Res β := match r with
  | .ok a => f a
  | .exc c x => .exc c x
  | .stuck => .stuck
@[simp] theorem bind_ok {α β : Type} (a : α) (f : α → Res β) : (Res.ok a).bind f = f a := rfl
@[simp] theorem bind_exc {α β : Type} (c : Str) (x : D) (f : α → Res β) : (Res.exc c x : Res α).bind f = .exc c x := rfl
@[simp] theorem bind_stuck {α β : Type} (f : α → Res β) : (Res.stuck : Res α).bind f = .stuck := rfl
def fieldOf (c : Str) : Str := if c = "InvalidSequence" ∨ c = "StepFailed" then "index" else if c = "InvalidCommand" then "word" else if c = "LimitExceeded" then "limit"
  else if c = "UnknownUser" ∨ c = "NothingToUndo" then "user" else if c = "UnknownName" then "name" else "value"

/-! ### the state -/
structure Bg where
  He0 : Hp
  He : Hp
  io : Nat → Option Addr
def OwnOf (σ : L2.St) (Γ : Ga) (p : Addr) : Prop := ∃ (i : Nat) (b : Bool) (xs : List D), Γ[i]? = some (Sl.own b xs) ∧ σ[i]? = some (some (.ref p))
structure Grow (O : Addr → Prop) (H0 H H0' H' : Hp) : Prop where
  ex0 : Ex H0 H0'
  keep : ∀ p o, H p = some o → ¬ O p → H' p = some o
  old : ∀ p, H p ≠ none → ¬ O p → H0' p = H0 p
  live : ∀ p, H p ≠ none → H' p ≠ none
theorem Grow.refl (O : Addr → Prop) (H0 H : Hp) : Grow O H0 H H0 H := ⟨Ex.refl _, fun _ _ h _ => h, fun _ _ _ => rfl, fun _ h => h⟩
theorem Grow.trans {O O' : Addr → Prop} {H0 H H01 H1 H02 H2 : Hp} (a : Grow O H0 H H01 H1) (b : Grow O' H01 H1 H02 H2) (h : ∀ p, O' p → O p ∨ H p = none) : Grow O H0 H H02 H2 where
  ex0 := a.ex0.trans b.ex0
  keep := fun p o e n => b.keep p o (a.keep p o e n) fun z => (h p z).elim n fun q => by rw [e] at q; cases q
  old := fun p e n => by
    have n' : ¬ O' p := fun z => (h p z).elim n e
    rw [b.old p (a.live p e) n', a.old p e n]
  live := fun p e => b.live p (a.live p e)
theorem Grow.wide {O O' : Addr → Prop} {H0 H H01 H1 : Hp} (a : Grow O H0 H H01 H1) (h : ∀ p, O p → O' p) : Grow O' H0 H H01 H1 :=
  ⟨a.ex0, fun p o e n => a.keep p o e fun z => n (h p z), fun p e n => a.old p e fun z => n (h p z), a.live⟩

structure EnvOk (K : PySem.W.Frag) (B : Bg) (σ : L2.St) (Γ : Ga) (H0 H : Hp) : Prop where
  sub : Ex H0 H
  len : Γ.length = σ.length
  dat : ∀ (i : Nat) x, Γ[i]? = some (.d x) → ∃ v, σ[i]? = some (some v) ∧ Rp K H0 v x
  scr : ∀ (i : Nat) ns, Γ[i]? = some (.scr ns) → ∃ a, σ[i]? = some (some (.ref a)) ∧ SqL K H0 a (ns.map V.int)
  own : ∀ (i : Nat) b xs, Γ[i]? = some (.own b xs) → ∃ a vs, σ[i]? = some (some (.ref a)) ∧ H0 a = none ∧ H a = some (.lst vs) ∧ RpAll K H0 vs xs ∧ (b = true → B.io i = some a) ∧ (b = false → B.He a = none)
  apart : ∀ (i j : Nat) b c xs ys a, i ≠ j → Γ[i]? = some (.own b xs) → Γ[j]? = some (.own c ys) → σ[i]? = some (some (.ref a)) → σ[j]? ≠ some (some (.ref a))
  grow : Grow (fun p => ∃ i, B.io i = some p) B.He0 B.He H0 H

def Less (Γ Γ' : Ga) : Prop := ∀ (i : Nat) b ys, Γ'[i]? = some (.own b ys) → ∃ xs, Γ[i]? = some (.own b xs)
theorem Less.refl (Γ : Ga) : Less Γ Γ := fun _ _ _ h => ⟨_, h⟩
theorem Less.trans {Γ Γ1 Γ2 : Ga} (a : Less Γ Γ1) (b : Less Γ1 Γ2) : Less Γ Γ2 := fun i c ys h => let ⟨_, h1⟩ := b i c ys h; a i c _ h1
theorem Less.own {Γ Γ' : Ga} (l : Less Γ Γ') {σ : L2.St} {p : Addr} (h : OwnOf σ Γ' p) : OwnOf σ Γ p := by
  obtain ⟨i, b, xs, h1, h2⟩ := h
  obtain ⟨ys, h3⟩ := l i b xs h1
  exact ⟨i, b, ys, h3, h2⟩

section
variable {K : PySem.W.Frag} {B : Bg} {σ : L2.St} {Γ Γ' : Ga} {H0 H H0' H' : Hp}
theorem EnvOk.ownLive (ok : EnvOk K B σ Γ H0 H) {p : Addr} (h : OwnOf σ Γ p) : H p ≠ none ∧ H0 p = none := by
  obtain ⟨i, b, xs, h1, h2⟩ := h
  obtain ⟨a, vs, e1, e2, e3, _⟩ := ok.own i b xs h1
  rw [h2] at e1; cases e1
  exact ⟨by rw [e3]; simp, e2⟩
theorem EnvOk.ioOr (ok : EnvOk K B σ Γ H0 H) {p : Addr} (h : OwnOf σ Γ p) : (∃ i, B.io i = some p) ∨ B.He p = none := by
  obtain ⟨i, b, xs, h1, h2⟩ := h
  obtain ⟨a, vs, e1, e2, e3, e4, e5, e6⟩ := ok.own i b xs h1
  rw [h2] at e1; cases e1
  cases b with
  | true => exact .inl ⟨i, e5 rfl⟩
  | false => exact .inr (e6 rfl)
theorem EnvOk.step (ok : EnvOk K B σ Γ H0 H) (g : Grow (OwnOf σ Γ) H0 H H0' H') (sub : Ex H0' H')
    (hd : ∀ (i : Nat) x, Γ'[i]? = some (.d x) → Γ[i]? = some (.d x) ∨ ∃ v, σ[i]? = some (some v) ∧ Rp K H0' v x)
    (hs : ∀ (i : Nat) ns, Γ'[i]? = some (.scr ns) → Γ[i]? = some (.scr ns))
    (ho : ∀ (i : Nat) b ys, Γ'[i]? = some (.own b ys) → ∃ xs, Γ[i]? = some (.own b xs) ∧ ∀ a, σ[i]? = some (some (.ref a)) → H0' a = none ∧ ∃ vs, H' a = some (.lst vs) ∧ RpAll K H0' vs ys) (hl : Γ'.length = Γ.length := by simp) : EnvOk K B σ Γ' H0' H' where
  sub := sub
  len := hl.trans ok.len
  dat := fun i x e => by
    rcases hd i x e with h | h
    · obtain ⟨v, e1, r⟩ := ok.dat i x h
      exact ⟨v, e1, r.m g.ex0⟩
    · exact h
  scr := fun i ns e => by
    obtain ⟨a, e1, r⟩ := ok.scr i ns (hs i ns e)
    exact ⟨a, e1, ex_l g.ex0 r⟩
  own := fun i b ys e => by
    obtain ⟨xs, e1, h⟩ := ho i b ys e
    obtain ⟨a, vs, q1, q2, q3, q4, q5, q6⟩ := ok.own i b xs e1
    obtain ⟨n0, ws, w1, w2⟩ := h a q1
    exact ⟨a, ws, q1, n0, w1, w2, q5, q6⟩
  apart := fun i j b c xs ys a hij e1 e2 => by
    obtain ⟨_, h1, _⟩ := ho i b xs e1
    obtain ⟨_, h2, _⟩ := ho j c ys e2
    exact ok.apart i j b c _ _ a hij h1 h2
  grow := ok.grow.trans g fun p z => ok.ioOr z
/-- the same slots; the owned lists untouched -/
theorem EnvOk.same (ok : EnvOk K B σ Γ H0 H) (g : Grow (fun _ => False) H0 H H0' H') (sub : Ex H0' H') : EnvOk K B σ Γ H0' H' :=
  ok.step (g.wide fun _ h => h.elim) sub (fun _ _ h => .inl h) (fun _ _ h => h) fun i b ys h => ⟨ys, h, fun a e => by
    obtain ⟨a', vs, q1, q2, q3, q4, _⟩ := ok.own i b ys h
    rw [e] at q1; cases q1
    refine ⟨?_, vs, g.keep _ _ q3 id, q4.m g.ex0⟩
    rw [g.old a (by rw [q3]; simp) id]; exact q2⟩
/-- a new object that is data -/
theorem Grow.data {O : Addr → Prop} {p : Addr} {o : HO} (h : H p = none) (sub : Ex H0 H) : Grow O H0 H (upd H0 p o) (upd H p o) :=
  ⟨Ex.new (fresh_back sub h), fun q u e _ => by rw [upd_ne (ne_of_none e h)]; exact e, fun q e _ => upd_ne fun z => e (by rw [z]; exact h),
    fun q e => by
      unfold upd; split
      · simp
      · exact e⟩
/-- a new object that is not yet data -/
theorem Grow.fresh {O : Addr → Prop} {p : Addr} {o : HO} (h : H p = none) : Grow O H0 H H0 (upd H p o) :=
  ⟨Ex.refl _, fun q u e _ => by rw [upd_ne (ne_of_none e h)]; exact e, fun q e _ => rfl,
    fun q e => by
      unfold upd; split
      · simp
      · exact e⟩
theorem Ex.upd2 {p : Addr} {o : HO} (h : Ex H0 H) : Ex (upd H0 p o) (upd H p o) := fun q u e => by
  unfold upd at e ⊢
  split
  · rename_i z; rw [if_pos z] at e; exact e
  · rename_i z; rw [if_neg z] at e; exact h q u e
theorem Ex.upd1 {p : Addr} {o : HO} (h : Ex H0 H) (n : H0 p = none) : Ex H0 (upd H p o) := h.mut n
end

/-! ### what is wanted -/
section
variable (X : Cx) (B : Bg) (E : XK)
def XW (c : Str) (x : D) : Prop := ∀ C d v H0' H', X.mg c = some (.ref C) → H' d = some (.xd [(fieldOf c, v)]) → Rp X.K H0' v x → Ex H0' H' → Grow (fun p => ∃ i, B.io i = some p) B.He0 B.He H0' H' → E (.ref C) (some d) H'
/-- what is known of a value: data; a new list -/
inductive RV (K : PySem.W.Frag) (H0 H H0' H' : Hp) : R → V → Prop
  | d {x : D} {v : V} : Rp K H0' v x → RV K H0 H H0' H' (.d x) v
  | f {xs : List D} {a : Addr} {vs : List V} : H a = none → H0' a = none → H' a = some (.lst vs) → RpAll K H0' vs xs → RV K H0 H H0' H' (.f xs) (.ref a)
def EW (σ : L2.St) (Γ : Ga) (H0 H : Hp) (r : Res (Ga × R)) (Q : VK) : Prop := match r with
  | .ok (Γ', x) => ∀ v H0' H', EnvOk X.K B σ Γ' H0' H' → Grow (OwnOf σ Γ) H0 H H0' H' → Less Γ Γ' → RV X.K H0 H H0' H' x v → Q v H'
  | .exc c x => XW X B E c x
  | .stuck => False
def DW (σ : L2.St) (Γ : Ga) (H0 H : Hp) (r : Res (Ga × D)) (Q : VK) : Prop := match r with
  | .ok (Γ', x) => ∀ v H0' H', EnvOk X.K B σ Γ' H0' H' → Grow (OwnOf σ Γ) H0 H H0' H' → Less Γ Γ' → Rp X.K H0' v x → Q v H'
  | .exc c x => XW X B E c x
  | .stuck => False
def TW (σ : L2.St) (Γ : Ga) (H0 H : Hp) (r : Res (Ga × Bool)) (Q : Bool → Hp → Prop) : Prop := match r with
  | .ok (Γ', b) => ∀ H0' H', EnvOk X.K B σ Γ' H0' H' → Grow (OwnOf σ Γ) H0 H H0' H' → Less Γ Γ' → Q b H'
  | .exc c x => XW X B E c x
  | .stuck => False
def AW (σ : L2.St) (Γ : Ga) (H0 H : Hp) (r : Res (Ga × List D)) (Q : List V → Hp → Prop) : Prop := match r with
  | .ok (Γ', xs) => ∀ vs H0' H', EnvOk X.K B σ Γ' H0' H' → Grow (OwnOf σ Γ) H0 H H0' H' → Less Γ Γ' → RpAll X.K H0' vs xs → Q vs H'
  | .exc c x => XW X B E c x
  | .stuck => False
end
structure JE (X : Cx) (E : XK) (e : Expr) (s : Ga → Res (Ga × R)) : Prop where
  ex : ∃ t, PE X e t ∧ ∀ B σ Γ H0 H Q, EnvOk X.K B σ Γ H0 H → EW X B E σ Γ H0 H (s Γ) Q → t σ H Q
structure JD (X : Cx) (E : XK) (e : Expr) (s : Ga → Res (Ga × D)) : Prop where
  ex : ∃ t, PE X e t ∧ ∀ B σ Γ H0 H Q, EnvOk X.K B σ Γ H0 H → DW X B E σ Γ H0 H (s Γ) Q → t σ H Q
structure JT (X : Cx) (E : XK) (e : Expr) (s : Ga → Res (Ga × Bool)) : Prop where
  ex : ∃ t, PT X e t ∧ ∀ B σ Γ H0 H Q, EnvOk X.K B σ Γ H0 H → TW X B E σ Γ H0 H (s Γ) Q → t σ H Q
structure JA (X : Cx) (E : XK) (es : List Expr) (s : Ga → Res (Ga × List D)) : Prop where
  ex : ∃ t, PA X es t ∧ ∀ B σ Γ H0 H Q, EnvOk X.K B σ Γ H0 H → AW X B E σ Γ H0 H (s Γ) Q → t σ H Q

def pubR : R → D
  | .d x => x
  | .f xs => .list xs
def sPub (s : Ga → Res (Ga × R)) : Ga → Res (Ga × D) := fun Γ => (s Γ).bind fun p => .ok (p.1, pubR p.2)
def sDat (s : Ga → Res (Ga × D)) : Ga → Res (Ga × R) := fun Γ => (s Γ).bind fun p => .ok (p.1, .d p.2)

section
variable {X : Cx} {E : XK} {e a b : Expr} {B : Bg} {σ : L2.St} {Γ Γ1 : Ga} {H0 H H01 H1 : Hp}
/-- a new list is made data -/
theorem pub_ok {K : PySem.W.Frag} {x : R} {v : V} (ok0 : EnvOk K B σ Γ H0 H) (ok : EnvOk K B σ Γ1 H01 H1) (g : Grow (OwnOf σ Γ) H0 H H01 H1) (l : Less Γ Γ1) (r : RV K H0 H H01 H1 x v) :
    ∃ H02, EnvOk K B σ Γ1 H02 H1 ∧ Grow (OwnOf σ Γ) H0 H H02 H1 ∧ Rp K H02 v (pubR x) := by
  cases r with
  | d r => exact ⟨H01, ok, g, r⟩
  | @f xs a vs na n0 e r =>
    have ex : Ex H01 (upd H01 a (.lst vs)) := Ex.new n0
    have sub : Ex (upd H01 a (.lst vs)) H1 := fun q u eq => by
      unfold upd at eq
      split at eq
      · rename_i z; cases eq; rw [z]; exact e
      · exact ok.sub q u eq
    have no : ¬ OwnOf σ Γ1 a := fun z => (ok0.ownLive (l.own z)).1 na
    have hb : B.He a = none := by
      cases q : B.He a with
      | none => rfl
      | some o => exact absurd na (ok0.grow.live a (by rw [q]; simp))
    have g2 : Grow (fun p => p = a) H01 H1 (upd H01 a (.lst vs)) H1 := ⟨ex, fun _ _ q _ => q, fun p _ n => upd_ne n, fun _ q => q⟩
    refine ⟨upd H01 a (.lst vs), ?_, ?_, .lst upd_same (r.m ex)⟩
    · refine ⟨sub, ok.len, fun i x q => ?_, fun i ns q => ?_, fun i b xs q => ?_, ok.apart, ok.grow.trans g2 fun p z => .inr (by rw [z]; exact hb)⟩
      · obtain ⟨v, e1, r1⟩ := ok.dat i x q
        exact ⟨v, e1, r1.m ex⟩
      · obtain ⟨v, e1, r1⟩ := ok.scr i ns q
        exact ⟨v, e1, ex_l ex r1⟩
      · obtain ⟨a', ws, q1, q2, q3, q4, q5, q6⟩ := ok.own i b xs q
        refine ⟨a', ws, q1, ?_, q3, q4.m ex, q5, q6⟩
        rw [upd_ne fun z => no ⟨i, b, xs, q, by rw [← z]; exact q1⟩]; exact q2
    · exact g.trans g2 fun p z => .inr (by rw [z]; exact na)
end
end Mi
namespace Mi
open PySem L2 Evl

/-- a value that is read at once: data, or a list of the def's own -/
def RpB (K : PySem.W.Frag) (H0 H : Hp) (v : V) (x : D) : Prop := Rp K H0 v x ∨ ∃ a vs xs, v = .ref a ∧ x = .list xs ∧ H a = some (.lst vs) ∧ RpAll K H0 vs xs
section
variable {K : PySem.W.Frag} {H0 H : Hp} {v : V} {x : D}
theorem RpB.dp (r : RpB K H0 H v x) (s : Ex H0 H) : Dp K H v x := by
  rcases r with r | ⟨a, vs, xs, rfl, rfl, e, r⟩
  · exact (r.m s).dp
  · exact .lst (SqL.of e) (r.m s).dp
theorem RpB.lst {xs : List D} (r : RpB K H0 H v (.list xs)) (s : Ex H0 H) : ∃ a vs, v = .ref a ∧ H a = some (.lst vs) ∧ RpAll K H0 vs xs := by
  rcases r with r | ⟨a, vs, ys, rfl, e, h, r⟩
  · cases r with
    | lst h1 h2 => exact ⟨_, _, rfl, s _ _ h1, h2⟩
  · cases e; exact ⟨a, vs, rfl, h, r⟩
theorem RpB.tup {xs : List D} (r : RpB K H0 H v (.tuple xs)) (s : Ex H0 H) : ∃ a vs, v = .ref a ∧ SqT K H a vs ∧ RpAll K H0 vs xs := by
  rcases r with r | ⟨a, vs, ys, rfl, e, h, r⟩
  · cases r with
    | tup h1 h2 => exact ⟨_, _, rfl, ex_t s h1, h2⟩
  · cases e
theorem RpB.int {i : Int} (r : RpB K H0 H v (.int i)) : v = .int i := by
  rcases r with r | ⟨a, vs, ys, rfl, e, h, r⟩
  · cases r; rfl
  · cases e
theorem RpB.bl {i : Bool} (r : RpB K H0 H v (.bool i)) : v = .bl i := by
  rcases r with r | ⟨a, vs, ys, rfl, e, h, r⟩
  · cases r; rfl
  · cases e
theorem RpB.str {i : Str} (r : RpB K H0 H v (.str i)) : v = .str i := by
  rcases r with r | ⟨a, vs, ys, rfl, e, h, r⟩
  · cases r; rfl
  · cases e
theorem RpB.non (r : RpB K H0 H v .none) : v = .non := by
  rcases r with r | ⟨a, vs, ys, rfl, e, h, r⟩
  · cases r; rfl
  · cases e
theorem Rp.ofInt {i : Int} (r : Rp K H0 v (.int i)) : v = .int i := by cases r; rfl
theorem Rp.ofBl {i : Bool} (r : Rp K H0 v (.bool i)) : v = .bl i := by cases r; rfl
theorem Rp.ofStr {i : Str} (r : Rp K H0 v (.str i)) : v = .str i := by cases r; rfl
theorem Rp.ofNon (r : Rp K H0 v .none) : v = .non := by cases r; rfl
def isNonD : D → Bool
  | .none => true
  | _ => false
theorem Rp.isNon (r : RpB K H0 H v x) : decide (v = .non) = isNonD x := by
  rcases r with r | ⟨a, vs, ys, rfl, rfl, h, r⟩
  · cases r <;> simp [isNonD]
  · simp [isNonD]
end
def BW (X : Cx) (B : Bg) (E : XK) (σ : L2.St) (Γ : Ga) (H0 H : Hp) (r : Res (Ga × D)) (Q : VK) : Prop := match r with
  | .ok (Γ', x) => ∀ v H0' H', EnvOk X.K B σ Γ' H0' H' → Grow (OwnOf σ Γ) H0 H H0' H' → Less Γ Γ' → RpB X.K H0' H' v x → Q v H'
  | .exc c x => XW X B E c x
  | .stuck => False
structure JB (X : Cx) (E : XK) (e : Expr) (s : Ga → Res (Ga × D)) : Prop where
  ex : ∃ t, PE X e t ∧ ∀ B σ Γ H0 H Q, EnvOk X.K B σ Γ H0 H → BW X B E σ Γ H0 H (s Γ) Q → t σ H Q
/-- what is wanted, whatever it is of -/
structure WOk (X : Cx) (B : Bg) (E : XK) (σ : L2.St) {β : Type} (W : Ga → Hp → Hp → Res β → Prop) : Prop where
  exc : ∀ Γ H0 H c x, W Γ H0 H (.exc c x) → XW X B E c x
  stuck : ∀ Γ H0 H, ¬ W Γ H0 H .stuck
  shift : ∀ Γ H0 H Γ1 H01 H1 r, EnvOk X.K B σ Γ H0 H → Grow (OwnOf σ Γ) H0 H H01 H1 → Less Γ Γ1 → W Γ H0 H r → W Γ1 H01 H1 r
section
variable {X : Cx} {B : Bg} {E : XK} {σ : L2.St}
theorem RV.back {K : PySem.W.Frag} {H0 H H01 H1 H02 H2 : Hp} {r : R} {v : V} {O : Addr → Prop} (g : Grow O H0 H H01 H1) (h : RV K H01 H1 H02 H2 r v) : RV K H0 H H02 H2 r v := by
  cases h with
  | d r => exact .d r
  | f n n0 e r => exact .f (by
      cases q : H _ with
      | none => rfl
      | some o => exact absurd n (g.live _ (by rw [q]; simp))) n0 e r
theorem shift_g {Γ Γ1 : Ga} {H0 H H01 H1 H02 H2 : Hp} (g : Grow (OwnOf σ Γ) H0 H H01 H1) (l : Less Γ Γ1) (g2 : Grow (OwnOf σ Γ1) H01 H1 H02 H2) : Grow (OwnOf σ Γ) H0 H H02 H2 := g.trans g2 fun p z => .inl (l.own z)
theorem wok_E {Q : VK} : WOk X B E σ fun Γ H0 H r => EW X B E σ Γ H0 H r Q where
  exc := fun _ _ _ _ _ h => h
  stuck := fun _ _ _ h => h
  shift := fun Γ H0 H Γ1 H01 H1 r ok g l w => by
    cases r with
    | stuck => exact w
    | exc c x => exact w
    | ok p => exact fun v H0' H' o' g' l' r' => w v H0' H' o' (shift_g g l g') (l.trans l') (r'.back g)
theorem wok_D {Q : VK} : WOk X B E σ fun Γ H0 H r => DW X B E σ Γ H0 H r Q where
  exc := fun _ _ _ _ _ h => h
  stuck := fun _ _ _ h => h
  shift := fun Γ H0 H Γ1 H01 H1 r ok g l w => by
    cases r with
    | stuck => exact w
    | exc c x => exact w
    | ok p => exact fun v H0' H' o' g' l' r' => w v H0' H' o' (shift_g g l g') (l.trans l') r'
theorem wok_B {Q : VK} : WOk X B E σ fun Γ H0 H r => BW X B E σ Γ H0 H r Q where
  exc := fun _ _ _ _ _ h => h
  stuck := fun _ _ _ h => h
  shift := fun Γ H0 H Γ1 H01 H1 r ok g l w => by
    cases r with
    | stuck => exact w
    | exc c x => exact w
    | ok p => exact fun v H0' H' o' g' l' r' => w v H0' H' o' (shift_g g l g') (l.trans l') r'
theorem wok_T {Q : Bool → Hp → Prop} : WOk X B E σ fun Γ H0 H r => TW X B E σ Γ H0 H r Q where
  exc := fun _ _ _ _ _ h => h
  stuck := fun _ _ _ h => h
  shift := fun Γ H0 H Γ1 H01 H1 r ok g l w => by
    cases r with
    | stuck => exact w
    | exc c x => exact w
    | ok p => exact fun H0' H' o' g' l' => w H0' H' o' (shift_g g l g') (l.trans l')
theorem wok_A {Q : List V → Hp → Prop} : WOk X B E σ fun Γ H0 H r => AW X B E σ Γ H0 H r Q where
  exc := fun _ _ _ _ _ h => h
  stuck := fun _ _ _ h => h
  shift := fun Γ H0 H Γ1 H01 H1 r ok g l w => by
    cases r with
    | stuck => exact w
    | exc c x => exact w
    | ok p => exact fun v H0' H' o' g' l' r' => w v H0' H' o' (shift_g g l g') (l.trans l') r'
section
variable {β : Type} {W : Ga → Hp → Hp → Res β → Prop} {Γ : Ga} {H0 H : Hp}
theorem d_then {t : TE} {s : Ga → Res (Ga × D)} {f : Ga × D → Res β} {Q : VK} (ha : ∀ B σ Γ H0 H Q, EnvOk X.K B σ Γ H0 H → DW X B E σ Γ H0 H (s Γ) Q → t σ H Q) (wo : WOk X B E σ W) (ok : EnvOk X.K B σ Γ H0 H) (w : W Γ H0 H ((s Γ).bind f))
    (k : ∀ Γ1 x v H01 H1, W Γ1 H01 H1 (f (Γ1, x)) → EnvOk X.K B σ Γ1 H01 H1 → Grow (OwnOf σ Γ) H0 H H01 H1 → Less Γ Γ1 → Rp X.K H01 v x → Q v H1) : t σ H Q := by
  refine ha B σ Γ H0 H Q ok ?_
  cases hs : s Γ with
  | stuck => rw [hs] at w; exact (wo.stuck _ _ _ w).elim
  | exc c x => rw [hs] at w; exact wo.exc _ _ _ _ _ w
  | ok p =>
    rw [hs] at w
    exact fun v H01 H1 ok1 g l r => k _ _ v H01 H1 (wo.shift _ _ _ _ _ _ _ ok g l w) ok1 g l r
theorem b_then {t : TE} {s : Ga → Res (Ga × D)} {f : Ga × D → Res β} {Q : VK} (ha : ∀ B σ Γ H0 H Q, EnvOk X.K B σ Γ H0 H → BW X B E σ Γ H0 H (s Γ) Q → t σ H Q) (wo : WOk X B E σ W) (ok : EnvOk X.K B σ Γ H0 H) (w : W Γ H0 H ((s Γ).bind f))
    (k : ∀ Γ1 x v H01 H1, W Γ1 H01 H1 (f (Γ1, x)) → EnvOk X.K B σ Γ1 H01 H1 → Grow (OwnOf σ Γ) H0 H H01 H1 → Less Γ Γ1 → RpB X.K H01 H1 v x → Q v H1) : t σ H Q := by
  refine ha B σ Γ H0 H Q ok ?_
  cases hs : s Γ with
  | stuck => rw [hs] at w; exact (wo.stuck _ _ _ w).elim
  | exc c x => rw [hs] at w; exact wo.exc _ _ _ _ _ w
  | ok p =>
    rw [hs] at w
    exact fun v H01 H1 ok1 g l r => k _ _ v H01 H1 (wo.shift _ _ _ _ _ _ _ ok g l w) ok1 g l r
theorem t_then {t : TT} {s : Ga → Res (Ga × Bool)} {f : Ga × Bool → Res β} {Q : Bool → Hp → Prop} (ha : ∀ B σ Γ H0 H Q, EnvOk X.K B σ Γ H0 H → TW X B E σ Γ H0 H (s Γ) Q → t σ H Q) (wo : WOk X B E σ W) (ok : EnvOk X.K B σ Γ H0 H) (w : W Γ H0 H ((s Γ).bind f))
    (k : ∀ Γ1 b H01 H1, W Γ1 H01 H1 (f (Γ1, b)) → EnvOk X.K B σ Γ1 H01 H1 → Grow (OwnOf σ Γ) H0 H H01 H1 → Less Γ Γ1 → Q b H1) : t σ H Q := by
  refine ha B σ Γ H0 H Q ok ?_
  cases hs : s Γ with
  | stuck => rw [hs] at w; exact (wo.stuck _ _ _ w).elim
  | exc c x => rw [hs] at w; exact wo.exc _ _ _ _ _ w
  | ok p =>
    rw [hs] at w
    exact fun H01 H1 ok1 g l => k _ _ H01 H1 (wo.shift _ _ _ _ _ _ _ ok g l w) ok1 g l
theorem a_then {t : TA} {s : Ga → Res (Ga × List D)} {f : Ga × List D → Res β} {Q : List V → Hp → Prop} (ha : ∀ B σ Γ H0 H Q, EnvOk X.K B σ Γ H0 H → AW X B E σ Γ H0 H (s Γ) Q → t σ H Q) (wo : WOk X B E σ W) (ok : EnvOk X.K B σ Γ H0 H) (w : W Γ H0 H ((s Γ).bind f))
    (k : ∀ Γ1 x v H01 H1, W Γ1 H01 H1 (f (Γ1, x)) → EnvOk X.K B σ Γ1 H01 H1 → Grow (OwnOf σ Γ) H0 H H01 H1 → Less Γ Γ1 → RpAll X.K H01 v x → Q v H1) : t σ H Q := by
  refine ha B σ Γ H0 H Q ok ?_
  cases hs : s Γ with
  | stuck => rw [hs] at w; exact (wo.stuck _ _ _ w).elim
  | exc c x => rw [hs] at w; exact wo.exc _ _ _ _ _ w
  | ok p =>
    rw [hs] at w
    exact fun v H01 H1 ok1 g l r => k _ _ v H01 H1 (wo.shift _ _ _ _ _ _ _ ok g l w) ok1 g l r
theorem e_then {t : TE} {s : Ga → Res (Ga × R)} {f : Ga × R → Res β} {Q : VK} (ha : ∀ B σ Γ H0 H Q, EnvOk X.K B σ Γ H0 H → EW X B E σ Γ H0 H (s Γ) Q → t σ H Q) (wo : WOk X B E σ W) (ok : EnvOk X.K B σ Γ H0 H) (w : W Γ H0 H ((s Γ).bind f))
    (k : ∀ Γ1 x v H01 H1, W Γ1 H01 H1 (f (Γ1, x)) → EnvOk X.K B σ Γ1 H01 H1 → Grow (OwnOf σ Γ) H0 H H01 H1 → Less Γ Γ1 → RV X.K H0 H H01 H1 x v → Q v H1) : t σ H Q := by
  refine ha B σ Γ H0 H Q ok ?_
  cases hs : s Γ with
  | stuck => rw [hs] at w; exact (wo.stuck _ _ _ w).elim
  | exc c x => rw [hs] at w; exact wo.exc _ _ _ _ _ w
  | ok p =>
    rw [hs] at w
    exact fun v H01 H1 ok1 g l r => k _ _ v H01 H1 (wo.shift _ _ _ _ _ _ _ ok g l w) ok1 g l r
end
end

/-! ### from one judgement to another -/
section
variable {X : Cx} {E : XK} {e a b c : Expr} {pos : Pos}
theorem JE.toD {s : Ga → Res (Ga × R)} (h : JE X E e s) : JD X E e (sPub s) := by
  obtain ⟨t, p, ha⟩ := h.ex
  refine ⟨t, p, fun B σ Γ H0 H Q ok w => ?_⟩
  refine ha B σ Γ H0 H Q ok ?_
  unfold sPub at w
  cases hs : s Γ with
  | stuck => rw [hs] at w; exact w
  | exc c x => rw [hs] at w; exact w
  | ok p =>
    rw [hs] at w
    intro v H01 H1 ok1 g l r
    obtain ⟨H02, o2, g2, r2⟩ := pub_ok ok ok1 g l r
    exact w v H02 H1 o2 g2 l r2
theorem JD.toE {s : Ga → Res (Ga × D)} (h : JD X E e s) : JE X E e (sDat s) := by
  obtain ⟨t, p, ha⟩ := h.ex
  refine ⟨t, p, fun B σ Γ H0 H Q ok w => ?_⟩
  exact d_then ha wok_E ok w fun Γ1 x v H01 H1 w1 ok1 g l r => w1 v H01 H1 ok1 (Grow.refl _ _ _) (Less.refl _) (.d r)
theorem JD.toB {s : Ga → Res (Ga × D)} (h : JD X E e s) : JB X E e s := by
  obtain ⟨t, p, ha⟩ := h.ex
  refine ⟨t, p, fun B σ Γ H0 H Q ok w => ?_⟩
  refine ha B σ Γ H0 H Q ok ?_
  cases hs : s Γ with
  | stuck => rw [hs] at w; exact w
  | exc c x => rw [hs] at w; exact w
  | ok p => rw [hs] at w; exact fun v H01 H1 ok1 g l r => w v H01 H1 ok1 g l (.inl r)
theorem JE.toB {s : Ga → Res (Ga × R)} (h : JE X E e s) : JB X E e (sPub s) := h.toD.toB

/-! ### names, constants -/
def sName (i : Nat) : Ga → Res (Ga × D) := fun Γ => match Γ[i]? with
  | some (.d x) => .ok (Γ, x)
  | some (.own false xs) => .ok (Γ.set i (.d (.list xs)), .list xs)
  | _ => .stuck
def slD (Γ : Ga) (i : Nat) : Res D := match Γ[i]? with
  | some (.d x) => .ok x
  | some (.own _ xs) => .ok (.list xs)
  | _ => .stuck
def sBor (i : Nat) : Ga → Res (Ga × D) := fun Γ => (slD Γ i).bind fun x => .ok (Γ, x)
theorem slD_ok {K : PySem.W.Frag} {B : Bg} {σ : L2.St} {Γ : Ga} {H0 H : Hp} {i : Nat} {x : D} (ok : EnvOk K B σ Γ H0 H) (h : slD Γ i = .ok x) : ∃ v, σ[i]? = some (some v) ∧ RpB K H0 H v x := by
  unfold slD at h
  split at h
  · rename_i y hy
    cases h
    obtain ⟨v, e, r⟩ := ok.dat i _ hy
    exact ⟨v, e, .inl r⟩
  · rename_i b xs hy
    cases h
    obtain ⟨a, vs, q1, q2, q3, q4, _⟩ := ok.own i _ _ hy
    exact ⟨_, q1, .inr ⟨a, vs, xs, rfl, rfl, q3, q4⟩⟩
  · cases h
theorem jb_name (i : Nat) {t : TE} (h : PE X e t) (ht : t = tVar i) : JB X E e (sBor i) := by
  subst ht
  refine ⟨_, h, fun B σ Γ H0 H Q ok w => ?_⟩
  unfold sBor at w
  cases hs : slD Γ i with
  | stuck => rw [hs] at w; exact w.elim
  | exc c x =>
    unfold slD at hs
    split at hs <;> cases hs
  | ok x =>
    rw [hs] at w
    obtain ⟨v, e1, r⟩ := slD_ok ok hs
    exact ⟨v, e1, w v H0 H ok (Grow.refl _ _ _) (Less.refl _) r⟩
theorem jd_name (i : Nat) {t : TE} (h : PE X e t) (ht : t = tVar i) : JD X E e (sName i) := by
  subst ht
  refine ⟨_, h, fun B σ Γ H0 H Q ok w => ?_⟩
  unfold sName at w
  split at w
  · rename_i x hx
    obtain ⟨v, e1, r⟩ := ok.dat i x hx
    exact ⟨v, e1, w v H0 H ok (Grow.refl _ _ _) (Less.refl _) r⟩
  · rename_i xs hx
    obtain ⟨a, vs, q1, q2, q3, q4, q5, q6⟩ := ok.own i _ _ hx
    have ex : Ex H0 (upd H0 a (.lst vs)) := Ex.new q2
    have hb : B.He a = none := q6 rfl
    have sub : Ex (upd H0 a (.lst vs)) H := fun q u eq => by
      unfold upd at eq
      split at eq
      · rename_i z; cases eq; rw [z]; exact q3
      · exact ok.sub q u eq
    have hi : i < Γ.length := (List.getElem?_eq_some_iff.mp hx).1
    have back : ∀ (j : Nat) s, (Γ.set i (.d (.list xs)))[j]? = some s → (j = i ∧ s = .d (.list xs)) ∨ (j ≠ i ∧ Γ[j]? = some s) := fun j s hj => by
      by_cases z : j = i
      · subst z; rw [List.getElem?_set_self hi] at hj; cases hj; exact .inl ⟨rfl, rfl⟩
      · rw [List.getElem?_set_ne (Ne.symm z)] at hj; exact .inr ⟨z, hj⟩
    have g2 : Grow (fun p => p = a) H0 H (upd H0 a (.lst vs)) H := ⟨ex, fun _ _ q _ => q, fun p _ n => upd_ne n, fun _ q => q⟩
    have ok1 : EnvOk X.K B σ (Γ.set i (.d (.list xs))) (upd H0 a (.lst vs)) H := by
      refine ⟨sub, by rw [List.length_set]; exact ok.len, fun j x q => ?_, fun j ns q => ?_, fun j b ys q => ?_, fun j k b c ys zs p hjk h1 h2 => ?_, ok.grow.trans g2 fun p z => .inr (by rw [z]; exact hb)⟩
      · rcases back j _ q with ⟨z, z2⟩ | ⟨z, z2⟩
        · cases z2; rw [z]; exact ⟨.ref a, q1, .lst upd_same (q4.m ex)⟩
        · obtain ⟨v, e1, r1⟩ := ok.dat j x z2
          exact ⟨v, e1, r1.m ex⟩
      · rcases back j _ q with ⟨z, z2⟩ | ⟨z, z2⟩
        · cases z2
        · obtain ⟨v, e1, r1⟩ := ok.scr j ns z2
          exact ⟨v, e1, ex_l ex r1⟩
      · rcases back j _ q with ⟨z, z2⟩ | ⟨z, z2⟩
        · cases z2
        · obtain ⟨a', ws, p1, p2, p3, p4, p5, p6⟩ := ok.own j b ys z2
          refine ⟨a', ws, p1, ?_, p3, p4.m ex, p5, p6⟩
          rw [upd_ne fun z3 => ok.apart j i _ _ _ _ a' z z2 hx p1 (by rw [q1, z3])]; exact p2
      · rcases back j _ h1 with ⟨z, z2⟩ | ⟨z, z2⟩
        · cases z2
        · rcases back k _ h2 with ⟨y, y2⟩ | ⟨y, y2⟩
          · cases y2
          · exact ok.apart j k _ _ _ _ p hjk z2 y2
    refine ⟨.ref a, q1, w (.ref a) _ H ok1 (g2.wide fun p z => ⟨i, false, xs, hx, by rw [z]; exact q1⟩) (fun j b ys q => ?_) (.lst upd_same (q4.m ex))⟩
    rcases back j _ q with ⟨z, z2⟩ | ⟨z, z2⟩
    · cases z2
    · exact ⟨ys, z2⟩
  · exact w.elim
def sC (x : D) : Ga → Res (Ga × D) := fun Γ => .ok (Γ, x)
theorem jd_const {x : D} {v : V} {t : TE} (h : PE X e t) (ht : t = tC v) (r : ∀ K H, Rp K H v x) : JD X E e (sC x) := by
  subst ht
  exact ⟨_, h, fun B σ Γ H0 H Q ok w => w v H0 H ok (Grow.refl _ _ _) (Less.refl _) (r _ _)⟩
theorem jd_int {i : Int} {j} : JD X E (.Constant (.int i) j pos) (sC (.int i)) := jd_const pe_int rfl fun _ _ => .int i
theorem jd_bl {i : Bool} {j} : JD X E (.Constant (.bool i) j pos) (sC (.bool i)) := jd_const pe_bl rfl fun _ _ => .bl i
theorem jd_non {j} : JD X E (.Constant .none j pos) (sC .none) := jd_const pe_non rfl fun _ _ => .non
theorem jd_str {x : Str} {j} : JD X E (.Constant (.str x) j pos) (sC (.str x)) := jd_const pe_str rfl fun _ _ => .str x

/-! ### two-place operations -/
def OpD (X : Cx) (E : XK) (f : Value → Value → Sem Value) (g : D → D → Res R) : Prop :=
  ∃ r, OpR X f r ∧ ∀ B σ Γ H0 H Q v u x y, EnvOk X.K B σ Γ H0 H → RpB X.K H0 H v x → RpB X.K H0 H u y → EW X B E σ Γ H0 H ((g x y).bind fun z => .ok (Γ, z)) Q → r v u H Q
def sBin (g : D → D → Res R) (sa sb : Ga → Res (Ga × D)) : Ga → Res (Ga × R) := fun Γ => (sa Γ).bind fun p => (sb p.1).bind fun q => (g p.2 q.2).bind fun z => .ok (q.1, z)
/-- the left one a name, read behind the right one -/
def sBinN (g : D → D → Res R) (i : Nat) (sb : Ga → Res (Ga × D)) : Ga → Res (Ga × R) := fun Γ => (slD Γ i).bind fun _ => (sb Γ).bind fun q => (slD q.1 i).bind fun x => (g x q.2).bind fun z => .ok (q.1, z)
theorem bin_sound {f : Value → Value → Sem Value} {g : D → D → Res R} {sa sb : Ga → Res (Ga × D)} {r : R2} {ta tb : TE}
    (hr : ∀ B σ Γ H0 H Q v u x y, EnvOk X.K B σ Γ H0 H → RpB X.K H0 H v x → RpB X.K H0 H u y → EW X B E σ Γ H0 H ((g x y).bind fun z => .ok (Γ, z)) Q → r v u H Q)
    (ha : ∀ B σ Γ H0 H Q, EnvOk X.K B σ Γ H0 H → DW X B E σ Γ H0 H (sa Γ) Q → ta σ H Q) (hb : ∀ B σ Γ H0 H Q, EnvOk X.K B σ Γ H0 H → BW X B E σ Γ H0 H (sb Γ) Q → tb σ H Q) :
    ∀ B σ Γ H0 H Q, EnvOk X.K B σ Γ H0 H → EW X B E σ Γ H0 H (sBin g sa sb Γ) Q → tOp r ta tb σ H Q := fun B σ Γ H0 H Q ok w => by
  show ta σ H fun x H1 => tb σ H1 fun y H2 => r x y H2 Q
  refine d_then ha wok_E ok w fun Γ1 x v H01 H1 w1 ok1 g1 l1 r1 => ?_
  refine b_then hb wok_E ok1 w1 fun Γ2 y u H02 H2 w2 ok2 g2 l2 r2 => ?_
  exact hr B σ Γ2 H02 H2 Q v u x y ok2 (.inl (r1.m g2.ex0)) r2 w2
theorem binN_sound {g : D → D → Res R} {i : Nat} {sb : Ga → Res (Ga × D)} {r : R2} {tb : TE}
    (hr : ∀ B σ Γ H0 H Q v u x y, EnvOk X.K B σ Γ H0 H → RpB X.K H0 H v x → RpB X.K H0 H u y → EW X B E σ Γ H0 H ((g x y).bind fun z => .ok (Γ, z)) Q → r v u H Q)
    (hb : ∀ B σ Γ H0 H Q, EnvOk X.K B σ Γ H0 H → BW X B E σ Γ H0 H (sb Γ) Q → tb σ H Q) :
    ∀ B σ Γ H0 H Q, EnvOk X.K B σ Γ H0 H → EW X B E σ Γ H0 H (sBinN g i sb Γ) Q → tOp r (tVar i) tb σ H Q := fun B σ Γ H0 H Q ok w => by
  unfold sBinN at w
  cases h0 : slD Γ i with
  | stuck => rw [h0] at w; exact w.elim
  | exc c x => unfold slD at h0; split at h0 <;> cases h0
  | ok x0 =>
    rw [h0] at w
    obtain ⟨v, ev, _⟩ := slD_ok ok h0
    refine ⟨v, ev, ?_⟩
    show tb σ H fun y H2 => r v y H2 Q
    refine b_then hb wok_E ok w fun Γ2 y u H02 H2 w2 ok2 g2 l2 r2 => ?_
    cases hs : slD Γ2 i with
    | stuck => simp only [hs] at w2; exact w2.elim
    | exc c x => unfold slD at hs; split at hs <;> cases hs
    | ok x =>
      simp only [hs] at w2
      obtain ⟨v', e', r'⟩ := slD_ok ok2 hs
      rw [ev] at e'; cases e'
      exact hr B σ Γ2 H02 H2 Q v u x y ok2 r' r2 w2
end
end Mi
namespace Mi
open PySem L2 Evl

section
variable {X : Cx} {E : XK} {e a b c : Expr} {pos : Pos}
theorem opd_d {B : Bg} {σ : L2.St} {Γ : Ga} {H0 H : Hp} {Q : VK} {x : D} {v : V} (ok : EnvOk X.K B σ Γ H0 H) (w : EW X B E σ Γ H0 H (.ok (Γ, .d x)) Q) (r : Rp X.K H0 v x) : Q v H :=
  w v H0 H ok (Grow.refl _ _ _) (Less.refl _) (.d r)
/-- a new tuple as data -/
theorem opd_tup {B : Bg} {σ : L2.St} {Γ : Ga} {H0 H : Hp} {Q : VK} {xs : List D} {vs : List V} {p : Addr} (ok : EnvOk X.K B σ Γ H0 H) (w : EW X B E σ Γ H0 H (.ok (Γ, .d (.tuple xs))) Q) (r : RpAll X.K H0 vs xs) (hp : H p = none) : Q (.ref p) (upd H p (.tup vs)) :=
  w (.ref p) (upd H0 p (.tup vs)) _ (ok.same (Grow.data hp ok.sub) (Ex.upd2 ok.sub)) (Grow.data hp ok.sub) (Less.refl _) (.d (.tup (SqT.of upd_same) (r.m (Ex.new (fresh_back ok.sub hp)))))
/-- a new list -/
theorem opd_lst {B : Bg} {σ : L2.St} {Γ : Ga} {H0 H : Hp} {Q : VK} {xs : List D} {vs : List V} {p : Addr} (ok : EnvOk X.K B σ Γ H0 H) (w : EW X B E σ Γ H0 H (.ok (Γ, .f xs)) Q) (r : RpAll X.K H0 vs xs) (hp : H p = none) : Q (.ref p) (upd H p (.lst vs)) :=
  w (.ref p) H0 _ (ok.same (Grow.fresh hp) (Ex.upd1 ok.sub (fresh_back ok.sub hp))) (Grow.fresh hp) (Less.refl _) (.f hp (fresh_back ok.sub hp) upd_same r)

/-! ### arithmetic -/
def addG : D → D → Res R
  | .int i, .int j => .ok (.d (.int (i + j)))
  | .tuple xs, .tuple ys => if xs.length + ys.length ≤ sizeLine then .ok (.d (.tuple (xs ++ ys))) else .stuck
  | .list xs, .list ys => if xs.length + ys.length ≤ sizeLine then .ok (.f (xs ++ ys)) else .stuck
  | .str x, .str y => if x.length + y.length ≤ sizeLine then .ok (.d (.str (x ++ y))) else .stuck
  | _, _ => .stuck
theorem opd_add : OpD X E (binaryOp .Add) addG := by
  refine ⟨_, op_add.or (op_catA.or (op_cat.or op_add_str)), fun B σ Γ H0 H Q v u x y ok rx ry w => ?_⟩
  unfold addG at w
  split at w
  · cases rx.int; cases ry.int
    exact .inl ⟨_, _, rfl, rfl, opd_d ok w (.int _)⟩
  · split at w
    · rename_i xs ys hz
      obtain ⟨p, vs, rfl, h1, r1⟩ := rx.tup ok.sub
      obtain ⟨q, us, rfl, h2, r2⟩ := ry.tup ok.sub
      refine .inr (.inl ⟨p, q, vs, us, rfl, rfl, h1, h2, by rw [r1.len, r2.len]; exact hz, fun e => ?_, fun _ e => ?_, fun _ _ o ho => opd_tup ok w (r1.app r2) ho⟩)
      · subst e
        cases xs with
        | cons _ _ => cases r1
        | nil =>
          rcases ry with r | ⟨_, _, _, e1, e2, _⟩
          · exact opd_d ok w r
          · cases e2
      · subst e
        cases ys with
        | cons _ _ => cases r2
        | nil =>
          rw [List.append_nil] at w
          rcases rx with r | ⟨_, _, _, e1, e2, _⟩
          · exact opd_d ok w r
          · cases e2
    · exact w.elim
  · split at w
    · rename_i xs ys hz
      obtain ⟨p, vs, rfl, h1, r1⟩ := rx.lst ok.sub
      obtain ⟨q, us, rfl, h2, r2⟩ := ry.lst ok.sub
      exact .inr (.inr (.inl ⟨p, q, vs, us, rfl, rfl, h1, h2, by rw [r1.len, r2.len]; exact hz, fun o ho => opd_lst ok w (r1.app r2) ho⟩))
    · exact w.elim
  · split at w
    · rename_i hz
      cases rx.str; cases ry.str
      exact .inr (.inr (.inr ⟨_, _, rfl, rfl, hz, opd_d ok w (.str _)⟩))
    · exact w.elim
  · exact w.elim
def subG : D → D → Res R
  | .int i, .int j => .ok (.d (.int (i - j)))
  | _, _ => .stuck
theorem opd_sub : OpD X E (binaryOp .Sub) subG := by
  refine ⟨_, op_sub, fun B σ Γ H0 H Q v u x y ok rx ry w => ?_⟩
  unfold subG at w
  split at w
  · cases rx.int; cases ry.int
    exact ⟨_, _, rfl, rfl, opd_d ok w (.int _)⟩
  · exact w.elim
/-- a condition that the kernel does not try to reckon -/
noncomputable def okB (p : Prop) : Bool := @decide p (Classical.propDecidable p)
theorem okB_iff {p : Prop} : okB p = true ↔ p := by unfold okB; exact @decide_eq_true_iff p (Classical.propDecidable p)
theorem okB_of {p : Prop} (h : p) : okB p = true := okB_iff.mpr h
noncomputable def mulOk (i j : Int) : Bool := okB ((-(2 ^ 64) < i ∧ i < 2 ^ 64) ∨ (-(2 ^ 64) < j ∧ j < 2 ^ 64) ∨ i.natAbs.log2 + j.natAbs.log2 < 1000000)
noncomputable def mulG : D → D → Res R
  | .int i, .int j => if mulOk i j = true then .ok (.d (.int (i * j))) else .stuck
  | .list xs, .int k => if okB (xs.length * k.toNat ≤ sizeLine ∧ -(2 ^ 63) ≤ k ∧ k < 2 ^ 63) = true then .ok (.f (List.replicate k.toNat xs).flatten) else .stuck
  | _, _ => .stuck
theorem opd_mul : OpD X E (binaryOp .Mult) mulG := by
  refine ⟨_, op_mul.or (op_mulW.or op_rep), fun B σ Γ H0 H Q v u x y ok rx ry w => ?_⟩
  unfold mulG at w
  split at w
  · split at w
    · rename_i hz
      cases rx.int; cases ry.int
      unfold mulOk at hz
      have hz := okB_iff.mp hz
      rcases hz with hz | hz | hz
      · exact .inl ⟨_, _, rfl, rfl, .inl hz, opd_d ok w (.int _)⟩
      · exact .inl ⟨_, _, rfl, rfl, .inr hz, opd_d ok w (.int _)⟩
      · exact .inr (.inl ⟨_, _, rfl, rfl, hz, opd_d ok w (.int _)⟩)
    · exact w.elim
  · split at w
    · rename_i xs k hz
      have hz := okB_iff.mp hz
      obtain ⟨p, vs, rfl, h1, r1⟩ := rx.lst ok.sub
      cases ry.int
      exact .inr (.inr ⟨p, _, vs, rfl, rfl, h1, hz.2.1, hz.2.2, by rw [r1.len]; exact hz.1, fun o ho => opd_lst ok w (r1.rep _) ho⟩)
    · exact w.elim
  · exact w.elim
noncomputable def modG : D → D → Res R
  | .int i, .int j => if okB (0 < j) = true then .ok (.d (.int (i % j))) else .stuck
  | _, _ => .stuck
theorem opd_mod : OpD X E (binaryOp .Mod) modG := by
  refine ⟨_, op_mod, fun B σ Γ H0 H Q v u x y ok rx ry w => ?_⟩
  unfold modG at w
  split at w
  · split at w
    · cases rx.int; cases ry.int
      exact ⟨_, _, rfl, rfl, okB_iff.mp (by assumption), opd_d ok w (.int _)⟩
    · exact w.elim
  · exact w.elim
noncomputable def fdivG : D → D → Res R
  | .int i, .int j => if okB (0 < j ∧ j.natAbs.log2 < 9000) = true then .ok (.d (.int (i / j))) else .stuck
  | _, _ => .stuck
theorem opd_fdiv : OpD X E (binaryOp .FloorDiv) fdivG := by
  refine ⟨_, op_fdivW, fun B σ Γ H0 H Q v u x y ok rx ry w => ?_⟩
  unfold fdivG at w
  split at w
  · split at w
    · cases rx.int; cases ry.int
      exact ⟨_, _, rfl, rfl, okB_iff.mp (by assumption), opd_d ok w (.int _)⟩
    · exact w.elim
  · exact w.elim
noncomputable def powG : D → D → Res R
  | .int i, .int j => if okB (0 ≤ j ∧ j ≤ 1000000 ∧ i.natAbs < 2 ^ 64) = true then .ok (.d (.int (i ^ j.toNat))) else .stuck
  | _, _ => .stuck
theorem opd_pow : OpD X E (binaryOp .Pow) powG := by
  refine ⟨_, op_pow, fun B σ Γ H0 H Q v u x y ok rx ry w => ?_⟩
  unfold powG at w
  split at w
  · split at w
    · cases rx.int; cases ry.int
      exact ⟨_, _, rfl, rfl, okB_iff.mp (by assumption), opd_d ok w (.int _)⟩
    · exact w.elim
  · exact w.elim

/-! ### comparisons -/
def eqG : D → D → Res R := fun x y => if (SeqAt.shaped x && SeqAt.shaped y) = true then .ok (.d (.bool (PyData.eqv x y))) else .stuck
def neG : D → D → Res R := fun x y => if (SeqAt.shaped x && SeqAt.shaped y) = true then .ok (.d (.bool (!PyData.eqv x y))) else .stuck
theorem opd_eq (hu : X.A.units + 64 < cLine) : OpD X E (compareOp .Eq) eqG := by
  refine ⟨_, op_eqD hu, fun B σ Γ H0 H Q v u x y ok rx ry w => ?_⟩
  unfold eqG at w
  split at w
  · rename_i hz
    rw [Bool.and_eq_true] at hz
    exact ⟨x, y, rx.dp ok.sub, ry.dp ok.sub, hz.1, hz.2, opd_d ok w (.bl _)⟩
  · exact w.elim
theorem opd_ne (hu : X.A.units + 64 < cLine) : OpD X E (compareOp .NotEq) neG := by
  refine ⟨_, op_neD hu, fun B σ Γ H0 H Q v u x y ok rx ry w => ?_⟩
  unfold neG at w
  split at w
  · rename_i hz
    rw [Bool.and_eq_true] at hz
    exact ⟨x, y, rx.dp ok.sub, ry.dp ok.sub, hz.1, hz.2, opd_d ok w (.bl _)⟩
  · exact w.elim
def ltG : D → D → Res R
  | .int i, .int j => .ok (.d (.bool (decide (i < j))))
  | _, _ => .stuck
def leG : D → D → Res R
  | .int i, .int j => .ok (.d (.bool (decide (i ≤ j))))
  | _, _ => .stuck
def gtG : D → D → Res R
  | .int i, .int j => .ok (.d (.bool (decide (j < i))))
  | _, _ => .stuck
def geG : D → D → Res R
  | .int i, .int j => .ok (.d (.bool (decide (j ≤ i))))
  | _, _ => .stuck
theorem opd_lt : OpD X E (compareOp .Lt) ltG := by
  refine ⟨_, op_lt, fun B σ Γ H0 H Q v u x y ok rx ry w => ?_⟩
  unfold ltG at w
  split at w
  · cases rx.int; cases ry.int
    exact ⟨_, _, rfl, rfl, opd_d ok w (.bl _)⟩
  · exact w.elim
theorem opd_le : OpD X E (compareOp .LtE) leG := by
  refine ⟨_, op_le, fun B σ Γ H0 H Q v u x y ok rx ry w => ?_⟩
  unfold leG at w
  split at w
  · cases rx.int; cases ry.int
    exact ⟨_, _, rfl, rfl, opd_d ok w (.bl _)⟩
  · exact w.elim
theorem opd_gt : OpD X E (compareOp .Gt) gtG := by
  refine ⟨_, op_gt, fun B σ Γ H0 H Q v u x y ok rx ry w => ?_⟩
  unfold gtG at w
  split at w
  · cases rx.int; cases ry.int
    exact ⟨_, _, rfl, rfl, opd_d ok w (.bl _)⟩
  · exact w.elim
theorem opd_ge : OpD X E (compareOp .GtE) geG := by
  refine ⟨_, op_ge, fun B σ Γ H0 H Q v u x y ok rx ry w => ?_⟩
  unfold geG at w
  split at w
  · cases rx.int; cases ry.int
    exact ⟨_, _, rfl, rfl, opd_d ok w (.bl _)⟩
  · exact w.elim
/-- x is None | True | False -/
def isG : D → D → Res R := fun x y => match y with
  | .none => .ok (.d (.bool (isNonD x)))
  | .bool b => (match x with | .bool a => .ok (.d (.bool (decide (a = b)))) | _ => .stuck)
  | _ => .stuck
def isnotG : D → D → Res R := fun x y => match y with
  | .none => .ok (.d (.bool (!isNonD x)))
  | .bool b => (match x with | .bool a => .ok (.d (.bool (!decide (a = b)))) | _ => .stuck)
  | _ => .stuck
theorem opd_is : OpD X E (compareOp .Is) isG := by
  refine ⟨_, op_isN.or op_isBl, fun B σ Γ H0 H Q v u x y ok rx ry w => ?_⟩
  unfold isG at w
  split at w
  · cases ry.non
    refine .inl ⟨rfl, ?_⟩
    rw [Rp.isNon rx]
    exact opd_d ok w (.bl _)
  · split at w
    · cases rx.bl; cases ry.bl
      exact .inr ⟨_, _, rfl, rfl, opd_d ok w (.bl _)⟩
    · exact w.elim
  · exact w.elim
theorem opd_isnot : OpD X E (compareOp .IsNot) isnotG := by
  refine ⟨_, op_notN.or op_notBl, fun B σ Γ H0 H Q v u x y ok rx ry w => ?_⟩
  unfold isnotG at w
  split at w
  · cases ry.non
    refine .inl ⟨rfl, ?_⟩
    rw [Rp.isNon rx]
    exact opd_d ok w (.bl _)
  · split at w
    · cases rx.bl; cases ry.bl
      exact .inr ⟨_, _, rfl, rfl, opd_d ok w (.bl _)⟩
    · exact w.elim
  · exact w.elim

/-! ### the rules with two places -/
theorem je_bin {op : Operator} {g : D → D → Res R} {sa sb : Ga → Res (Ga × D)} (o : OpD X E (binaryOp op) g) (ha : JD X E a sa) (hb : JB X E b sb) : JE X E (.BinOp a op b pos) (sBin g sa sb) := by
  obtain ⟨r, h, hr⟩ := o
  obtain ⟨ta, pa, ha⟩ := ha.ex
  obtain ⟨tb, pb, hb⟩ := hb.ex
  exact ⟨_, pe_op h pa pb, bin_sound (f := binaryOp op) hr ha hb⟩
theorem je_binN {op : Operator} {g : D → D → Res R} {i : Nat} {sb : Ga → Res (Ga × D)} (o : OpD X E (binaryOp op) g) (pa : PE X a (tVar i)) (hb : JB X E b sb) : JE X E (.BinOp a op b pos) (sBinN g i sb) := by
  obtain ⟨r, h, hr⟩ := o
  obtain ⟨tb, pb, hb⟩ := hb.ex
  exact ⟨_, pe_op h pa pb, binN_sound hr hb⟩
theorem je_cmp {op : CmpOp} {g : D → D → Res R} {sa sb : Ga → Res (Ga × D)} (o : OpD X E (compareOp op) g) (ha : JD X E a sa) (hb : JB X E b sb) (hm : behindInMarks op b = false) : JE X E (.Compare a [op] [b] pos) (sBin g sa sb) := by
  obtain ⟨r, h, hr⟩ := o
  obtain ⟨ta, pa, ha⟩ := ha.ex
  obtain ⟨tb, pb, hb⟩ := hb.ex
  exact ⟨_, pe_cmpR h pa pb hm, bin_sound (f := compareOp op) hr ha hb⟩
theorem je_cmpN {op : CmpOp} {g : D → D → Res R} {i : Nat} {sb : Ga → Res (Ga × D)} (o : OpD X E (compareOp op) g) (pa : PE X a (tVar i)) (hb : JB X E b sb) (hm : behindInMarks op b = false) : JE X E (.Compare a [op] [b] pos) (sBinN g i sb) := by
  obtain ⟨r, h, hr⟩ := o
  obtain ⟨tb, pb, hb⟩ := hb.ex
  exact ⟨_, pe_cmpR h pa pb hm, binN_sound hr hb⟩
/-! ### tests -/
def asB : Ga × R → Res (Ga × Bool) := fun p => match p.2 with
  | .d (.bool b) => .ok (p.1, b)
  | _ => .stuck
def sTst (s : Ga → Res (Ga × R)) : Ga → Res (Ga × Bool) := fun Γ => (s Γ).bind asB
theorem tst_sound {s : Ga → Res (Ga × R)} {t : TE} (ha : ∀ B σ Γ H0 H Q, EnvOk X.K B σ Γ H0 H → EW X B E σ Γ H0 H (s Γ) Q → t σ H Q) :
    ∀ B σ Γ H0 H Q, EnvOk X.K B σ Γ H0 H → TW X B E σ Γ H0 H (sTst s Γ) Q → tTest t σ H Q := fun B σ Γ H0 H Q ok w => by
  show t σ H fun x H' => ∃ k, x = .bl k ∧ Q k H'
  refine e_then ha wok_T ok w fun Γ1 x v H01 H1 w1 ok1 g1 l1 r1 => ?_
  unfold asB at w1
  split at w1
  · rename_i b hx
    have hx : x = .d (.bool b) := hx
    subst hx
    cases r1 with
    | d r =>
      cases r
      exact ⟨_, rfl, w1 H01 H1 ok1 (Grow.refl _ _ _) (Less.refl _)⟩
  · exact w1.elim
theorem jt_cmp {op : CmpOp} {g : D → D → Res R} {sa sb : Ga → Res (Ga × D)} (o : OpD X E (compareOp op) g) (ha : JD X E a sa) (hb : JB X E b sb) (hm : behindInMarks op b = false) : JT X E (.Compare a [op] [b] pos) (sTst (sBin g sa sb)) := by
  obtain ⟨r, h, hr⟩ := o
  obtain ⟨ta, pa, ha⟩ := ha.ex
  obtain ⟨tb, pb, hb⟩ := hb.ex
  exact ⟨_, pt_cmpR h pa pb hm, tst_sound (bin_sound (f := compareOp op) hr ha hb)⟩
theorem jt_cmpN {op : CmpOp} {g : D → D → Res R} {i : Nat} {sb : Ga → Res (Ga × D)} (o : OpD X E (compareOp op) g) (pa : PE X a (tVar i)) (hb : JB X E b sb) (hm : behindInMarks op b = false) : JT X E (.Compare a [op] [b] pos) (sTst (sBinN g i sb)) := by
  obtain ⟨r, h, hr⟩ := o
  obtain ⟨tb, pb, hb⟩ := hb.ex
  exact ⟨_, pt_cmpR h pa pb hm, tst_sound (binN_sound hr hb)⟩
theorem jt_val {s : Ga → Res (Ga × R)} (h : JE X E e s) (he : ∀ whole, isTrue e X.env whole = (do let v ← whole; standAt e.pos; holding [v] (truthy v)) := by intro _; rfl) : JT X E e (sTst s) := by
  obtain ⟨t, p, ha⟩ := h.ex
  exact ⟨_, pt_val p he, tst_sound ha⟩
structure JW (X : Cx) (E : XK) (e : Expr) (s : Ga → Res (Ga × Bool)) : Prop where
  ex : ∃ t, PW X e t ∧ ∀ B σ Γ H0 H Q, EnvOk X.K B σ Γ H0 H → TW X B E σ Γ H0 H (s Γ) Q → t σ H Q
theorem JW.t {s : Ga → Res (Ga × Bool)} (h : JW X E e s) : JT X E e s := let ⟨t, p, q⟩ := h.ex; ⟨t, p.pt, q⟩
def sAnd (s u : Ga → Res (Ga × Bool)) : Ga → Res (Ga × Bool) := fun Γ => (s Γ).bind fun p => if p.2 = true then u p.1 else .ok (p.1, false)
def sOr (s u : Ga → Res (Ga × Bool)) : Ga → Res (Ga × Bool) := fun Γ => (s Γ).bind fun p => if p.2 = true then .ok (p.1, true) else u p.1
def sNot (s : Ga → Res (Ga × Bool)) : Ga → Res (Ga × Bool) := fun Γ => (s Γ).bind fun p => .ok (p.1, !p.2)
variable {sa sb : Ga → Res (Ga × Bool)} {rest : List Expr}
theorem jw_and1 (h : JT X E a sa) : JW X E (.BoolOp .And [a] pos) sa := let ⟨t, p, q⟩ := h.ex; ⟨t, pw_and1 p, q⟩
theorem jw_or1 (h : JT X E a sa) : JW X E (.BoolOp .Or [a] pos) sa := let ⟨t, p, q⟩ := h.ex; ⟨t, pw_or1 p, q⟩
theorem jw_and (ha : JT X E a sa) (hb : JW X E (.BoolOp .And (b :: rest) pos) sb) : JW X E (.BoolOp .And (a :: b :: rest) pos) (sAnd sa sb) := by
  obtain ⟨ta, pa, ha⟩ := ha.ex
  obtain ⟨tb, pb, hb⟩ := hb.ex
  refine ⟨_, pw_and pa pb, fun B σ Γ H0 H Q ok w => ?_⟩
  show ta σ H fun c H1 => if c = true then tb σ H1 Q else Q false H1
  refine t_then ha wok_T ok w fun Γ1 c H01 H1 w1 ok1 g1 l1 => ?_
  cases c with
  | true => exact hb B σ Γ1 H01 H1 Q ok1 w1
  | false => exact w1 H01 H1 ok1 (Grow.refl _ _ _) (Less.refl _)
theorem jw_or (ha : JT X E a sa) (hb : JW X E (.BoolOp .Or (b :: rest) pos) sb) : JW X E (.BoolOp .Or (a :: b :: rest) pos) (sOr sa sb) := by
  obtain ⟨ta, pa, ha⟩ := ha.ex
  obtain ⟨tb, pb, hb⟩ := hb.ex
  refine ⟨_, pw_or pa pb, fun B σ Γ H0 H Q ok w => ?_⟩
  show ta σ H fun c H1 => if c = true then Q true H1 else tb σ H1 Q
  refine t_then ha wok_T ok w fun Γ1 c H01 H1 w1 ok1 g1 l1 => ?_
  cases c with
  | false => exact hb B σ Γ1 H01 H1 Q ok1 w1
  | true => exact w1 H01 H1 ok1 (Grow.refl _ _ _) (Less.refl _)
theorem jt_not (ha : JT X E a sa) : JT X E (.UnaryOp .Not a pos) (sNot sa) := by
  obtain ⟨ta, pa, ha⟩ := ha.ex
  refine ⟨_, pt_not pa, fun B σ Γ H0 H Q ok w => ?_⟩
  show ta σ H fun c H1 => Q (!c) H1
  exact t_then ha wok_T ok w fun Γ1 c H01 H1 w1 ok1 g1 l1 => w1 H01 H1 ok1 (Grow.refl _ _ _) (Less.refl _)
/-- a test's answer as a value -/
def sVal (s : Ga → Res (Ga × Bool)) : Ga → Res (Ga × R) := fun Γ => (s Γ).bind fun p => .ok (p.1, .d (.bool p.2))
theorem val_use {s : Ga → Res (Ga × R)} {t : TE} {β : Type} {W : Ga → Hp → Hp → Res β → Prop} {B : Bg} {σ : L2.St} {Γ : Ga} {H0 H : Hp} {f : Ga × Bool → Res β} {Q : VK}
    (ha : ∀ B σ Γ H0 H Q, EnvOk X.K B σ Γ H0 H → EW X B E σ Γ H0 H (s Γ) Q → t σ H Q) (wo : WOk X B E σ W) (ok : EnvOk X.K B σ Γ H0 H) (w : W Γ H0 H ((sTst s Γ).bind f))
    (k : ∀ Γ1 b H01 H1, W Γ1 H01 H1 (f (Γ1, b)) → EnvOk X.K B σ Γ1 H01 H1 → Q (.bl b) H1) : t σ H Q := by
  unfold sTst at w
  have e : ((s Γ).bind asB).bind f = (s Γ).bind fun p => (asB p).bind f := by cases s Γ <;> rfl
  rw [e] at w
  refine e_then ha wo ok w fun Γ1 x v H01 H1 w1 ok1 g1 l1 r1 => ?_
  unfold asB at w1
  split at w1
  · rename_i b hx
    have hx : x = .d (.bool b) := hx
    subst hx
    cases r1 with
    | d r => cases r; exact k _ _ _ _ w1 ok1
  · exact (wo.stuck _ _ _ w1).elim
variable {se sf : Ga → Res (Ga × R)}
/-- bools joined as values -/
theorem je_one {op} (h : JE X E a se) : JE X E (.BoolOp op [a] pos) (sVal (sTst se)) := by
  obtain ⟨t, p, ha⟩ := h.ex
  refine ⟨_, pe_one p, fun B σ Γ H0 H Q ok w => ?_⟩
  exact val_use ha wok_E ok w fun Γ1 b H01 H1 w1 ok1 => w1 _ H01 H1 ok1 (Grow.refl _ _ _) (Less.refl _) (.d (.bl _))
theorem je_and (ha : JE X E a se) (hb : JE X E (.BoolOp .And (b :: rest) pos) (sVal sb)) : JE X E (.BoolOp .And (a :: b :: rest) pos) (sVal (sAnd (sTst se) sb)) := by
  obtain ⟨ta, pa, ha⟩ := ha.ex
  obtain ⟨tb, pb, hb⟩ := hb.ex
  refine ⟨_, pe_and pa pb, fun B σ Γ H0 H Q ok w => ?_⟩
  show ta σ H fun x H1 => ∃ c, x = .bl c ∧ if c = true then tb σ H1 Q else Q (.bl false) H1
  have e : sVal (sAnd (sTst se) sb) Γ = (sTst se Γ).bind fun p => if p.2 = true then sVal sb p.1 else .ok (p.1, .d (.bool false)) := by
    unfold sVal sAnd
    cases sTst se Γ with
    | ok p =>
      show (if p.2 = true then sb p.1 else .ok (p.1, false)).bind _ = if p.2 = true then _ else _
      split <;> rfl
    | exc c x => rfl
    | stuck => rfl
  rw [e] at w
  refine val_use ha wok_E ok w fun Γ1 c H01 H1 w1 ok1 => ⟨c, rfl, ?_⟩
  cases c with
  | true => exact hb B σ Γ1 H01 H1 Q ok1 w1
  | false => exact w1 _ H01 H1 ok1 (Grow.refl _ _ _) (Less.refl _) (.d (.bl _))
theorem je_or (ha : JE X E a se) (hb : JE X E (.BoolOp .Or (b :: rest) pos) (sVal sb)) : JE X E (.BoolOp .Or (a :: b :: rest) pos) (sVal (sOr (sTst se) sb)) := by
  obtain ⟨ta, pa, ha⟩ := ha.ex
  obtain ⟨tb, pb, hb⟩ := hb.ex
  refine ⟨_, pe_or pa pb, fun B σ Γ H0 H Q ok w => ?_⟩
  show ta σ H fun x H1 => ∃ c, x = .bl c ∧ if c = true then Q (.bl true) H1 else tb σ H1 Q
  have e : sVal (sOr (sTst se) sb) Γ = (sTst se Γ).bind fun p => if p.2 = true then .ok (p.1, .d (.bool true)) else sVal sb p.1 := by
    unfold sVal sOr
    cases sTst se Γ with
    | ok p =>
      show (if p.2 = true then .ok (p.1, true) else sb p.1 : Res (Ga × Bool)).bind _ = if p.2 = true then _ else _
      split <;> rfl
    | exc c x => rfl
    | stuck => rfl
  rw [e] at w
  refine val_use ha wok_E ok w fun Γ1 c H01 H1 w1 ok1 => ⟨c, rfl, ?_⟩
  cases c with
  | false => exact hb B σ Γ1 H01 H1 Q ok1 w1
  | true => exact w1 _ H01 H1 ok1 (Grow.refl _ _ _) (Less.refl _) (.d (.bl _))
theorem je_not (ha : JE X E a se) : JE X E (.UnaryOp .Not a pos) (sVal (sNot (sTst se))) := by
  obtain ⟨ta, pa, ha⟩ := ha.ex
  refine ⟨_, pe_not pa, fun B σ Γ H0 H Q ok w => ?_⟩
  show ta σ H fun x H1 => ∃ c, x = .bl c ∧ Q (.bl (!c)) H1
  have e : sVal (sNot (sTst se)) Γ = (sTst se Γ).bind fun p => .ok (p.1, .d (.bool (!p.2))) := by
    unfold sVal sNot
    cases sTst se Γ <;> rfl
  rw [e] at w
  exact val_use ha wok_E ok w fun Γ1 c H01 H1 w1 ok1 => ⟨c, rfl, w1 _ H01 H1 ok1 (Grow.refl _ _ _) (Less.refl _) (.d (.bl _))⟩
def sIf (c : Ga → Res (Ga × Bool)) (s u : Ga → Res (Ga × R)) : Ga → Res (Ga × R) := fun Γ => (c Γ).bind fun p => if p.2 = true then s p.1 else u p.1
theorem je_if (hc : JT X E c sa) (ha : JE X E a se) (hb : JE X E b sf) : JE X E (.IfExp c a b pos) (sIf sa se sf) := by
  obtain ⟨tc, pc, hc⟩ := hc.ex
  obtain ⟨ta, pa, ha⟩ := ha.ex
  obtain ⟨tb, pb, hb⟩ := hb.ex
  refine ⟨_, pe_ifExp pc pa pb, fun B σ Γ H0 H Q ok w => ?_⟩
  show tc σ H fun c H1 => if c = true then ta σ H1 Q else tb σ H1 Q
  refine t_then hc wok_E ok w fun Γ1 c H01 H1 w1 ok1 g1 l1 => ?_
  cases c with
  | true => exact ha B σ Γ1 H01 H1 Q ok1 w1
  | false => exact hb B σ Γ1 H01 H1 Q ok1 w1
def sUn (g : D → Res R) (s : Ga → Res (Ga × D)) : Ga → Res (Ga × R) := fun Γ => (s Γ).bind fun p => (g p.2).bind fun z => .ok (p.1, z)
def negG : D → Res R
  | .int i => .ok (.d (.int (-i)))
  | _ => .stuck
theorem je_neg {s : Ga → Res (Ga × D)} (ha : JD X E a s) : JE X E (.UnaryOp .USub a pos) (sUn negG s) := by
  obtain ⟨ta, pa, ha⟩ := ha.ex
  refine ⟨_, pe_un un_neg pa, fun B σ Γ H0 H Q ok w => ?_⟩
  show ta σ H fun x H1 => ∃ i, x = .int i ∧ Q (.int (-i)) H1
  refine d_then ha wok_E ok w fun Γ1 x v H01 H1 w1 ok1 g1 l1 r1 => ?_
  unfold negG at w1
  split at w1
  · rename_i i hx
    have hx : x = .int i := hx
    subst hx
    cases r1
    exact ⟨_, rfl, opd_d ok1 w1 (.int _)⟩
  · exact w1.elim
end
end Mi
namespace Mi
open PySem L2 Evl

section
variable {X : Cx} {E : XK} {e a b c : Expr} {es : List Expr} {pos : Pos}
/-! ### lists of values -/
def sNil : Ga → Res (Ga × List D) := fun Γ => .ok (Γ, [])
def sCons (s : Ga → Res (Ga × D)) (r : Ga → Res (Ga × List D)) : Ga → Res (Ga × List D) := fun Γ => (s Γ).bind fun p => (r p.1).bind fun q => .ok (q.1, p.2 :: q.2)
def starD : D → Res (List D)
  | .tuple xs => .ok xs
  | .list xs => .ok xs
  | _ => .stuck
def sStar (s : Ga → Res (Ga × D)) (r : Ga → Res (Ga × List D)) : Ga → Res (Ga × List D) := fun Γ => (s Γ).bind fun p => (starD p.2).bind fun xs => (r p.1).bind fun q => .ok (q.1, xs ++ q.2)
theorem ja_nil : JA X E [] sNil := ⟨_, pa_nil, fun B σ Γ H0 H Q ok w => w [] H0 H ok (Grow.refl _ _ _) (Less.refl _) .nil⟩
theorem ja_cons {s : Ga → Res (Ga × D)} {r : Ga → Res (Ga × List D)} (h : JD X E e s) (hr : JA X E es r) (hs : starEach (e :: es) X.env = (false, eval e X.env) :: starEach es X.env := by rfl) : JA X E (e :: es) (sCons s r) := by
  obtain ⟨t, p, ha⟩ := h.ex
  obtain ⟨u, q, hb⟩ := hr.ex
  refine ⟨_, pa_cons p q hs, fun B σ Γ H0 H Q ok w => ?_⟩
  show t σ H fun x H1 => u σ H1 fun xs H2 => Q (x :: xs) H2
  refine d_then ha wok_A ok w fun Γ1 x v H01 H1 w1 ok1 g1 l1 r1 => ?_
  refine a_then hb wok_A ok1 w1 fun Γ2 xs vs H02 H2 w2 ok2 g2 l2 r2 => ?_
  exact w2 _ H02 H2 ok2 (Grow.refl _ _ _) (Less.refl _) (.cons (r1.m g2.ex0) r2)
theorem ja_star {s : Ga → Res (Ga × D)} {r : Ga → Res (Ga × List D)} {p : Pos} (h : JD X E e s) (hr : JA X E es r) (hs : starEach (.Starred e p :: es) X.env = (true, eval e X.env) :: starEach es X.env := by rfl) : JA X E (.Starred e p :: es) (sStar s r) := by
  obtain ⟨t, p, ha⟩ := h.ex
  obtain ⟨u, q, hb⟩ := hr.ex
  refine ⟨_, StX.pa_star p q hs, fun B σ Γ H0 H Q ok w => ?_⟩
  show t σ H fun x H1 => ∃ p xs, x = V.ref p ∧ (SqT X.K H1 p xs ∨ SqL X.K H1 p xs) ∧ u σ H1 fun ys H2 => Q (xs ++ ys) H2
  refine d_then ha wok_A ok w fun Γ1 x v H01 H1 w1 ok1 g1 l1 r1 => ?_
  unfold starD at w1
  split at w1
  · rename_i xs hx
    have hx : x = .tuple xs := hx
    subst hx
    cases r1 with
    | tup h1 h2 =>
      refine ⟨_, _, rfl, .inl (ex_t ok1.sub h1), a_then hb wok_A ok1 w1 fun Γ2 ys us H02 H2 w2 ok2 g2 l2 r2 => ?_⟩
      exact w2 _ H02 H2 ok2 (Grow.refl _ _ _) (Less.refl _) ((h2.m g2.ex0).app r2)
  · rename_i xs hx
    have hx : x = .list xs := hx
    subst hx
    cases r1 with
    | lst h1 h2 =>
      refine ⟨_, _, rfl, .inr (SqL.of (ok1.sub _ _ h1)), a_then hb wok_A ok1 w1 fun Γ2 ys us H02 H2 w2 ok2 g2 l2 r2 => ?_⟩
      exact w2 _ H02 H2 ok2 (Grow.refl _ _ _) (Less.refl _) ((h2.m g2.ex0).app r2)
  · exact w1.elim
def sTup (s : Ga → Res (Ga × List D)) : Ga → Res (Ga × R) := fun Γ => (s Γ).bind fun p => if p.2.length ≤ sizeLine then .ok (p.1, .d (.tuple p.2)) else .stuck
def sLst (s : Ga → Res (Ga × List D)) : Ga → Res (Ga × R) := fun Γ => (s Γ).bind fun p => if p.2.length ≤ sizeLine then .ok (p.1, .f p.2) else .stuck
theorem je_tup {s : Ga → Res (Ga × List D)} {x1} (h : JA X E es s) : JE X E (.Tuple es x1 pos) (sTup s) := by
  obtain ⟨t, p, ha⟩ := h.ex
  refine ⟨_, pe_tup p, fun B σ Γ H0 H Q ok w => ?_⟩
  show t σ H fun xs H1 => xs.length ≤ sizeLine ∧ ∀ p, H1 p = none → Q (.ref p) (upd H1 p (.tup xs))
  refine a_then ha wok_E ok w fun Γ1 xs vs H01 H1 w1 ok1 g1 l1 r1 => ?_
  split at w1
  · exact ⟨by rw [r1.len]; assumption, fun p hp => opd_tup ok1 w1 r1 hp⟩
  · exact w1.elim
theorem je_lst {s : Ga → Res (Ga × List D)} (h : JA X E es s) : JE X E (.List es pos) (sLst s) := by
  obtain ⟨t, p, ha⟩ := h.ex
  refine ⟨_, pe_lst p, fun B σ Γ H0 H Q ok w => ?_⟩
  show t σ H fun xs H1 => xs.length ≤ sizeLine ∧ ∀ p, H1 p = none → Q (.ref p) (upd H1 p (.lst xs))
  refine a_then ha wok_E ok w fun Γ1 xs vs H01 H1 w1 ok1 g1 l1 r1 => ?_
  split at w1
  · exact ⟨by rw [r1.len]; assumption, fun p hp => opd_lst ok1 w1 r1 hp⟩
  · exact w1.elim

/-! ### subscripts -/
def ixG : D → D → Res R
  | .list xs, .int i => match atI xs i with | some x => .ok (.d x) | none => .stuck
  | .tuple xs, .int i => match atI xs i with | some x => .ok (.d x) | none => .stuck
  | .str z, .int i => if z.length ≤ sizeLine then (match atI z.cps.toList i with | some c => .ok (.d (.str ⟨#[c]⟩)) | none => .stuck) else .stuck
  | _, _ => .stuck
theorem atI_rp {K : PySem.W.Frag} {H : Hp} {xs : List D} {vs : List V} {i : Int} {x : D} (r : RpAll K H vs xs) (h : atI xs i = some x) : ∃ v, atI vs i = some v ∧ Rp K H v x := by
  unfold atI at h ⊢
  rw [r.len]
  cases hj : ixN xs.length i with
  | none => rw [hj] at h; cases h
  | some j =>
    rw [hj] at h
    exact r.get h
theorem ix_sound {r : R2} (hrl : ∀ x y H Q, rIxL X.K x y H Q → r x y H Q) (hrt : ∀ x y H Q, rIxT X.K x y H Q → r x y H Q) (hrs : ∀ x y H Q, rIxS x y H Q → r x y H Q) :
    ∀ B σ Γ H0 H Q v u x y, EnvOk X.K B σ Γ H0 H → RpB X.K H0 H v x → RpB X.K H0 H u y → EW X B E σ Γ H0 H ((ixG x y).bind fun z => .ok (Γ, z)) Q → r v u H Q := fun B σ Γ H0 H Q v u x y ok rx ry w => by
  unfold ixG at w
  split at w
  · split at w
    · rename_i xs i _ z hz
      obtain ⟨p, vs, rfl, h1, r1⟩ := rx.lst ok.sub
      cases ry.int
      obtain ⟨z', e1, r2⟩ := atI_rp r1 hz
      exact hrl _ _ _ _ ⟨p, vs, _, z', rfl, rfl, SqL.of h1, e1, opd_d ok w r2⟩
    · exact w.elim
  · split at w
    · rename_i xs i _ z hz
      obtain ⟨p, vs, rfl, h1, r1⟩ := rx.tup ok.sub
      cases ry.int
      obtain ⟨z', e1, r2⟩ := atI_rp r1 hz
      exact hrt _ _ _ _ ⟨p, vs, _, z', rfl, rfl, h1, e1, opd_d ok w r2⟩
    · exact w.elim
  · split at w
    · split at w
      · rename_i hl _ c hc
        cases rx.str; cases ry.int
        exact hrs _ _ _ _ ⟨_, _, c, rfl, rfl, hl, hc, opd_d ok w (.str _)⟩
      · exact w.elim
    · exact w.elim
  · exact w.elim
theorem je_ix {sa sb : Ga → Res (Ga × D)} (ha : JD X E a sa) (hb : JD X E b sb) (hs : PlainIx b := by intro _ _; rfl) : JE X E (.Subscript a b pos) (sBin ixG sa sb) := by
  obtain ⟨ta, pa, ha⟩ := ha.ex
  obtain ⟨tb, pb, hb⟩ := hb.toB.ex
  exact ⟨_, pe_ix ix_seq pa pb hs, bin_sound (f := fun _ _ => pure .none) (ix_sound (fun _ _ _ _ h => .inl h) (fun _ _ _ _ h => .inr (.inl h)) fun _ _ _ _ h => .inr (.inr h)) ha hb⟩
theorem je_ixN {i : Nat} {sb : Ga → Res (Ga × D)} (pa : PE X a (tVar i)) (hb : JD X E b sb) (hs : PlainIx b := by intro _ _; rfl) : JE X E (.Subscript a b pos) (sBinN ixG i sb) := by
  obtain ⟨tb, pb, hb⟩ := hb.toB.ex
  exact ⟨_, pe_ix ix_seq pa pb hs, binN_sound (ix_sound (fun _ _ _ _ h => .inl h) (fun _ _ _ _ h => .inr (.inl h)) fun _ _ _ _ h => .inr (.inr h)) hb⟩
/-- the script: len, an item -/
def sIxScr (i : Nat) (sb : Ga → Res (Ga × D)) : Ga → Res (Ga × R) := fun Γ => match Γ[i]? with
  | some (.scr ns) => (sb Γ).bind fun q => (match q.2 with | .int k => (match atI ns k with | some n => .ok (q.1, .d (.int n)) | none => .stuck) | _ => .stuck)
  | _ => .stuck
theorem je_ixScr {i : Nat} {sb : Ga → Res (Ga × D)} (pa : PE X a (tVar i)) (hb : JD X E b sb) (hs : PlainIx b := by intro _ _; rfl) : JE X E (.Subscript a b pos) (sIxScr i sb) := by
  obtain ⟨tb, pb, hb⟩ := hb.ex
  refine ⟨_, pe_ix ix_list pa pb hs, fun B σ Γ H0 H Q ok w => ?_⟩
  unfold sIxScr at w
  split at w
  · rename_i ns hns
    obtain ⟨p, e1, hq⟩ := ok.scr i ns hns
    refine ⟨_, e1, ?_⟩
    show tb σ H fun y H2 => rIxL X.K (.ref p) y H2 Q
    refine d_then hb wok_E ok w fun Γ1 x v H01 H1 w1 ok1 g1 l1 r1 => ?_
    split at w1
    · split at w1
      · rename_i k hk _ n hn
        have hk : x = .int k := hk
        subst hk
        cases r1
        refine ⟨p, _, k, .int n, rfl, rfl, ex_l (g1.ex0.trans ok1.sub) hq, ?_, opd_d ok1 w1 (.int _)⟩
        unfold atI at hn ⊢
        rw [List.length_map]
        cases hj : ixN ns.length k with
        | none => rw [hj] at hn; cases hn
        | some j =>
          rw [hj] at hn
          show (ns.map V.int)[j]? = _
          rw [List.getElem?_map, show ns[j]? = some n from hn]
          rfl
      · exact w1.elim
    · exact w1.elim
  · exact w.elim

/-! ### slices -/
def JO (X : Cx) (E : XK) (e : Option Expr) (s : Ga → Res (Ga × Option Int)) : Prop :=
  ∃ t, PO X e t ∧ ∀ B σ Γ H0 H Q, EnvOk X.K B σ Γ H0 H → (match s Γ with
    | .ok (Γ', o) => ∀ H0' H', EnvOk X.K B σ Γ' H0' H' → Grow (OwnOf σ Γ) H0 H H0' H' → Less Γ Γ' → Q o H'
    | .exc c x => XW X B E c x
    | .stuck => False) → t σ H Q
def sNoO : Ga → Res (Ga × Option Int) := fun Γ => .ok (Γ, none)
def sSomeO (s : Ga → Res (Ga × D)) : Ga → Res (Ga × Option Int) := fun Γ => (s Γ).bind fun p => match p.2 with | .int i => .ok (p.1, some i) | _ => .stuck
theorem jo_none : JO X E none sNoO := ⟨_, po_none, fun B σ Γ H0 H Q ok w => w H0 H ok (Grow.refl _ _ _) (Less.refl _)⟩
def OW (X : Cx) (B : Bg) (E : XK) (σ : L2.St) (Γ : Ga) (H0 H : Hp) (r : Res (Ga × Option Int)) (Q : Option Int → Hp → Prop) : Prop := match r with
    | .ok (Γ', o) => ∀ H0' H', EnvOk X.K B σ Γ' H0' H' → Grow (OwnOf σ Γ) H0 H H0' H' → Less Γ Γ' → Q o H'
    | .exc c x => XW X B E c x
    | .stuck => False
theorem wok_O {B : Bg} {σ : L2.St} {Q : Option Int → Hp → Prop} : WOk X B E σ fun Γ H0 H r => OW X B E σ Γ H0 H r Q where
  exc := fun _ _ _ _ _ h => h
  stuck := fun _ _ _ h => h
  shift := fun Γ H0 H Γ1 H01 H1 r ok g l w => by
    cases r with
    | stuck => exact w
    | exc c x => exact w
    | ok p => exact fun H0' H' o' g' l' => w H0' H' o' (shift_g g l g') (l.trans l')
theorem jo_some {s : Ga → Res (Ga × D)} (h : JD X E e s) : JO X E (some e) (sSomeO s) := by
  obtain ⟨t, p, ha⟩ := h.ex
  refine ⟨_, po_some p, fun B σ Γ H0 H Q ok w => ?_⟩
  have w : OW X B E σ Γ H0 H (sSomeO s Γ) Q := w
  show t σ H fun x H1 => ∃ i, x = .int i ∧ Q (some i) H1
  refine d_then ha wok_O ok w fun Γ1 x v H01 H1 w1 ok1 g1 l1 r1 => ?_
  split at w1
  · rename_i i hx
    have hx : x = .int i := hx
    subst hx
    cases r1
    exact ⟨_, rfl, w1 H01 H1 ok1 (Grow.refl _ _ _) (Less.refl _)⟩
  · exact w1.elim
def cutD (xs : List D) (lo hi : Option Int) : List D := (xs.drop (HT.sIx xs.length 0 lo)).take (HT.sIx xs.length xs.length hi - HT.sIx xs.length 0 lo)
theorem cut_rp {K : PySem.W.Frag} {H : Hp} {xs : List D} {vs : List V} {lo hi : Option Int} (r : RpAll K H vs xs) : RpAll K H (cutV vs lo hi) (cutD xs lo hi) := by
  unfold cutV cutD
  rw [r.len]
  exact (r.drop _).take _
def slG (x : D) (lo hi : Option Int) : Res R := match x with
  | .list xs => .ok (.f (cutD xs lo hi))
  | .tuple xs => .ok (.d (.tuple (cutD xs lo hi)))
  | _ => .stuck
theorem cut_whole {α : Type} (xs : List α) {i j : Nat} (h0 : i = 0) (h1 : j = xs.length) : (xs.drop i).take (j - i) = xs := by
  subst h0 h1; simp
def sSl (s : Ga → Res (Ga × D)) (lo hi : Ga → Res (Ga × Option Int)) : Ga → Res (Ga × R) := fun Γ => (s Γ).bind fun p => (lo p.1).bind fun q => (hi q.1).bind fun r => (slG p.2 q.2 r.2).bind fun z => .ok (r.1, z)
def sSlN (i : Nat) (lo hi : Ga → Res (Ga × Option Int)) : Ga → Res (Ga × R) := fun Γ => (slD Γ i).bind fun _ => (lo Γ).bind fun q => (hi q.1).bind fun r => (slD r.1 i).bind fun x => (slG x q.2 r.2).bind fun z => .ok (r.1, z)
theorem o_then {β : Type} {W : Ga → Hp → Hp → Res β → Prop} {B : Bg} {σ : L2.St} {Γ : Ga} {H0 H : Hp} {t : TO} {s : Ga → Res (Ga × Option Int)} {f : Ga × Option Int → Res β} {Q : Option Int → Hp → Prop}
    (ha : ∀ B σ Γ H0 H Q, EnvOk X.K B σ Γ H0 H → OW X B E σ Γ H0 H (s Γ) Q → t σ H Q) (wo : WOk X B E σ W) (ok : EnvOk X.K B σ Γ H0 H) (w : W Γ H0 H ((s Γ).bind f))
    (k : ∀ Γ1 o H01 H1, W Γ1 H01 H1 (f (Γ1, o)) → EnvOk X.K B σ Γ1 H01 H1 → Grow (OwnOf σ Γ) H0 H H01 H1 → Less Γ Γ1 → Q o H1) : t σ H Q := by
  refine ha B σ Γ H0 H Q ok ?_
  cases hs : s Γ with
  | stuck => rw [hs] at w; exact (wo.stuck _ _ _ w).elim
  | exc c x => rw [hs] at w; exact wo.exc _ _ _ _ _ w
  | ok p =>
    rw [hs] at w
    exact fun H01 H1 ok1 g l => k _ _ H01 H1 (wo.shift _ _ _ _ _ _ _ ok g l w) ok1 g l
theorem sl_end {B : Bg} {σ : L2.St} {Γ : Ga} {H0 H : Hp} {Q : VK} {x : D} {v : V} {lo hi : Option Int} (ok : EnvOk X.K B σ Γ H0 H) (rx : RpB X.K H0 H v x) (w : EW X B E σ Γ H0 H ((slG x lo hi).bind fun z => .ok (Γ, z)) Q) :
    rSlL X.K v lo hi H Q ∨ rSlA X.K v lo hi H Q := by
  unfold slG at w
  split at w
  · obtain ⟨p, vs, rfl, h1, r1⟩ := rx.lst ok.sub
    exact .inl ⟨p, vs, rfl, SqL.of h1, fun o ho => opd_lst ok w (cut_rp r1) ho⟩
  · rename_i xs
    obtain ⟨p, vs, rfl, h1, r1⟩ := rx.tup ok.sub
    refine .inr ⟨p, vs, rfl, h1, fun ⟨h2, h3⟩ => ?_, fun _ o ho => opd_tup ok w (cut_rp r1) ho⟩
    have e : cutD xs lo hi = xs := by
      unfold cutD
      rw [r1.len] at h2 h3
      exact cut_whole xs h2 h3
    rw [e] at w
    rcases rx with r | ⟨_, _, _, e1, e2, _⟩
    · exact opd_d ok w r
    · cases e2
  · exact w.elim
theorem je_sl {s : Ga → Res (Ga × D)} {lo hi : Ga → Res (Ga × Option Int)} {el eh : Option Expr} {p2 : Pos} (h : JD X E e s) (hl : JO X E el lo) (hh : JO X E eh hi) : JE X E (.Subscript e (.Slice el eh none p2) pos) (sSl s lo hi) := by
  obtain ⟨t, p, ha⟩ := h.ex
  obtain ⟨tl, pl, hl⟩ := hl
  obtain ⟨th, ph, hh⟩ := hh
  refine ⟨_, pe_slice (sl_list.or sl_tupA) p pl ph, fun B σ Γ H0 H Q ok w => ?_⟩
  show t σ H fun x H1 => tl σ H1 fun l H2 => th σ H2 fun u H3 => rSlL X.K x l u H3 Q ∨ rSlA X.K x l u H3 Q
  refine d_then ha wok_E ok w fun Γ1 x v H01 H1 w1 ok1 g1 l1 r1 => ?_
  refine o_then hl wok_E ok1 w1 fun Γ2 l H02 H2 w2 ok2 g2 l2 => ?_
  refine o_then hh wok_E ok2 w2 fun Γ3 u H03 H3 w3 ok3 g3 l3 => ?_
  exact sl_end ok3 (.inl (r1.m (g2.ex0.trans g3.ex0))) w3
theorem je_slN {i : Nat} {lo hi : Ga → Res (Ga × Option Int)} {el eh : Option Expr} {p2 : Pos} (p : PE X e (tVar i)) (hl : JO X E el lo) (hh : JO X E eh hi) : JE X E (.Subscript e (.Slice el eh none p2) pos) (sSlN i lo hi) := by
  obtain ⟨tl, pl, hl⟩ := hl
  obtain ⟨th, ph, hh⟩ := hh
  refine ⟨_, pe_slice (sl_list.or sl_tupA) p pl ph, fun B σ Γ H0 H Q ok w => ?_⟩
  unfold sSlN at w
  cases h0 : slD Γ i with
  | stuck => rw [h0] at w; exact w.elim
  | exc c x => unfold slD at h0; split at h0 <;> cases h0
  | ok x0 =>
    rw [h0] at w
    obtain ⟨v, ev, _⟩ := slD_ok ok h0
    refine ⟨v, ev, ?_⟩
    show tl σ H fun l H2 => th σ H2 fun u H3 => rSlL X.K v l u H3 Q ∨ rSlA X.K v l u H3 Q
    refine o_then hl wok_E ok w fun Γ2 l H02 H2 w2 ok2 g2 l2 => ?_
    refine o_then hh wok_E ok2 w2 fun Γ3 u H03 H3 w3 ok3 g3 l3 => ?_
    cases hs : slD Γ3 i with
    | stuck => simp only [hs] at w3; exact w3.elim
    | exc c x => unfold slD at hs; split at hs <;> cases hs
    | ok x =>
      simp only [hs] at w3
      obtain ⟨v', e', r'⟩ := slD_ok ok3 hs
      rw [ev] at e'; cases e'
      exact sl_end ok3 r' w3
/-- xs[::-1] -/
def sRev (s : Ga → Res (Ga × D)) : Ga → Res (Ga × R) := fun Γ => (s Γ).bind fun p => match p.2 with | .list xs => .ok (p.1, .f xs.reverse) | _ => .stuck
theorem je_rev {s : Ga → Res (Ga × D)} {k : Nat} {p1 p2 p3 : Pos} (h : JB X E e s) : JE X E (.Subscript e (.Slice none none (some (.UnaryOp .USub (.Constant (.int 1) k p1) p2)) p3) pos) (sRev s) := by
  obtain ⟨t, p, ha⟩ := h.ex
  refine ⟨_, pe_revL p, fun B σ Γ H0 H Q ok w => ?_⟩
  show t σ H fun x H1 => ∃ a xs, x = .ref a ∧ SqL X.K H1 a xs ∧ ∀ p, H1 p = none → Q (.ref p) (upd H1 p (.lst xs.reverse))
  refine b_then ha wok_E ok w fun Γ1 x v H01 H1 w1 ok1 g1 l1 r1 => ?_
  split at w1
  · rename_i xs hx
    have hx : x = .list xs := hx
    subst hx
    obtain ⟨p, vs, rfl, h1, r1⟩ := r1.lst ok1.sub
    exact ⟨p, vs, rfl, SqL.of h1, fun o ho => opd_lst ok1 w1 r1.rev ho⟩
  · exact w1.elim

/-! ### built-in functions -/
def CallD1 (X : Cx) (E : XK) (f : Value) (g : D → Res R) : Prop :=
  ∃ r, CallR X f r ∧ ∀ B σ Γ H0 H Q v x, EnvOk X.K B σ Γ H0 H → RpB X.K H0 H v x → EW X B E σ Γ H0 H ((g x).bind fun z => .ok (Γ, z)) Q → r [v] H Q
def CallD (X : Cx) (E : XK) (f : Value) (g : List D → Res R) : Prop :=
  ∃ r, CallR X f r ∧ ∀ B σ Γ H0 H Q vs xs, EnvOk X.K B σ Γ H0 H → RpAll X.K H0 vs xs → EW X B E σ Γ H0 H ((g xs).bind fun z => .ok (Γ, z)) Q → r vs H Q
def sCallB (g : List D → Res R) (s : Ga → Res (Ga × List D)) : Ga → Res (Ga × R) := fun Γ => (s Γ).bind fun p => (g p.2).bind fun z => .ok (p.1, z)
section
variable {x : Str} {p : Pos} {id T : String}
theorem one_sound {r : List V → Hp → VK → Prop} {g : D → Res R} {s : Ga → Res (Ga × D)} {t : TE} (hr : ∀ B σ Γ H0 H Q v x, EnvOk X.K B σ Γ H0 H → RpB X.K H0 H v x → EW X B E σ Γ H0 H ((g x).bind fun z => .ok (Γ, z)) Q → r [v] H Q)
    (ha : ∀ B σ Γ H0 H Q, EnvOk X.K B σ Γ H0 H → BW X B E σ Γ H0 H (s Γ) Q → t σ H Q) : ∀ B σ Γ H0 H Q, EnvOk X.K B σ Γ H0 H → EW X B E σ Γ H0 H (sUn g s Γ) Q → tCB r (tCons t tNil) σ H Q := fun B σ Γ H0 H Q ok w => by
  show t σ H fun x H1 => r [x] H1 Q
  exact b_then ha wok_E ok w fun Γ1 x v H01 H1 w1 ok1 g1 l1 r1 => hr B σ Γ1 H01 H1 Q v x ok1 r1 w1
theorem je_call1 {g : D → Res R} {s : Ga → Res (Ga × D)} (hc : CallD1 X E (.builtin id) g) (hg : Gl X x) (hm : X.mg x = none) (hv : bootBuiltins x = some (.builtin id)) (h : JB X E e s) (hn : x ≠ "__name__" := by decide) (hdb : (x == ("__debug__" : Str)) = false := by decide)
    (hst : starEach (e :: []) X.env = (false, eval e X.env) :: starEach [] X.env := by rfl) : JE X E (.Call (.Name x p) [e] [] pos) (sUn g s) := by
  obtain ⟨r, hcr, hr⟩ := hc
  obtain ⟨t, pp, ha⟩ := h.ex
  exact ⟨_, pe_callB hcr hg hm hv (pa_cons pp pa_nil hst) hn hdb hst rfl, one_sound hr ha⟩
theorem je_callT1 {g : D → Res R} {s : Ga → Res (Ga × D)} (hc : CallD1 X E (.type T) g) (hg : Gl X x) (hm : X.mg x = none) (hv : bootBuiltins x = some (.type T)) (h : JB X E e s) (hn : x ≠ "__name__" := by decide) (hdb : (x == ("__debug__" : Str)) = false := by decide)
    (hst : starEach (e :: []) X.env = (false, eval e X.env) :: starEach [] X.env := by rfl) : JE X E (.Call (.Name x p) [e] [] pos) (sUn g s) := by
  obtain ⟨r, hcr, hr⟩ := hc
  obtain ⟨t, pp, ha⟩ := h.ex
  exact ⟨_, pe_callTy hcr hg hm hv (pa_cons pp pa_nil hst) hn hdb hst rfl, one_sound hr ha⟩
theorem je_callB {g : List D → Res R} {s : Ga → Res (Ga × List D)} (hc : CallD X E (.builtin id) g) (hg : Gl X x) (hm : X.mg x = none) (hv : bootBuiltins x = some (.builtin id)) (h : JA X E (e :: es) s) (hn : x ≠ "__name__" := by decide) (hdb : (x == ("__debug__" : Str)) = false := by decide)
    (he : starEach (e :: es) X.env = (false, eval e X.env) :: starEach es X.env := by rfl) (hpl : (backTo pos (starEach es X.env)).any (·.1) = false := by rfl) : JE X E (.Call (.Name x p) (e :: es) [] pos) (sCallB g s) := by
  obtain ⟨r, hcr, hr⟩ := hc
  obtain ⟨t, pp, ha⟩ := h.ex
  refine ⟨_, pe_callB hcr hg hm hv pp hn hdb he hpl, fun B σ Γ H0 H Q ok w => ?_⟩
  show t σ H fun vs H1 => r vs H1 Q
  exact a_then ha wok_E ok w fun Γ1 xs vs H01 H1 w1 ok1 g1 l1 r1 => hr B σ Γ1 H01 H1 Q vs xs ok1 r1 w1
end
def lenG : D → Res R
  | .list xs => .ok (.d (.int xs.length))
  | .tuple xs => .ok (.d (.int xs.length))
  | .str x => if x.length ≤ sizeLine then .ok (.d (.int x.length)) else .stuck
  | _ => .stuck
theorem cd_len : CallD1 X E (.builtin "len") lenG := by
  refine ⟨_, call_len, fun B σ Γ H0 H Q v x ok rx w => ?_⟩
  unfold lenG at w
  split at w
  · obtain ⟨p, vs, rfl, h1, r1⟩ := rx.lst ok.sub
    refine ⟨_, _, rfl, .inl ⟨vs, SqL.of h1, rfl⟩, ?_⟩
    rw [r1.len]; exact opd_d ok w (.int _)
  · obtain ⟨p, vs, rfl, h1, r1⟩ := rx.tup ok.sub
    refine ⟨_, _, rfl, .inr ⟨vs, h1, rfl⟩, ?_⟩
    rw [r1.len]; exact opd_d ok w (.int _)
  · split at w
    · cases rx.str
      exact ⟨_, _, rfl, ⟨by assumption, rfl⟩, opd_d ok w (.int _)⟩
    · exact w.elim
  · exact w.elim
def listG : D → Res R
  | .list xs => .ok (.f xs)
  | .tuple xs => .ok (.f xs)
  | _ => .stuck
theorem cd_list : CallD1 X E (.type "list") listG := by
  refine ⟨_, call_list_of, fun B σ Γ H0 H Q v x ok rx w => ?_⟩
  unfold listG at w
  split at w
  · obtain ⟨p, vs, rfl, h1, r1⟩ := rx.lst ok.sub
    exact ⟨p, vs, rfl, .inl (SqL.of h1), fun l hl => opd_lst ok w r1 hl⟩
  · obtain ⟨p, vs, rfl, h1, r1⟩ := rx.tup ok.sub
    exact ⟨p, vs, rfl, .inr h1, fun l hl => opd_lst ok w r1 hl⟩
  · exact w.elim
def tupleG : D → Res R
  | .list xs => .ok (.d (.tuple xs))
  | .tuple xs => .ok (.d (.tuple xs))
  | _ => .stuck
theorem cd_tuple : CallD1 X E (.type "tuple") tupleG := by
  refine ⟨_, call_tuple_of, fun B σ Γ H0 H Q v x ok rx w => ?_⟩
  unfold tupleG at w
  split at w
  · obtain ⟨p, vs, rfl, h1, r1⟩ := rx.lst ok.sub
    exact ⟨p, vs, rfl, .inl ⟨SqL.of h1, fun l hl => opd_tup ok w r1 hl⟩⟩
  · obtain ⟨p, vs, rfl, h1, r1⟩ := rx.tup ok.sub
    refine ⟨p, vs, rfl, .inr ⟨h1, ?_⟩⟩
    rcases rx with r | ⟨_, _, _, e1, e2, _⟩
    · exact opd_d ok w r
    · cases e2
  · exact w.elim
def intsOf : List D → Option (List Int)
  | [] => some []
  | .int i :: r => (intsOf r).map (i :: ·)
  | _ :: _ => none
theorem ints_rp {K : PySem.W.Frag} {H : Hp} : ∀ {xs : List D} {vs : List V} {ns : List Int}, RpAll K H vs xs → intsOf xs = some ns → vs = ns.map V.int
  | [], _, _, r, h => by cases r; cases h; rfl
  | .int i :: xs, _, ns, r, h => by
    unfold intsOf at h
    cases hx : intsOf xs with
    | none => rw [hx] at h; cases h
    | some ms =>
      rw [hx] at h; cases h
      cases r with
      | cons r1 r2 => cases r1; rw [ints_rp r2 hx]; rfl
  | .none :: _, _, _, _, h => by cases h
  | .bool _ :: _, _, _, _, h => by cases h
  | .str _ :: _, _, _, _, h => by cases h
  | .list _ :: _, _, _, _, h => by cases h
  | .tuple _ :: _, _, _, _, h => by cases h
  | .dict _ :: _, _, _, _, h => by cases h
def sumG : D → Res R
  | .list xs => match intsOf xs with | some ns => .ok (.d (.int ns.sum)) | none => .stuck
  | _ => .stuck
theorem cd_sum (hc : X.calm = true) : CallD1 X E (.builtin "sum") sumG := by
  refine ⟨_, cr_sum hc, fun B σ Γ H0 H Q v x ok rx w => ?_⟩
  unfold sumG at w
  split at w
  · split at w
    · rename_i ns hns
      obtain ⟨p, vs, rfl, h1, r1⟩ := rx.lst ok.sub
      rw [ints_rp r1 hns] at h1
      exact ⟨p, ns, rfl, SqL.of h1, opd_d ok w (.int _)⟩
    · exact w.elim
  · exact w.elim
/-- the greatest, the least -/
def maxL : Int → List Int → Int
  | m, [] => m
  | m, x :: r => maxL (if m < x then x else m) r
def minL : Int → List Int → Int
  | m, [] => m
  | m, x :: r => minL (if x < m then x else m) r
theorem maxL_ge : ∀ (l : List Int) (m : Int), m ≤ maxL m l ∧ ∀ y ∈ l, y ≤ maxL m l
  | [], m => ⟨Int.le_refl _, fun y h => by cases h⟩
  | x :: r, m => by
    obtain ⟨h1, h2⟩ := maxL_ge r (if m < x then x else m)
    refine ⟨?_, fun y hy => ?_⟩
    · show m ≤ maxL (if m < x then x else m) r
      split at h1 <;> rename_i z
      · rw [if_pos z]; omega
      · rw [if_neg z]; omega
    · rcases List.mem_cons.mp hy with e | hy
      · subst e
        show y ≤ maxL (if m < y then y else m) r
        split at h1 <;> rename_i z
        · rw [if_pos z]; omega
        · rw [if_neg z]; omega
      · exact h2 y hy
theorem minL_le : ∀ (l : List Int) (m : Int), minL m l ≤ m ∧ ∀ y ∈ l, minL m l ≤ y
  | [], m => ⟨Int.le_refl _, fun y h => by cases h⟩
  | x :: r, m => by
    obtain ⟨h1, h2⟩ := minL_le r (if x < m then x else m)
    refine ⟨?_, fun y hy => ?_⟩
    · show minL (if x < m then x else m) r ≤ m
      split at h1 <;> rename_i z
      · rw [if_pos z]; omega
      · rw [if_neg z]; omega
    · rcases List.mem_cons.mp hy with e | hy
      · subst e
        show minL (if y < m then y else m) r ≤ y
        split at h1 <;> rename_i z
        · rw [if_pos z]; omega
        · rw [if_neg z]; omega
      · exact h2 y hy
theorem maxL_mem : ∀ (l : List Int) (m : Int), maxL m l = m ∨ maxL m l ∈ l
  | [], m => .inl rfl
  | x :: r, m => by
    show maxL (if m < x then x else m) r = m ∨ maxL (if m < x then x else m) r ∈ x :: r
    rcases maxL_mem r (if m < x then x else m) with h | h
    · split at h <;> rename_i z
      · rw [if_pos z, h]; exact .inr List.mem_cons_self
      · rw [if_neg z, h]; exact .inl rfl
    · exact .inr (List.mem_cons_of_mem _ h)
theorem minL_mem : ∀ (l : List Int) (m : Int), minL m l = m ∨ minL m l ∈ l
  | [], m => .inl rfl
  | x :: r, m => by
    show minL (if x < m then x else m) r = m ∨ minL (if x < m then x else m) r ∈ x :: r
    rcases minL_mem r (if x < m then x else m) with h | h
    · split at h <;> rename_i z
      · rw [if_pos z, h]; exact .inr List.mem_cons_self
      · rw [if_neg z, h]; exact .inl rfl
    · exact .inr (List.mem_cons_of_mem _ h)
def maxG : D → Res R
  | .list xs => match intsOf xs with | some (n :: ns) => .ok (.d (.int (maxL n ns))) | _ => .stuck
  | _ => .stuck
def minG : D → Res R
  | .list xs => match intsOf xs with | some (n :: ns) => .ok (.d (.int (minL n ns))) | _ => .stuck
  | _ => .stuck
theorem cd_max (hc : X.calm = true) : CallD1 X E (.builtin "max") maxG := by
  refine ⟨_, cr_max hc, fun B σ Γ H0 H Q v x ok rx w => ?_⟩
  unfold maxG at w
  split at w
  · split at w
    · rename_i n ns hns
      obtain ⟨p, vs, rfl, h1, r1⟩ := rx.lst ok.sub
      rw [ints_rp r1 hns] at h1
      refine ⟨p, n :: ns, rfl, SqL.of h1, Nat.succ_pos _, fun m hm hy => ?_⟩
      have e : m = maxL n ns := by
        have h2 := maxL_ge ns n
        have h3 : m ≤ maxL n ns := by
          rcases List.mem_cons.mp hm with q | q
          · rw [q]; exact h2.1
          · exact h2.2 m q
        have h4 : maxL n ns ≤ m := by
          rcases maxL_mem ns n with q | q
          · rw [q]; exact hy n List.mem_cons_self
          · exact hy _ (List.mem_cons_of_mem _ q)
        omega
      rw [e]; exact opd_d ok w (.int _)
    · exact w.elim
  · exact w.elim
theorem cd_min (hc : X.calm = true) : CallD1 X E (.builtin "min") minG := by
  refine ⟨_, cr_min hc, fun B σ Γ H0 H Q v x ok rx w => ?_⟩
  unfold minG at w
  split at w
  · split at w
    · rename_i n ns hns
      obtain ⟨p, vs, rfl, h1, r1⟩ := rx.lst ok.sub
      rw [ints_rp r1 hns] at h1
      refine ⟨p, n :: ns, rfl, SqL.of h1, Nat.succ_pos _, fun m hm hy => ?_⟩
      have e : m = minL n ns := by
        have h2 := minL_le ns n
        have h3 : minL n ns ≤ m := by
          rcases List.mem_cons.mp hm with q | q
          · rw [q]; exact h2.1
          · exact h2.2 m q
        have h4 : m ≤ minL n ns := by
          rcases minL_mem ns n with q | q
          · rw [q]; exact hy n List.mem_cons_self
          · exact hy _ (List.mem_cons_of_mem _ q)
        omega
      rw [e]; exact opd_d ok w (.int _)
    · exact w.elim
  · exact w.elim
def max2G : List D → Res R
  | [.int i, .int j] => .ok (.d (.int (if j > i then j else i)))
  | _ => .stuck
def min2G : List D → Res R
  | [.int i, .int j] => .ok (.d (.int (if j < i then j else i)))
  | _ => .stuck
theorem rp2 {K : PySem.W.Frag} {H : Hp} {vs : List V} {i j : Int} (r : RpAll K H vs [.int i, .int j]) : vs = [.int i, .int j] := by
  cases r with
  | cons r1 r2 =>
    cases r2 with
    | cons r2 r3 => cases r1; cases r2; cases r3; rfl
theorem cd_max2 (hc : X.calm = true) : CallD X E (.builtin "max") max2G := by
  refine ⟨_, call_max2 hc, fun B σ Γ H0 H Q vs xs ok rx w => ?_⟩
  unfold max2G at w
  split at w
  · exact ⟨_, _, rp2 rx, opd_d ok w (.int _)⟩
  · exact w.elim
theorem cd_min2 (hc : X.calm = true) : CallD X E (.builtin "min") min2G := by
  refine ⟨_, call_min2 hc, fun B σ Γ H0 H Q vs xs ok rx w => ?_⟩
  unfold min2G at w
  split at w
  · exact ⟨_, _, rp2 rx, opd_d ok w (.int _)⟩
  · exact w.elim
def divmodG : List D → Res R
  | [.int i, .int j] => if 0 < j ∧ j.natAbs.log2 < 9000 then .ok (.d (.tuple [.int (i / j), .int (i % j)])) else .stuck
  | _ => .stuck
def absG : D → Res R
  | .int i => .ok (.d (.int (if i < 0 then -i else i)))
  | _ => .stuck
theorem cd_abs : CallD1 X E (.builtin "abs") absG := by
  refine ⟨_, call_abs, fun B σ Γ H0 H Q v x ok rx w => ?_⟩
  unfold absG at w
  split at w
  · cases rx.int
    exact ⟨_, rfl, opd_d ok w (.int _)⟩
  · exact w.elim
def intG : D → Res R
  | .int i => .ok (.d (.int i))
  | .bool b => .ok (.d (.int (if b then 1 else 0)))
  | _ => .stuck
theorem cd_int : CallD1 X E (.type "int") intG := by
  refine ⟨_, call_int1, fun B σ Γ H0 H Q v x ok rx w => ?_⟩
  unfold intG at w
  split at w
  · cases rx.int
    exact .inl ⟨_, rfl, opd_d ok w (.int _)⟩
  · cases rx.bl
    exact .inr ⟨_, rfl, opd_d ok w (.int _)⟩
  · exact w.elim
def boolsOf : List D → Option (List Bool)
  | [] => some []
  | .bool i :: r => (boolsOf r).map (i :: ·)
  | _ :: _ => none
theorem bools_rp {K : PySem.W.Frag} {H : Hp} : ∀ {xs : List D} {vs : List V} {ns : List Bool}, RpAll K H vs xs → boolsOf xs = some ns → vs = ns.map V.bl
  | [], _, _, r, h => by cases r; cases h; rfl
  | .bool i :: xs, _, ns, r, h => by
    unfold boolsOf at h
    cases hx : boolsOf xs with
    | none => rw [hx] at h; cases h
    | some ms =>
      rw [hx] at h; cases h
      cases r with
      | cons r1 r2 => cases r1; rw [bools_rp r2 hx]; rfl
  | .none :: _, _, _, _, h => by cases h
  | .int _ :: _, _, _, _, h => by cases h
  | .str _ :: _, _, _, _, h => by cases h
  | .list _ :: _, _, _, _, h => by cases h
  | .tuple _ :: _, _, _, _, h => by cases h
  | .dict _ :: _, _, _, _, h => by cases h
def allG : D → Res R
  | .list xs => match boolsOf xs with | some ns => .ok (.d (.bool (ns.all id))) | none => .stuck
  | _ => .stuck
theorem cd_all (hc : X.calm = true) : CallD1 X E (.builtin "all") allG := by
  refine ⟨_, cr_all hc, fun B σ Γ H0 H Q v x ok rx w => ?_⟩
  unfold allG at w
  split at w
  · split at w
    · rename_i ns hns
      obtain ⟨p, vs, rfl, h1, r1⟩ := rx.lst ok.sub
      rw [bools_rp r1 hns] at h1
      exact ⟨p, ns, rfl, SqL.of h1, opd_d ok w (.bl _)⟩
    · exact w.elim
  · exact w.elim
/-- isinstance with a built-in class -/
def tyD : D → Option String
  | .none => some "NoneType"
  | .bool _ => some "bool"
  | .int _ => some "int"
  | .str _ => some "str"
  | .list _ => some "list"
  | .tuple _ => some "tuple"
  | .dict _ => none
def isiB (a b : String) : Bool := a == b || (a == "bool" && b == "int")
def kinds5 : List String := ["NoneType", "bool", "int", "str", "list", "tuple"]
theorem kit_all : ∀ a ∈ kinds5, ∀ b ∈ ["bool", "int", "str", "list", "tuple"], kitB a b = some (isiB a b) := by decide +kernel
def isiG (T : String) : D → Res R := fun x => match tyD x with | some t => .ok (.d (.bool (isiB t T))) | none => .stuck
theorem tyD_ok {K : PySem.W.Frag} {H0 H : Hp} {v : V} {x : D} {t : String} (s : Ex H0 H) (r : RpB K H0 H v x) (h : tyD x = some t) : TyX K H v (.type t) ∧ t ∈ kinds5 := by
  cases x with
  | none => cases h; cases r.non; exact ⟨.base .non, by decide⟩
  | bool b => cases h; cases r.bl; exact ⟨.base (.bl _), by decide⟩
  | int i => cases h; cases r.int; exact ⟨.base (.int _), by decide⟩
  | str z => cases h; cases r.str; exact ⟨.base (.str _), by decide⟩
  | list xs =>
    cases h
    obtain ⟨p, vs, rfl, h1, _⟩ := r.lst s
    exact ⟨.base (.lst h1), by decide⟩
  | tuple xs =>
    cases h
    obtain ⟨p, vs, rfl, h1, _⟩ := r.tup s
    refine ⟨?_, by decide⟩
    rcases h1 with (h1 | ⟨o, h1⟩) | ⟨o, its, n, h1, h2, _⟩
    · exact .base (.tup h1)
    · exact .fTuple h1
    · exact .kTuple h1 h2
  | dict _ => cases h
theorem je_isi {x : Str} {p q : Pos} {T : String} {y : Str} {s : Ga → Res (Ga × D)} (hT : T ∈ ["bool", "int", "str", "list", "tuple"]) (hg : Gl X x) (hm : X.mg x = none) (hv : bootBuiltins x = some (.builtin "isinstance")) (hg2 : Gl X y) (hm2 : X.mg y = none) (hv2 : bootBuiltins y = some (.type T))
    (h : JB X E e s) (hn : x ≠ "__name__" := by decide) (hdb : (x == ("__debug__" : Str)) = false := by decide) (hn2 : y ≠ "__name__" := by decide) (hdb2 : (y == ("__debug__" : Str)) = false := by decide)
    (hs : starEach (e :: [.Name y q]) X.env = (false, eval e X.env) :: starEach [.Name y q] X.env := by rfl) (hs2 : starEach (Expr.Name y q :: []) X.env = (false, eval (.Name y q) X.env) :: starEach [] X.env := by rfl) (hpl : (backTo pos (starEach [.Name y q] X.env)).any (·.1) = false := by rfl) :
    JE X E (.Call (.Name x p) [e, .Name y q] [] pos) (sUn (isiG T) s) := by
  obtain ⟨t, pp, ha⟩ := h.ex
  refine ⟨_, pe_callB call_isi hg hm hv (pa_cons pp (pa_cons (pe_bltn (v := .ty T) hg2 hm2 hv2 rfl hn2 hdb2) pa_nil hs2) hs) hn hdb hs hpl, fun B σ Γ H0 H Q ok w => ?_⟩
  show t σ H fun x H1 => rIsi X.K [x, .ty T] H1 Q
  refine b_then ha wok_E ok w fun Γ1 x v H01 H1 w1 ok1 g1 l1 r1 => ?_
  unfold isiG at w1
  split at w1
  · rename_i t' ht
    obtain ⟨h1, h2⟩ := tyD_ok ok1.sub r1 ht
    exact ⟨v, .ty T, _, _, _, rfl, .ty T, h1, kit_ty (kit_all _ h2 _ hT), opd_d ok1 w1 (.bl _)⟩
  · exact w1.elim
end
end Mi
namespace Mi
open PySem L2 Evl

/-! ### slots set -/
section
variable {K : PySem.W.Frag} {B : Bg} {σ : L2.St} {Γ : Ga} {H0 H : Hp}
theorem set_back {α : Type} {l : List α} {i j : Nat} {x y : α} (h : (l.set i x)[j]? = some y) : (j = i ∧ y = x ∧ i < l.length) ∨ (j ≠ i ∧ l[j]? = some y) := by
  by_cases z : j = i
  · subst z
    by_cases hi : j < l.length
    · rw [List.getElem?_set_self hi] at h; cases h; exact .inl ⟨rfl, rfl, hi⟩
    · rw [List.getElem?_eq_none (by simpa using hi)] at h; cases h
  · rw [List.getElem?_set_ne (Ne.symm z)] at h; exact .inr ⟨z, h⟩
theorem set_at {α : Type} {l : List α} {i : Nat} {x : α} (h : i < l.length) : (l.set i x)[i]? = some x := List.getElem?_set_self h
theorem upd_live {H : Hp} {p a : Addr} {o : HO} (q : H p ≠ none) : upd H a o p ≠ none := by
  unfold upd
  split
  · simp
  · exact q
theorem EnvOk.setD (ok : EnvOk K B σ Γ H0 H) {v : V} {x : D} (i : Nat) (r : Rp K H0 v x) : EnvOk K B (σ.set i (some v)) (Γ.set i (.d x)) H0 H where
  sub := ok.sub
  len := by simp [ok.len]
  dat := fun j y h => by
    rcases set_back h with ⟨e, e2, hi⟩ | ⟨e, h⟩
    · cases e2; subst e
      exact ⟨v, set_at (by rw [← ok.len]; exact hi), r⟩
    · obtain ⟨w, e1, q⟩ := ok.dat j y h
      exact ⟨w, by rw [List.getElem?_set_ne (Ne.symm e)]; exact e1, q⟩
  scr := fun j y h => by
    rcases set_back h with ⟨e, e2, hi⟩ | ⟨e, h⟩
    · cases e2
    · obtain ⟨w, e1, q⟩ := ok.scr j y h
      exact ⟨w, by rw [List.getElem?_set_ne (Ne.symm e)]; exact e1, q⟩
  own := fun j b xs h => by
    rcases set_back h with ⟨e, e2, hi⟩ | ⟨e, h⟩
    · cases e2
    · obtain ⟨a, vs, e1, q⟩ := ok.own j b xs h
      exact ⟨a, vs, by rw [List.getElem?_set_ne (Ne.symm e)]; exact e1, q⟩
  apart := fun j k b c xs ys a hjk h1 h2 => by
    rcases set_back h1 with ⟨e, e2, hi⟩ | ⟨e, h1⟩
    · cases e2
    · rcases set_back h2 with ⟨e', e2, hi⟩ | ⟨e', h2⟩
      · cases e2
      · rw [List.getElem?_set_ne (Ne.symm e), List.getElem?_set_ne (Ne.symm e')]
        exact ok.apart j k b c xs ys a hjk h1 h2
  grow := ok.grow
theorem EnvOk.setF (ok : EnvOk K B σ Γ H0 H) {a : Addr} {vs : List V} {xs : List D} (i : Nat) (hb : B.He a = none) (n0 : H0 a = none) (e : H a = some (.lst vs)) (r : RpAll K H0 vs xs) (no : ¬ OwnOf σ Γ a) :
    EnvOk K B (σ.set i (some (.ref a))) (Γ.set i (.own false xs)) H0 H where
  sub := ok.sub
  len := by simp [ok.len]
  dat := fun j y h => by
    rcases set_back h with ⟨e, e2, hi⟩ | ⟨e, h⟩
    · cases e2
    · obtain ⟨w, e1, q⟩ := ok.dat j y h
      exact ⟨w, by rw [List.getElem?_set_ne (Ne.symm e)]; exact e1, q⟩
  scr := fun j y h => by
    rcases set_back h with ⟨e, e2, hi⟩ | ⟨e, h⟩
    · cases e2
    · obtain ⟨w, e1, q⟩ := ok.scr j y h
      exact ⟨w, by rw [List.getElem?_set_ne (Ne.symm e)]; exact e1, q⟩
  own := fun j b ys h => by
    rcases set_back h with ⟨z, e2, hi⟩ | ⟨z, h⟩
    · cases e2; subst z
      exact ⟨a, vs, set_at (by rw [← ok.len]; exact hi), n0, e, r, (fun q => nomatch q), fun _ => hb⟩
    · obtain ⟨a, vs, e1, q⟩ := ok.own j b ys h
      exact ⟨a, vs, by rw [List.getElem?_set_ne (Ne.symm z)]; exact e1, q⟩
  apart := fun j k b c ys zs p hjk h1 h2 => by
    rcases set_back h1 with ⟨z, e2, hi⟩ | ⟨z, h1'⟩
    · cases e2; subst z
      rcases set_back h2 with ⟨z', e2, hi⟩ | ⟨z', h2'⟩
      · exact absurd z'.symm hjk
      · rw [set_at (by rw [← ok.len]; exact hi), List.getElem?_set_ne (Ne.symm z')]
        intro q q2
        cases q
        exact no ⟨k, c, zs, h2', q2⟩
    · rcases set_back h2 with ⟨z', e2, hi⟩ | ⟨z', h2'⟩
      · cases e2; subst z'
        rw [set_at (by rw [← ok.len]; exact hi), List.getElem?_set_ne (Ne.symm z)]
        intro q q2
        cases q2
        exact no ⟨j, b, ys, h1', q⟩
      · rw [List.getElem?_set_ne (Ne.symm z), List.getElem?_set_ne (Ne.symm z')]
        exact ok.apart j k b c ys zs p hjk h1' h2'
  grow := ok.grow
/-- a list of the def's own is changed -/
theorem Grow.own {i : Nat} {b : Bool} {xs : List D} {a : Addr} {o : HO} (h : Γ[i]? = some (.own b xs)) (e : σ[i]? = some (some (.ref a))) : Grow (OwnOf σ Γ) H0 H H0 (upd H a o) :=
  ⟨Ex.refl _, fun p u q n => by rw [upd_ne fun z => n ⟨i, b, xs, h, by rw [← z] at e; exact e⟩]; exact q, fun _ _ _ => rfl, fun p q => upd_live q⟩
theorem EnvOk.setOwn (ok : EnvOk K B σ Γ H0 H) {i : Nat} {b : Bool} {xs ys : List D} {a : Addr} {ws : List V} (h : Γ[i]? = some (.own b xs)) (e : σ[i]? = some (some (.ref a))) (r : RpAll K H0 ws ys) :
    EnvOk K B σ (Γ.set i (.own b ys)) H0 (upd H a (.lst ws)) := by
  obtain ⟨a', vs, q1, q2, q3, q4, q5, q6⟩ := ok.own i b xs h
  rw [e] at q1; cases q1
  refine ok.step (Grow.own h e) (ok.sub.mut q2) (fun j x hj => ?_) (fun j ns hj => ?_) fun j c zs hj => ?_
  · rcases set_back hj with ⟨_, z, _⟩ | ⟨_, z⟩
    · cases z
    · exact .inl z
  · rcases set_back hj with ⟨_, z, _⟩ | ⟨_, z⟩
    · cases z
    · exact z
  · rcases set_back hj with ⟨z1, z, _⟩ | ⟨z1, z⟩
    · cases z; subst z1
      exact ⟨xs, h, fun p hp => by rw [e] at hp; cases hp; exact ⟨q2, ws, upd_same, r⟩⟩
    · refine ⟨zs, z, fun p hp => ?_⟩
      obtain ⟨p', us, p1, p2, p3, p4, _⟩ := ok.own j c zs z
      rw [hp] at p1; cases p1
      refine ⟨p2, us, ?_, p4⟩
      rw [upd_ne fun y => ok.apart j i c b zs xs p z1 z h hp (by rw [e, y])]; exact p3
theorem Less.setOwn {i : Nat} {b : Bool} {xs ys : List D} (h : Γ[i]? = some (.own b xs)) : Less Γ (Γ.set i (.own b ys)) := fun j c zs hj => by
  rcases set_back hj with ⟨z1, z, _⟩ | ⟨_, z⟩
  · cases z; subst z1; exact ⟨xs, h⟩
  · exact ⟨zs, z⟩
/-- an object that is neither data nor a slot's changes -/
theorem Grow.poke {D : Addr} {o : HO} : Grow (fun p => p = D) H0 H H0 (upd H D o) :=
  ⟨Ex.refl _, fun p u q n => by rw [upd_ne n]; exact q, fun _ _ _ => rfl, fun p q => upd_live q⟩
theorem EnvOk.poke (ok : EnvOk K B σ Γ H0 H) {D : Addr} {o : HO} (n0 : H0 D = none) (no : ¬ OwnOf σ Γ D) (hb : B.He D = none) : EnvOk K B σ Γ H0 (upd H D o) where
  sub := ok.sub.mut n0
  len := ok.len
  dat := ok.dat
  scr := ok.scr
  own := fun i b xs h => by
    obtain ⟨a, vs, q1, q2, q3, q⟩ := ok.own i b xs h
    exact ⟨a, vs, q1, q2, by rw [upd_ne fun z => no ⟨i, b, xs, h, by rw [← z]; exact q1⟩]; exact q3, q⟩
  apart := ok.apart
  grow := ok.grow.trans Grow.poke fun p z => .inr (by rw [z]; exact hb)
end

/-! ### statements -/
inductive RVB (K : PySem.W.Frag) (B : Bg) (H0 H : Hp) : R → V → Prop
  | d {x : D} {v : V} : Rp K H0 v x → RVB K B H0 H (.d x) v
  | f {xs : List D} {a : Addr} {vs : List V} : B.He a = none → H0 a = none → H a = some (.lst vs) → RpAll K H0 vs xs → RVB K B H0 H (.f xs) (.ref a)
def FlOk (K : PySem.W.Frag) (B : Bg) (H0 H : Hp) (σ : L2.St) (Dn : Ends) : Fl → Prop
  | .nx => Dn.nx σ H
  | .bk => Dn.bk σ H
  | .ct => Dn.ct σ H
  | .rt r => ∀ v, RVB K B H0 H r v → Dn.rt v H
def SW (X : Cx) (B : Bg) (E : XK) (H0 : Hp) (r : Res (Ga × Fl)) (Dn : Ends) : Prop := match r with
  | .ok (Γ', fl) => ∀ σ' H0' H', EnvOk X.K B σ' Γ' H0' H' → Ex H0 H0' → FlOk X.K B H0' H' σ' Dn fl
  | .exc c x => XW X B E c x
  | .stuck => False
structure JS (X : Cx) (E : XK) (st : Stmt) (s : Ga → Res (Ga × Fl)) : Prop where
  ex : ∃ t, PS X st t ∧ ∀ B σ Γ H0 H Dn, EnvOk X.K B σ Γ H0 H → SW X B E H0 (s Γ) Dn → t Dn σ H
structure JSs (X : Cx) (E : XK) (st : List Stmt) (s : Ga → Res (Ga × Fl)) : Prop where
  ex : ∃ t, PSs X st t ∧ ∀ B σ Γ H0 H Dn, EnvOk X.K B σ Γ H0 H → SW X B E H0 (s Γ) Dn → t Dn σ H
structure JG (X : Cx) (tg : Expr) (g : D → Ga → Option Ga) : Prop where
  ex : ∃ t, PG X tg t ∧ ∀ B σ Γ H0 H v x Γ' Q, EnvOk X.K B σ Γ H0 H → Rp X.K H0 v x → g x Γ = some Γ' → (∀ σ', EnvOk X.K B σ' Γ' H0 H → Q σ' H) → t v σ H Q
structure JGs (X : Cx) (tg : List Expr) (g : List D → Ga → Option Ga) : Prop where
  ex : ∃ t, PGs X tg t ∧ ∀ B σ Γ H0 H v x Γ' Q, EnvOk X.K B σ Γ H0 H → RpAll X.K H0 v x → g x Γ = some Γ' → (∀ σ', EnvOk X.K B σ' Γ' H0 H → Q σ' H) → t v σ H Q
section
variable {X : Cx} {E : XK} {B : Bg} {st : Stmt} {rest : List Stmt} {s u : Ga → Res (Ga × Fl)} {e a b c tg : Expr} {pos pos' : Pos}
theorem wok_S {σ : L2.St} {Dn : Ends} : WOk X B E σ fun (Γ : Ga) H0 (H : Hp) r => SW X B E H0 r Dn where
  exc := fun _ _ _ _ _ h => h
  stuck := fun _ _ _ h => h
  shift := fun Γ H0 H Γ1 H01 H1 r ok g l w => by
    cases r with
    | stuck => exact w
    | exc c x => exact w
    | ok p => exact fun σ' H0' H' o' e' => w σ' H0' H' o' (g.ex0.trans e')
def sSkip : Ga → Res (Ga × Fl) := fun Γ => .ok (Γ, .nx)
def sSeq (s u : Ga → Res (Ga × Fl)) : Ga → Res (Ga × Fl) := fun Γ => (s Γ).bind fun p => match p.2 with | .nx => u p.1 | fl => .ok (p.1, fl)
theorem jss_nil : JSs X E [] sSkip := ⟨_, pss_nil, fun B σ Γ H0 H Dn ok w => w σ H0 H ok (Ex.refl _)⟩
theorem jss_one (h : JS X E st s) : JSs X E [st] s := let ⟨t, p, q⟩ := h.ex; ⟨t, pss_one p, q⟩
theorem jss_cons (h : JS X E st s) (hr : JSs X E rest u) : JSs X E (st :: rest) (sSeq s u) := by
  obtain ⟨t, p, ha⟩ := h.ex
  obtain ⟨t', p', hb⟩ := hr.ex
  refine ⟨_, pss_cons p p', fun B σ Γ H0 H Dn ok w => ?_⟩
  show t { Dn with nx := t' Dn } σ H
  refine ha B σ Γ H0 H _ ok ?_
  unfold sSeq at w
  cases hs : s Γ with
  | stuck => rw [hs] at w; exact w
  | exc c x => rw [hs] at w; exact w
  | ok q =>
    obtain ⟨Γ1, fl⟩ := q
    rw [hs] at w
    intro σ1 H01 H1 ok1 e1
    cases fl with
    | nx =>
      refine hb B σ1 Γ1 H01 H1 Dn ok1 ?_
      have w : SW X B E H0 (u Γ1) Dn := w
      cases hu : u Γ1 with
      | stuck => rw [hu] at w; exact w
      | exc c x => rw [hu] at w; exact w
      | ok q => rw [hu] at w; exact fun σ' H0' H' o' e' => w σ' H0' H' o' (e1.trans e')
    | bk => exact w σ1 H01 H1 ok1 e1
    | ct => exact w σ1 H01 H1 ok1 e1
    | rt r => exact w σ1 H01 H1 ok1 e1
theorem js_pass : JS X E (.Pass pos) sSkip := ⟨_, ps_pass, fun B σ Γ H0 H Dn ok w => w σ H0 H ok (Ex.refl _)⟩
def sBrk : Ga → Res (Ga × Fl) := fun Γ => .ok (Γ, .bk)
def sCnt : Ga → Res (Ga × Fl) := fun Γ => .ok (Γ, .ct)
theorem js_break : JS X E (.Break pos) sBrk := ⟨_, ps_break, fun B σ Γ H0 H Dn ok w => w σ H0 H ok (Ex.refl _)⟩
theorem js_continue : JS X E (.Continue pos) sCnt := ⟨_, ps_continue, fun B σ Γ H0 H Dn ok w => w σ H0 H ok (Ex.refl _)⟩
def sNever : Ga → Res (Ga × Fl) := fun _ => .stuck
theorem js_never : JS X E st sNever := ⟨_, ps_never, fun B σ Γ H0 H Dn ok w => w.elim⟩
def sCond (c : Ga → Res (Ga × Bool)) (s u : Ga → Res (Ga × Fl)) : Ga → Res (Ga × Fl) := fun Γ => (c Γ).bind fun p => if p.2 = true then s p.1 else u p.1
theorem js_if {sc : Ga → Res (Ga × Bool)} {ss us : List Stmt} (hc : JT X E c sc) (ha : JSs X E ss s) (hb : JSs X E us u) : JS X E (.If c ss us pos) (sCond sc s u) := by
  obtain ⟨tc, pc, hc⟩ := hc.ex
  obtain ⟨ta, pa, ha⟩ := ha.ex
  obtain ⟨tb, pb, hb⟩ := hb.ex
  refine ⟨_, ps_if pc pa pb, fun B σ Γ H0 H Dn ok w => ?_⟩
  show tc σ H fun b H1 => if b = true then ta Dn σ H1 else tb Dn σ H1
  refine t_then hc wok_S ok w fun Γ1 c H01 H1 w1 ok1 g1 l1 => ?_
  cases c with
  | true => exact ha B σ Γ1 H01 H1 Dn ok1 w1
  | false => exact hb B σ Γ1 H01 H1 Dn ok1 w1
def slotOf : R → Sl
  | .d x => .d x
  | .f xs => .own false xs
def sSet (i : Nat) (s : Ga → Res (Ga × R)) : Ga → Res (Ga × Fl) := fun Γ => (s Γ).bind fun p => .ok (p.1.set i (slotOf p.2), .nx)
theorem RV.he {K : PySem.W.Frag} {σ : L2.St} {Γ : Ga} {H0 H : Hp} {a : Addr} (ok : EnvOk K B σ Γ H0 H) (n : H a = none) : B.He a = none := by
  cases q : B.He a with
  | none => rfl
  | some o => exact absurd n (ok.grow.live a (by rw [q]; simp))
theorem set_ok {K : PySem.W.Frag} {σ : L2.St} {Γ Γ1 : Ga} {H0 H H01 H1 : Hp} {x : R} {v : V} (i : Nat) (ok0 : EnvOk K B σ Γ H0 H) (ok : EnvOk K B σ Γ1 H01 H1) (l : Less Γ Γ1) (r : RV K H0 H H01 H1 x v) : EnvOk K B (σ.set i (some v)) (Γ1.set i (slotOf x)) H01 H1 := by
  cases r with
  | d r => exact ok.setD i r
  | f n n0 e r => exact ok.setF i (RV.he ok0 n) n0 e r fun z => (ok0.ownLive (l.own z)).1 n
/-- x = e -/
theorem js_set {i : Nat} {x : Str} {se : Ga → Res (Ga × R)} (hN : X.N.Nodup) (hi : X.N[i]? = some x) (hx : Loc X.env.scope x) (he : JE X E e se) (hs : swapsWith e (some (.Name x pos')) pos.line X.env = pure false := by rfl)
    (hf : X.fn x = true ∨ X.env.scope.names.lookup x = some .local := by first | exact .inl rfl | exact .inr rfl | assumption) : JS X E (.Assign [.Name x pos'] e pos) (sSet i se) := by
  obtain ⟨t, p, ha⟩ := he.ex
  refine ⟨_, ps_set hN hi hx p hs hf, fun B σ Γ H0 H Dn ok w => ?_⟩
  show t σ H fun x H1 => Dn.nx (σ.set i (some x)) H1
  refine e_then ha wok_S ok w fun Γ1 x v H01 H1 w1 ok1 g1 l1 r1 => ?_
  exact w1 _ H01 H1 (set_ok i ok ok1 l1 r1) (Ex.refl _)
def sRet (s : Ga → Res (Ga × R)) : Ga → Res (Ga × Fl) := fun Γ => (s Γ).bind fun p => .ok (p.1, .rt p.2)
theorem js_ret {se : Ga → Res (Ga × R)} (he : JE X E e se) : JS X E (.Return (some e) pos) (sRet se) := by
  obtain ⟨t, p, ha⟩ := he.ex
  refine ⟨_, ps_ret p, fun B σ Γ H0 H Dn ok w => ?_⟩
  show t σ H Dn.rt
  refine e_then ha wok_S ok w fun Γ1 x v H01 H1 w1 ok1 g1 l1 r1 => ?_
  refine w1 σ H01 H1 ok1 (Ex.refl _) v ?_
  cases r1 with
  | d r => exact .d r
  | f n n0 e r => exact .f (RV.he ok n) n0 e r
theorem js_retN : JS X E (.Return none pos) (fun Γ => .ok (Γ, .rt (.d .none))) := ⟨_, ps_retN, fun B σ Γ H0 H Dn ok w => w σ H0 H ok (Ex.refl _) .non (.d .non)⟩
/-- return x: a list of the def's own goes out as a new one -/
def sRetN (i : Nat) : Ga → Res (Ga × Fl) := fun Γ => match Γ[i]? with
  | some (.d x) => .ok (Γ, .rt (.d x))
  | some (.own false xs) => .ok (Γ.set i .un, .rt (.f xs))
  | _ => .stuck
theorem EnvOk.drop {K : PySem.W.Frag} {σ : L2.St} {Γ : Ga} {H0 H : Hp} (ok : EnvOk K B σ Γ H0 H) (i : Nat) : EnvOk K B σ (Γ.set i .un) H0 H where
  sub := ok.sub
  len := by simp [ok.len]
  dat := fun j y h => by
    rcases set_back h with ⟨e, e2, hi⟩ | ⟨e, h⟩
    · cases e2
    · exact ok.dat j y h
  scr := fun j y h => by
    rcases set_back h with ⟨e, e2, hi⟩ | ⟨e, h⟩
    · cases e2
    · exact ok.scr j y h
  own := fun j b xs h => by
    rcases set_back h with ⟨e, e2, hi⟩ | ⟨e, h⟩
    · cases e2
    · exact ok.own j b xs h
  apart := fun j k b c xs ys a hjk h1 h2 => by
    rcases set_back h1 with ⟨e, e2, hi⟩ | ⟨e, h1⟩
    · cases e2
    · rcases set_back h2 with ⟨e', e2, hi⟩ | ⟨e', h2⟩
      · cases e2
      · exact ok.apart j k b c xs ys a hjk h1 h2
  grow := ok.grow
theorem js_retName {i : Nat} (h : PE X e (tVar i)) : JS X E (.Return (some e) pos) (sRetN i) := by
  refine ⟨_, ps_ret h, fun B σ Γ H0 H Dn ok w => ?_⟩
  show ∃ v, σ[i]? = some (some v) ∧ Dn.rt v H
  unfold sRetN at w
  split at w
  · rename_i x hx
    obtain ⟨v, e1, r⟩ := ok.dat i x hx
    exact ⟨v, e1, w σ H0 H ok (Ex.refl _) v (.d r)⟩
  · rename_i xs hx
    obtain ⟨a, vs, q1, q2, q3, q4, q5, q6⟩ := ok.own i _ _ hx
    exact ⟨.ref a, q1, w σ H0 H (ok.drop i) (Ex.refl _) _ (.f (q6 rfl) q2 q3 q4)⟩
  · exact w.elim
def sDrop (s : Ga → Res (Ga × R)) : Ga → Res (Ga × Fl) := fun Γ => (s Γ).bind fun p => .ok (p.1, .nx)
theorem js_expr {se : Ga → Res (Ga × R)} (he : JE X E e se) (hs : swapsWith e none pos.line X.env = pure false := by rfl) : JS X E (.Expr e pos) (sDrop se) := by
  obtain ⟨t, p, ha⟩ := he.ex
  refine ⟨_, ps_expr p hs, fun B σ Γ H0 H Dn ok w => ?_⟩
  show t σ H fun _ H1 => Dn.nx σ H1
  exact e_then ha wok_S ok w fun Γ1 x v H01 H1 w1 ok1 g1 l1 r1 => w1 σ H01 H1 ok1 (Ex.refl _)
theorem js_doc {x j} : JS X E (.Expr (.Constant (.str x) j pos) pos') sSkip := ⟨_, ps_doc, fun B σ Γ H0 H Dn ok w => w σ H0 H ok (Ex.refl _)⟩

/-! ### targets -/
def gN (i : Nat) : D → Ga → Option Ga := fun x Γ => some (Γ.set i (.d x))
theorem jg_name {i : Nat} {x : Str} (hN : X.N.Nodup) (hi : X.N[i]? = some x) (hx : Loc X.env.scope x) (hf : X.fn x = true ∨ X.env.scope.names.lookup x = some .local := by first | exact .inl rfl | exact .inr rfl | assumption) : JG X (.Name x pos) (gN i) :=
  ⟨_, pg_name hN hi hx hf, fun B σ Γ H0 H v x Γ' Q ok r e k => by cases e; exact k _ (ok.setD i r)⟩
def gNil' : List D → Ga → Option Ga := fun xs Γ => match xs with | [] => some Γ | _ => none
def gCons' (g : D → Ga → Option Ga) (h : List D → Ga → Option Ga) : List D → Ga → Option Ga := fun xs Γ => match xs with | x :: r => (g x Γ).bind (h r) | [] => none
theorem jgs_nil : JGs X [] gNil' := ⟨_, pgs_nil, fun B σ Γ H0 H v x Γ' Q ok r e k => by
  cases r with
  | nil => cases e; exact ⟨rfl, k σ ok⟩
  | cons _ _ => cases e⟩
theorem jgs_cons {es : List Expr} {g : D → Ga → Option Ga} {h : List D → Ga → Option Ga} (h1 : JG X e g) (h2 : JGs X es h) (hs : (assignEach (e :: es) X.env).map (·.2) = assign e X.env :: (assignEach es X.env).map (·.2) := by rfl) : JGs X (e :: es) (gCons' g h) := by
  obtain ⟨t, p, ha⟩ := h1.ex
  obtain ⟨t', p', hb⟩ := h2.ex
  refine ⟨_, pgs_cons p p' hs, fun B σ Γ H0 H v x Γ' Q ok r e k => ?_⟩
  cases r with
  | nil => cases e
  | cons r1 r2 =>
    rename_i v1 vs x1 xs
    have e : (g x1 Γ).bind (h xs) = some Γ' := e
    cases hg : g x1 Γ with
    | none => rw [hg] at e; cases e
    | some Γ1 =>
      rw [hg] at e
      exact ⟨v1, vs, rfl, ha B σ Γ H0 H v1 x1 Γ1 _ ok r1 hg fun σ1 ok1 => hb B σ1 Γ1 H0 H vs xs Γ' Q ok1 r2 e k⟩
def gTup' (h : List D → Ga → Option Ga) (n : Nat) : D → Ga → Option Ga := fun x Γ => match x with | .tuple xs => if xs.length = n then h xs Γ else none | _ => none
theorem jg_tup {es : List Expr} {k n : Nat} {h : List D → Ga → Option Ga} (hc : X.calm = true) (hh : JGs X es h) (hn : (assignEach es X.env).length = n := by rfl) (hst : (assignEach es X.env).findIdx? (·.1) = none := by rfl) : JG X (.Tuple es k pos) (gTup' h n) := by
  obtain ⟨t, p, ha⟩ := hh.ex
  refine ⟨_, pg_tup hc p hn hst, fun B σ Γ H0 H v x Γ' Q ok r e k => ?_⟩
  unfold gTup' at e
  split at e
  · split at e
    · rename_i xs hl
      cases r with
      | tup h1 h2 => exact ⟨_, _, rfl, ex_t ok.sub h1, by rw [h2.len]; exact hl, ha B σ Γ H0 H _ xs Γ' Q ok h2 e k⟩
    · cases e
  · cases e
/-- target = e -/
def sAsg (g : D → Ga → Option Ga) (s : Ga → Res (Ga × D)) : Ga → Res (Ga × Fl) := fun Γ => (s Γ).bind fun p => match g p.2 p.1 with | some Γ' => .ok (Γ', .nx) | none => .stuck
theorem js_asg {g : D → Ga → Option Ga} {se : Ga → Res (Ga × D)} (he : JD X E e se) (hg : JG X tg g) (hs : swapsWithSole [tg] e pos.line X.env = pure false := by rfl) (hw : swappedStores [tg] e X.env = pure none := by rfl)
    (h1 : (assignEach [tg] X.env).map (·.2) = [assign tg X.env] := by rfl) : JS X E (.Assign [tg] e pos) (sAsg g se) := by
  obtain ⟨t, p, ha⟩ := he.ex
  obtain ⟨t', p', hb⟩ := hg.ex
  refine ⟨_, ps_asg p p' hs hw h1, fun B σ Γ H0 H Dn ok w => ?_⟩
  show t σ H fun x H1 => t' x σ H1 Dn.nx
  refine d_then ha wok_S ok w fun Γ1 x v H01 H1 w1 ok1 g1 l1 r1 => ?_
  cases hg : g x Γ1 with
  | none => simp only [hg] at w1; exact w1.elim
  | some Γ2 =>
    simp only [hg] at w1
    exact hb B σ Γ1 H01 H1 v x Γ2 _ ok1 r1 hg fun σ2 ok2 => w1 σ2 H01 H1 ok2 (Ex.refl _)
end
end Mi
namespace Mi
open PySem L2 Evl

/-! ### what is walked -/
/-- the walk J yields the data xs, one by one, while H0 stands -/
structure ItOk (K : PySem.W.Frag) (J : It) (xs : List D) (H0 : Hp) : Prop where
  stop : ∀ (i : Nat) H0i Hi, Ex H0 H0i → Ex H0i Hi → xs.length ≤ i → J.stop i Hi
  go : ∀ (i : Nat) H0i Hi, Ex H0 H0i → Ex H0i Hi → i < xs.length → J.go i Hi
  yld : ∀ (i : Nat) x H0i Hi v H', Ex H0 H0i → Ex H0i Hi → xs[i]? = some x → J.yld i Hi v H' → ∃ H0', Grow (fun _ => False) H0i Hi H0' H' ∧ Ex H0' H' ∧ Rp K H0' v x
structure JI (X : Cx) (E : XK) (tg iter : Expr) (s : Ga → Res (Ga × List D)) : Prop where
  ex : ∃ wi, PI X tg iter wi ∧ ∀ B σ Γ H0 H R, EnvOk X.K B σ Γ H0 H → (match s Γ with
    | .ok (Γ', xs) => ∀ J H0' H', EnvOk X.K B σ Γ' H0' H' → Grow (OwnOf σ Γ) H0 H H0' H' → Less Γ Γ' → ItOk X.K J xs H0' → R J H'
    | .exc c x => XW X B E c x
    | .stuck => False) → wi σ H R
section
variable {X : Cx} {E : XK} {e a b tg iter elt : Expr} {pos : Pos} {K : PySem.W.Frag}
theorem itok_list {p : Addr} {vs : List V} {xs : List D} {H0 : Hp} (h : H0 p = some (.lst vs)) (r : RpAll K H0 vs xs) : ItOk K (Itl K p) xs H0 where
  stop := fun i H0i Hi e1 e2 hi => ⟨vs, SqL.of (e2 _ _ (e1 _ _ h)), by rw [r.len]; exact hi⟩
  go := fun i H0i Hi e1 e2 hi => ⟨vs, vs[i]'(by rw [r.len]; exact hi), SqL.of (e2 _ _ (e1 _ _ h)), List.getElem?_eq_getElem _⟩
  yld := fun i x H0i Hi v H' e1 e2 hx y => by
    obtain ⟨rfl, hv⟩ := y
    have e := hv vs (SqL.of (e2 _ _ (e1 _ _ h)))
    obtain ⟨w, e', r'⟩ := r.get hx
    rw [e] at e'; cases e'
    exact ⟨H0i, Grow.refl _ _ _, e2, r'.m e1⟩
theorem itok_tup {p : Addr} {vs : List V} {xs : List D} {H0 : Hp} (h : SqT K H0 p vs) (r : RpAll K H0 vs xs) : ItOk K (Itt K p) xs H0 where
  stop := fun i H0i Hi e1 e2 hi => ⟨vs, ex_t e2 (ex_t e1 h), by rw [r.len]; exact hi⟩
  go := fun i H0i Hi e1 e2 hi => ⟨vs, vs[i]'(by rw [r.len]; exact hi), ex_t e2 (ex_t e1 h), List.getElem?_eq_getElem _⟩
  yld := fun i x H0i Hi v H' e1 e2 hx y => by
    obtain ⟨rfl, hv⟩ := y
    have e := hv vs (ex_t e2 (ex_t e1 h))
    obtain ⟨w, e', r'⟩ := r.get hx
    rw [e] at e'; cases e'
    exact ⟨H0i, Grow.refl _ _ _, e2, r'.m e1⟩
def rangeD (lo : Int) (n : Nat) : List D := (List.range n).map fun (i : Nat) => .int (lo + i)
theorem itok_rng {lo : Int} {n : Nat} {H0 : Hp} : ItOk K (Itr lo n) (rangeD lo n) H0 where
  stop := fun i H0i Hi e1 e2 hi => by simp only [rangeD, List.length_map, List.length_range] at hi; exact hi
  go := fun i H0i Hi e1 e2 hi => by simp only [rangeD, List.length_map, List.length_range] at hi; exact hi
  yld := fun i x H0i Hi v H' e1 e2 hx y => by
    obtain ⟨rfl, rfl⟩ := y
    have : x = .int (lo + i) := by
      unfold rangeD at hx
      rw [List.getElem?_map] at hx
      cases q : (List.range n)[i]? with
      | none => rw [q] at hx; cases hx
      | some j =>
        rw [q] at hx
        have := List.getElem?_range (n := n) (i := i) (by
          have := (List.getElem?_eq_some_iff.mp q).1; simpa using this)
        rw [q] at this; cases this; cases hx; rfl
    subst this
    exact ⟨H0i, Grow.refl _ _ _, e2, .int _⟩
def pairUp (xs ys : List D) : List D := (xs.zip ys).map fun p => .tuple [p.1, p.2]
def numb : Int → List D → List D
  | _, [] => []
  | i, x :: r => .tuple [.int i, x] :: numb (i + 1) r
theorem numb_len : ∀ (xs : List D) (i : Int), (numb i xs).length = xs.length
  | [], _ => rfl
  | _ :: r, i => by simp [numb, numb_len r]
theorem numb_get : ∀ (xs : List D) (i : Int) (j : Nat), (numb i xs)[j]? = (xs[j]?).map fun x => .tuple [.int (i + j), x]
  | [], _, _ => by simp [numb]
  | x :: r, i, 0 => by simp [numb]
  | x :: r, i, j + 1 => by
    simp only [numb, List.getElem?_cons_succ, numb_get r]
    congr 1; funext y; congr 3; omega
theorem new_tup {H0i Hi : Hp} {T : Addr} {vs : List V} {xs : List D} (hT : Hi T = none) (e2 : Ex H0i Hi) (r : RpAll K H0i vs xs) : ∃ H0', Grow (fun _ => False) H0i Hi H0' (upd Hi T (.tup vs)) ∧ Ex H0' (upd Hi T (.tup vs)) ∧ Rp K H0' (.ref T) (.tuple xs) :=
  ⟨upd H0i T (.tup vs), Grow.data hT e2, Ex.upd2 e2, .tup (SqT.of upd_same) (r.m (Ex.new (fresh_back e2 hT)))⟩
theorem itok_enum {p : Addr} {vs : List V} {xs : List D} {H0 : Hp} (h : H0 p = some (.lst vs)) (r : RpAll K H0 vs xs) : ItOk K (Ite K p) (numb 0 xs) H0 where
  stop := fun i H0i Hi e1 e2 hi => ⟨vs, SqL.of (e2 _ _ (e1 _ _ h)), by rw [r.len, ← numb_len xs 0]; exact hi⟩
  go := fun i H0i Hi e1 e2 hi => ⟨vs, vs[i]'(by rw [r.len, ← numb_len xs 0]; exact hi), SqL.of (e2 _ _ (e1 _ _ h)), List.getElem?_eq_getElem _⟩
  yld := fun i x H0i Hi v H' e1 e2 hx y => by
    obtain ⟨T, w, rfl, hT, rfl, hv⟩ := y
    have e := hv vs (SqL.of (e2 _ _ (e1 _ _ h)))
    rw [numb_get] at hx
    obtain ⟨z, hz, rfl⟩ := Option.map_eq_some_iff.mp hx
    obtain ⟨w', e', r'⟩ := r.get hz
    rw [e] at e'; cases e'
    refine new_tup hT e2 (.cons ?_ (.one (r'.m e1)))
    rw [Int.zero_add]; exact .int _
theorem pair_get {xs ys : List D} {i : Nat} {z : D} (h : (pairUp xs ys)[i]? = some z) : ∃ x y, xs[i]? = some x ∧ ys[i]? = some y ∧ z = .tuple [x, y] := by
  unfold pairUp at h
  rw [List.getElem?_map] at h
  obtain ⟨p, hp, rfl⟩ := Option.map_eq_some_iff.mp h
  obtain ⟨h1, h2⟩ := List.getElem?_zip_eq_some.mp hp
  exact ⟨p.1, p.2, h1, h2, rfl⟩
theorem pair_len (xs ys : List D) : (pairUp xs ys).length = min xs.length ys.length := by simp [pairUp]
theorem itok_zip {p q : Addr} {vs us : List V} {xs ys : List D} {H0 : Hp} (h : H0 p = some (.lst vs)) (r : RpAll K H0 vs xs) (h' : H0 q = some (.lst us)) (r' : RpAll K H0 us ys) : ItOk K (Itz K p q) (pairUp xs ys) H0 where
  stop := fun i H0i Hi e1 e2 hi => ⟨vs, us, SqL.of (e2 _ _ (e1 _ _ h)), SqL.of (e2 _ _ (e1 _ _ h')), by rw [r.len, r'.len]; rw [pair_len] at hi; omega⟩
  go := fun i H0i Hi e1 e2 hi => by
    rw [pair_len] at hi
    exact ⟨vs, us, vs[i]'(by rw [r.len]; omega), us[i]'(by rw [r'.len]; omega), SqL.of (e2 _ _ (e1 _ _ h)), SqL.of (e2 _ _ (e1 _ _ h')), List.getElem?_eq_getElem _, List.getElem?_eq_getElem _⟩
  yld := fun i x H0i Hi v H' e1 e2 hx y => by
    obtain ⟨T, w, w', rfl, hT, rfl, hv, hv'⟩ := y
    have e := hv vs (SqL.of (e2 _ _ (e1 _ _ h)))
    have e' := hv' us (SqL.of (e2 _ _ (e1 _ _ h')))
    obtain ⟨z, z', hz, hz', rfl⟩ := pair_get hx
    obtain ⟨_, q1, r1⟩ := r.get hz
    obtain ⟨_, q2, r2⟩ := r'.get hz'
    rw [e] at q1; cases q1
    rw [e'] at q2; cases q2
    exact new_tup hT e2 (.cons (r1.m e1) (.one (r2.m e1)))
theorem itok_zipT {p q : Addr} {vs us : List V} {xs ys : List D} {H0 : Hp} (h : SqT K H0 p vs) (r : RpAll K H0 vs xs) (h' : SqT K H0 q us) (r' : RpAll K H0 us ys) : ItOk K (RZ.ItzT K p q) (pairUp xs ys) H0 where
  stop := fun i H0i Hi e1 e2 hi => ⟨vs, us, ex_t e2 (ex_t e1 h), ex_t e2 (ex_t e1 h'), by rw [r.len, r'.len]; rw [pair_len] at hi; omega⟩
  go := fun i H0i Hi e1 e2 hi => by
    rw [pair_len] at hi
    exact ⟨vs, us, vs[i]'(by rw [r.len]; omega), us[i]'(by rw [r'.len]; omega), ex_t e2 (ex_t e1 h), ex_t e2 (ex_t e1 h'), List.getElem?_eq_getElem _, List.getElem?_eq_getElem _⟩
  yld := fun i x H0i Hi v H' e1 e2 hx y => by
    obtain ⟨T, w, w', rfl, hT, rfl, hv, hv'⟩ := y
    have e := hv vs (ex_t e2 (ex_t e1 h))
    have e' := hv' us (ex_t e2 (ex_t e1 h'))
    obtain ⟨z, z', hz, hz', rfl⟩ := pair_get hx
    obtain ⟨_, q1, r1⟩ := r.get hz
    obtain ⟨_, q2, r2⟩ := r'.get hz'
    rw [e] at q1; cases q1
    rw [e'] at q2; cases q2
    exact new_tup hT e2 (.cons (r1.m e1) (.one (r2.m e1)))
def IW (X : Cx) (B : Bg) (E : XK) (σ : L2.St) (Γ : Ga) (H0 H : Hp) (r : Res (Ga × List D)) (R : It → Hp → Prop) : Prop := match r with
    | .ok (Γ', xs) => ∀ J H0' H', EnvOk X.K B σ Γ' H0' H' → Grow (OwnOf σ Γ) H0 H H0' H' → Less Γ Γ' → ItOk X.K J xs H0' → R J H'
    | .exc c x => XW X B E c x
    | .stuck => False
theorem wok_I {B : Bg} {σ : L2.St} {R : It → Hp → Prop} : WOk X B E σ fun Γ H0 H r => IW X B E σ Γ H0 H r R where
  exc := fun _ _ _ _ _ h => h
  stuck := fun _ _ _ h => h
  shift := fun Γ H0 H Γ1 H01 H1 r ok g l w => by
    cases r with
    | stuck => exact w
    | exc c x => exact w
    | ok p => exact fun J H0' H' o' g' l' r' => w J H0' H' o' (shift_g g l g') (l.trans l') r'
def iterL (x : D) : Res (List D) := match x with | .list xs => .ok xs | _ => .stuck
def iterT (x : D) : Res (List D) := match x with | .tuple xs => .ok xs | _ => .stuck
def sIt (f : D → Res (List D)) (s : Ga → Res (Ga × D)) : Ga → Res (Ga × List D) := fun Γ => (s Γ).bind fun p => (f p.2).bind fun xs => .ok (p.1, xs)
theorem ji_list {s : Ga → Res (Ga × D)} (h : JD X E e s) : JI X E tg e (sIt iterL s) := by
  obtain ⟨t, p, ha⟩ := h.ex
  refine ⟨_, pi_list p, fun B σ Γ H0 H R ok w => ?_⟩
  have w : IW X B E σ Γ H0 H (sIt iterL s Γ) R := w
  show t σ H fun x H1 => ∃ a, x = .ref a ∧ (∃ xs, SqL X.K H1 a xs) ∧ R (Itl X.K a) H1
  refine d_then ha wok_I ok w fun Γ1 x v H01 H1 w1 ok1 g1 l1 r1 => ?_
  unfold iterL at w1
  split at w1
  · rename_i xs hx
    have hx : x = .list xs := hx
    subst hx
    cases r1 with
    | lst h1 h2 => exact ⟨_, rfl, ⟨_, SqL.of (ok1.sub _ _ h1)⟩, w1 _ H01 H1 ok1 (Grow.refl _ _ _) (Less.refl _) (itok_list h1 h2)⟩
  · exact w1.elim
theorem ji_tup {s : Ga → Res (Ga × D)} (h : JD X E e s) : JI X E tg e (sIt iterT s) := by
  obtain ⟨t, p, ha⟩ := h.ex
  refine ⟨_, pi_tup p, fun B σ Γ H0 H R ok w => ?_⟩
  have w : IW X B E σ Γ H0 H (sIt iterT s Γ) R := w
  show t σ H fun x H1 => ∃ a, x = .ref a ∧ (∃ xs, SqT X.K H1 a xs) ∧ R (Itt X.K a) H1
  refine d_then ha wok_I ok w fun Γ1 x v H01 H1 w1 ok1 g1 l1 r1 => ?_
  unfold iterT at w1
  split at w1
  · rename_i xs hx
    have hx : x = .tuple xs := hx
    subst hx
    cases r1 with
    | tup h1 h2 => exact ⟨_, rfl, ⟨_, ex_t ok1.sub h1⟩, w1 _ H01 H1 ok1 (Grow.refl _ _ _) (Less.refl _) (itok_tup h1 h2)⟩
  · exact w1.elim
/-- a list or a tuple -/
def iterA (x : D) : Res (List D) := match x with | .list xs => .ok xs | .tuple xs => .ok xs | _ => .stuck
theorem ji_any {s : Ga → Res (Ga × D)} (h : JD X E e s) : JI X E tg e (sIt iterA s) := by
  obtain ⟨t, p, ha⟩ := h.ex
  refine ⟨fun σ H R => t σ H fun x H1 => (∃ a, x = .ref a ∧ (∃ xs, SqL X.K H1 a xs) ∧ R (Itl X.K a) H1) ∨ (∃ a, x = .ref a ∧ (∃ xs, SqT X.K H1 a xs) ∧ R (Itt X.K a) H1), ⟨fun pins s1 σ H R I hw => ?_⟩, fun B σ Γ H0 H R ok w => ?_⟩
  · refine thn (p.run pins s1 σ H _ I hw) fun v s2 ⟨x, H1, I1, r1, q1⟩ => ?_
    rcases q1 with ⟨a, ea, ⟨xs, hq⟩, q⟩ | ⟨a, ea, ⟨xs, hq⟩, q⟩
    · subst ea
      cases r1
      obtain ⟨its, rv, p, hz⟩ := I1.list hq
      refine wpAny_pyIter_list p.isList ?_
      refine ⟨s2.heap.objs.size, [s2.heap.objs.size], _, _, H1, rfl, I1.kept (t' := s2.toks) fun b o e => Heap.get?_push_of_some _ e, turn_list a _, ⟨_, Heap.get?_push_size _ rfl, rfl, rfl⟩, fun b hb => ?_, q⟩
      have e : b = s2.heap.objs.size := by simpa using hb
      subst e
      exact I1.fpOk (Nat.le_refl _) (I1.hok.fresh (Nat.le_refl _))
    · subst ea
      cases r1
      obtain ⟨its, rv, p, hz⟩ := I1.tuple hq
      refine wpAny_pyIter_tuple (show s2.heap.IsTuple a its.toArray from p) ?_
      refine ⟨s2.heap.objs.size, [s2.heap.objs.size], _, _, H1, rfl, I1.kept (t' := s2.toks) fun b o e => Heap.get?_push_of_some _ e, turn_tuple a _, ⟨_, Heap.get?_push_size _ rfl, rfl, rfl⟩, fun b hb => ?_, q⟩
      have e : b = s2.heap.objs.size := by simpa using hb
      subst e
      exact I1.fpOk (Nat.le_refl _) (I1.hok.fresh (Nat.le_refl _))
  · have w : IW X B E σ Γ H0 H (sIt iterA s Γ) R := w
    refine d_then ha wok_I ok w fun Γ1 x v H01 H1 w1 ok1 g1 l1 r1 => ?_
    unfold iterA at w1
    split at w1
    · rename_i xs hx
      have hx : x = .list xs := hx
      subst hx
      cases r1 with
      | lst h1 h2 => exact .inl ⟨_, rfl, ⟨_, SqL.of (ok1.sub _ _ h1)⟩, w1 _ H01 H1 ok1 (Grow.refl _ _ _) (Less.refl _) (itok_list h1 h2)⟩
    · rename_i xs hx
      have hx : x = .tuple xs := hx
      subst hx
      cases r1 with
      | tup h1 h2 => exact .inr ⟨_, rfl, ⟨_, ex_t ok1.sub h1⟩, w1 _ H01 H1 ok1 (Grow.refl _ _ _) (Less.refl _) (itok_tup h1 h2)⟩
    · exact w1.elim
noncomputable def fits62 (i : Int) : Bool := okB (-(2 ^ 62) ≤ i ∧ i < 2 ^ 62)
noncomputable def rng1 : List D → Res (List D)
  | [.int j] => if fits62 j = true then .ok (rangeD 0 j.toNat) else .stuck
  | _ => .stuck
noncomputable def rng2 : List D → Res (List D)
  | [.int i, .int j] => if fits62 i = true ∧ fits62 j = true then .ok (rangeD i (j - i).toNat) else .stuck
  | _ => .stuck
def sItA (f : List D → Res (List D)) (s : Ga → Res (Ga × List D)) : Ga → Res (Ga × List D) := fun Γ => (s Γ).bind fun p => (f p.2).bind fun xs => .ok (p.1, xs)
theorem fits62_iff {i : Int} (h : fits62 i = true) : -(2 ^ 62) ≤ i ∧ i < 2 ^ 62 := by
  unfold fits62 at h
  exact okB_iff.mp h
theorem rp1 {H : Hp} {vs : List V} {i : Int} (r : RpAll K H vs [.int i]) : vs = [.int i] := by
  cases r with
  | cons r1 r2 => cases r1; cases r2; rfl
theorem ji_range1 {p : Pos} {s : Ga → Res (Ga × List D)} (hg : Gl X "range") (hm : X.mg "range" = none) (h : JA X E [a] s) (hs : starEach [a] X.env = [(false, eval a X.env)] := by rfl) : JI X E tg (.Call (.Name "range" p) [a] [] pos) (sItA rng1 s) := by
  obtain ⟨t, pp, ha⟩ := h.ex
  refine ⟨_, pi_range1 hg hm pp hs, fun B σ Γ H0 H R ok w => ?_⟩
  have w : IW X B E σ Γ H0 H (sItA rng1 s Γ) R := w
  show t σ H fun vs H1 => ∃ j : Int, vs = [.int j] ∧ -(2 ^ 62) ≤ j ∧ j < 2 ^ 62 ∧ R (Itr 0 j.toNat) H1
  refine a_then ha wok_I ok w fun Γ1 x v H01 H1 w1 ok1 g1 l1 r1 => ?_
  unfold rng1 at w1
  split at w1
  · rename_i j hx
    have hx : x = [.int j] := hx
    subst hx
    split at w1
    · rename_i hz
      exact ⟨j, rp1 r1, (fits62_iff hz).1, (fits62_iff hz).2, w1 _ H01 H1 ok1 (Grow.refl _ _ _) (Less.refl _) itok_rng⟩
    · exact w1.elim
  · exact w1.elim
theorem ji_range2 {p : Pos} {s : Ga → Res (Ga × List D)} (hg : Gl X "range") (hm : X.mg "range" = none) (h : JA X E [a, b] s) (hs : starEach [a, b] X.env = [(false, eval a X.env), (false, eval b X.env)] := by rfl) (hs2 : starEach [b] X.env = [(false, eval b X.env)] := by rfl) :
    JI X E tg (.Call (.Name "range" p) [a, b] [] pos) (sItA rng2 s) := by
  obtain ⟨t, pp, ha⟩ := h.ex
  refine ⟨_, pi_range2 hg hm pp hs hs2, fun B σ Γ H0 H R ok w => ?_⟩
  have w : IW X B E σ Γ H0 H (sItA rng2 s Γ) R := w
  show t σ H fun vs H1 => ∃ i j : Int, vs = [.int i, .int j] ∧ (-(2 ^ 62) ≤ i ∧ i < 2 ^ 62 ∧ -(2 ^ 62) ≤ j ∧ j < 2 ^ 62) ∧ R (Itr i (j - i).toNat) H1
  refine a_then ha wok_I ok w fun Γ1 x v H01 H1 w1 ok1 g1 l1 r1 => ?_
  unfold rng2 at w1
  split at w1
  · rename_i i j hx
    have hx : x = [.int i, .int j] := hx
    subst hx
    split at w1
    · rename_i hz
      obtain ⟨h1, h2⟩ := fits62_iff hz.1
      obtain ⟨h3, h4⟩ := fits62_iff hz.2
      exact ⟨i, j, rp2 r1, ⟨h1, h2, h3, h4⟩, w1 _ H01 H1 ok1 (Grow.refl _ _ _) (Less.refl _) itok_rng⟩
    · exact w1.elim
  · exact w1.elim
def enumL : List D → Res (List D)
  | [.list xs] => .ok (numb 0 xs)
  | _ => .stuck
theorem ji_enum {p tpos : Pos} {elts : List Expr} {kk : Nat} {s : Ga → Res (Ga × List D)} (hg : Gl X "enumerate") (hm : X.mg "enumerate" = none) (h : JA X E [e] s) (hs : starEach [e] X.env = [(false, eval e X.env)] := by rfl) :
    JI X E (.Tuple elts kk tpos) (.Call (.Name "enumerate" p) [e] [] pos) (sItA enumL s) := by
  obtain ⟨t, pp, ha⟩ := h.ex
  refine ⟨_, pi_enum hg hm pp hs, fun B σ Γ H0 H R ok w => ?_⟩
  have w : IW X B E σ Γ H0 H (sItA enumL s Γ) R := w
  show t σ H fun vs H1 => ∃ a xs, vs = [.ref a] ∧ SqL X.K H1 a xs ∧ R (Ite X.K a) H1
  refine a_then ha wok_I ok w fun Γ1 x v H01 H1 w1 ok1 g1 l1 r1 => ?_
  unfold enumL at w1
  split at w1
  · rename_i xs hx
    have hx : x = [.list xs] := hx
    subst hx
    cases r1 with
    | cons r1 r2 =>
      cases r2
      cases r1 with
      | lst h1 h2 => exact ⟨_, _, rfl, SqL.of (ok1.sub _ _ h1), w1 _ H01 H1 ok1 (Grow.refl _ _ _) (Less.refl _) (itok_enum h1 h2)⟩
  · exact w1.elim
def zipLT : List D → Res (List D)
  | [.list xs, .list ys] => .ok (pairUp xs ys)
  | [.tuple xs, .tuple ys] => .ok (pairUp xs ys)
  | _ => .stuck
theorem zip_end {B : Bg} {σ : L2.St} {Γ1 : Ga} {H01 H1 : Hp} {R : It → Hp → Prop} {x : List D} {v : List V} (ok1 : EnvOk X.K B σ Γ1 H01 H1) (r1 : RpAll X.K H01 v x) (w1 : IW X B E σ Γ1 H01 H1 ((zipLT x).bind fun xs => .ok (Γ1, xs)) R) :
    ∃ a b xs ys, v = [.ref a, .ref b] ∧ ((SqL X.K H1 a xs ∧ SqL X.K H1 b ys ∧ R (Itz X.K a b) H1) ∨ (SqT X.K H1 a xs ∧ SqT X.K H1 b ys ∧ R (RZ.ItzT X.K a b) H1)) := by
  unfold zipLT at w1
  split at w1
  · cases r1 with
    | cons r1 r2 =>
      cases r2 with
      | cons r2 r3 =>
        cases r3
        cases r1 with
        | lst h1 h2 =>
          cases r2 with
          | lst h3 h4 => exact ⟨_, _, _, _, rfl, .inl ⟨SqL.of (ok1.sub _ _ h1), SqL.of (ok1.sub _ _ h3), w1 _ H01 H1 ok1 (Grow.refl _ _ _) (Less.refl _) (itok_zip h1 h2 h3 h4)⟩⟩
  · cases r1 with
    | cons r1 r2 =>
      cases r2 with
      | cons r2 r3 =>
        cases r3
        cases r1 with
        | tup h1 h2 =>
          cases r2 with
          | tup h3 h4 => exact ⟨_, _, _, _, rfl, .inr ⟨ex_t ok1.sub h1, ex_t ok1.sub h3, w1 _ H01 H1 ok1 (Grow.refl _ _ _) (Less.refl _) (itok_zipT h1 h2 h3 h4)⟩⟩
  · exact w1.elim
theorem ji_zip {p tpos : Pos} {elts : List Expr} {kk : Nat} {s : Ga → Res (Ga × List D)} (hg : Gl X "zip") (hm : X.mg "zip" = none) (h : JA X E [a, b] s)
    (hs : starEach [a, b] X.env = (false, eval a X.env) :: starEach [b] X.env := by rfl) (hpl : (backTo pos (starEach [b] X.env)).any (·.1) = false := by rfl) :
    JI X E (.Tuple elts kk tpos) (.Call (.Name "zip" p) [a, b] [] pos) (sItA zipLT s) := by
  obtain ⟨t, pp, ha⟩ := h.ex
  refine ⟨_, RZ.pi_zipA hg hm pp hs hpl, fun B σ Γ H0 H R ok w => ?_⟩
  have w : IW X B E σ Γ H0 H (sItA zipLT s Γ) R := w
  show t σ H fun vs H1 => ∃ a b xs ys, vs = [.ref a, .ref b] ∧ ((SqL X.K H1 a xs ∧ SqL X.K H1 b ys ∧ R (Itz X.K a b) H1) ∨ (SqT X.K H1 a xs ∧ SqT X.K H1 b ys ∧ R (RZ.ItzT X.K a b) H1))
  exact a_then ha wok_I ok w fun Γ1 x v H01 H1 w1 ok1 g1 l1 r1 => zip_end ok1 r1 w1

/-! ### for -/
def forL (g : D → Ga → Option Ga) (b : Ga → Res (Ga × Fl)) : List D → Ga → Res (Ga × Fl)
  | [], Γ => .ok (Γ, .nx)
  | x :: xs, Γ => match g x Γ with
    | some Γ1 => (b Γ1).bind fun q => match q.2 with
      | .nx => forL g b xs q.1
      | .ct => forL g b xs q.1
      | .bk => .ok (q.1, .nx)
      | .rt r => .ok (q.1, .rt r)
    | none => .stuck
def sFor (s : Ga → Res (Ga × List D)) (g : D → Ga → Option Ga) (b : Ga → Res (Ga × Fl)) : Ga → Res (Ga × Fl) := fun Γ => (s Γ).bind fun p => forL g b p.2 p.1
theorem i_then {β : Type} {W : Ga → Hp → Hp → Res β → Prop} {B : Bg} {σ : L2.St} {Γ : Ga} {H0 H : Hp} {t : TI} {s : Ga → Res (Ga × List D)} {f : Ga × List D → Res β} {R : It → Hp → Prop}
    (ha : ∀ B σ Γ H0 H R, EnvOk X.K B σ Γ H0 H → IW X B E σ Γ H0 H (s Γ) R → t σ H R) (wo : WOk X B E σ W) (ok : EnvOk X.K B σ Γ H0 H) (w : W Γ H0 H ((s Γ).bind f))
    (k : ∀ Γ1 xs J H01 H1, W Γ1 H01 H1 (f (Γ1, xs)) → EnvOk X.K B σ Γ1 H01 H1 → Grow (OwnOf σ Γ) H0 H H01 H1 → Less Γ Γ1 → ItOk X.K J xs H01 → R J H1) : t σ H R := by
  refine ha B σ Γ H0 H R ok ?_
  cases hs : s Γ with
  | stuck => rw [hs] at w; exact (wo.stuck _ _ _ w).elim
  | exc c x => rw [hs] at w; exact wo.exc _ _ _ _ _ w
  | ok p =>
    rw [hs] at w
    exact fun J H01 H1 ok1 g l r => k _ _ J H01 H1 (wo.shift _ _ _ _ _ _ _ ok g l w) ok1 g l r
theorem SW.later {B : Bg} {H0 H01 : Hp} {r : Res (Ga × Fl)} {Dn : Ends} (w : SW X B E H0 r Dn) (e : Ex H0 H01) : SW X B E H01 r Dn := by
  cases r with
  | stuck => exact w
  | exc c x => exact w
  | ok p => exact fun σ' H0' H' o' e' => w σ' H0' H' o' (e.trans e')
theorem js_for {s : Ga → Res (Ga × List D)} {g : D → Ga → Option Ga} {ss : List Stmt} {b : Ga → Res (Ga × Fl)} (hp : PassesOwn (model X.prog X.w) X.A X.env X.xe) (hc : X.calm = true) (hi : JI X E tg iter s) (hg : JG X tg g) (hb : JSs X E ss b)
    (hs : ∀ x, foldedSetIterable iter X.env x = pure x := by intro _; rfl) : JS X E (.For tg iter ss [] pos) (sFor s g b) := by
  obtain ⟨wi, pi, hi⟩ := hi.ex
  obtain ⟨tg', pg, hg⟩ := hg.ex
  obtain ⟨tb, pb, hb⟩ := hb.ex
  refine ⟨_, ps_for hp hc pi pg pb hs, fun B σ Γ H0 H Dn ok w => ?_⟩
  refine i_then (R := fun J H1 => ∃ W : Nat → Nat → L2.St → Hp → Prop, (∃ m, W 0 m σ H1) ∧ ∀ i m σ H, W i m σ H → (J.stop i H ∧ Dn.nx σ H) ∨ (J.go i H ∧ ∃ N : L2.St → Hp → Prop, (∀ σ' H', N σ' H' → ∃ m', m' < m ∧ W (i + 1) m' σ' H') ∧ ∀ x H', J.yld i H x H' → tg' x σ H' fun σ2 H2 => tb { Dn with nx := N, ct := N, bk := Dn.nx } σ2 H2))
    hi wok_S ok w fun Γ1 xs J H01 H1 w1 ok1 g1 l1 it => ?_
  refine ⟨fun i m σi Hi => ∃ Γi H0i, EnvOk X.K B σi Γi H0i Hi ∧ Ex H01 H0i ∧ SW X B E H0i (forL g b (xs.drop i) Γi) Dn ∧ m = xs.length - i, ⟨xs.length, Γ1, H01, ok1, Ex.refl _, by simpa using w1, by simp⟩, ?_⟩
  rintro i m σi Hi ⟨Γi, H0i, oki, ei, wi, rfl⟩
  by_cases hlt : i < xs.length
  · refine .inr ⟨it.go i H0i Hi ei oki.sub hlt, fun σ' H' => ∃ Γ' H0', EnvOk X.K B σ' Γ' H0' H' ∧ Ex H01 H0' ∧ SW X B E H0' (forL g b (xs.drop (i + 1)) Γ') Dn, fun σ' H' ⟨Γ', H0', q1, q2, q3⟩ => ⟨xs.length - (i + 1), by omega, Γ', H0', q1, q2, q3, rfl⟩, fun v H' y => ?_⟩
    have hx : xs[i]? = some xs[i] := List.getElem?_eq_getElem hlt
    obtain ⟨H0y, gy, sy, ry⟩ := it.yld i xs[i] H0i Hi v H' ei oki.sub hx y
    have oky := oki.same gy sy
    have ey := ei.trans gy.ex0
    have hd : xs.drop i = xs[i] :: xs.drop (i + 1) := List.drop_eq_getElem_cons hlt
    rw [hd] at wi
    unfold forL at wi
    cases hgx : g xs[i] Γi with
    | none => rw [hgx] at wi; exact wi.elim
    | some Γg =>
      rw [hgx] at wi
      refine hg B σi Γi H0y H' v xs[i] Γg _ oky ry hgx fun σg okg => ?_
      refine hb B σg Γg H0y H' _ okg ?_
      have wi := SW.later wi gy.ex0
      cases hbb : b Γg with
      | stuck => simp only [hbb] at wi; exact wi
      | exc c x => simp only [hbb] at wi; exact wi
      | ok q =>
        obtain ⟨Γb, fl⟩ := q
        simp only [hbb] at wi
        intro σb H0b Hb okb eb
        cases fl with
        | nx => exact ⟨Γb, H0b, okb, ey.trans eb, SW.later wi eb⟩
        | ct => exact ⟨Γb, H0b, okb, ey.trans eb, SW.later wi eb⟩
        | bk => exact wi σb H0b Hb okb eb
        | rt r => exact wi σb H0b Hb okb eb
  · refine .inl ⟨it.stop i H0i Hi ei oki.sub (by omega), ?_⟩
    rw [List.drop_eq_nil_of_le (by omega)] at wi
    exact wi σi H0i Hi oki (Ex.refl _)

/-! ### while -/
def whileN (c : Ga → Res (Ga × Bool)) (b : Ga → Res (Ga × Fl)) : Nat → Ga → Option (Res (Ga × Fl))
  | 0, _ => none
  | n + 1, Γ => match c Γ with
    | .stuck => some .stuck
    | .exc k x => some (.exc k x)
    | .ok (Γ1, false) => some (.ok (Γ1, .nx))
    | .ok (Γ1, true) => match b Γ1 with
      | .stuck => some .stuck
      | .exc k x => some (.exc k x)
      | .ok (Γ2, .nx) => whileN c b n Γ2
      | .ok (Γ2, .ct) => whileN c b n Γ2
      | .ok (Γ2, .bk) => some (.ok (Γ2, .nx))
      | .ok (Γ2, .rt r) => some (.ok (Γ2, .rt r))
theorem whileN_more {c : Ga → Res (Ga × Bool)} {b : Ga → Res (Ga × Fl)} : ∀ {n : Nat} {Γ : Ga} {r : Res (Ga × Fl)} (k : Nat), whileN c b n Γ = some r → whileN c b (n + k) Γ = some r
  | 0, _, _, _, h => by cases h
  | n + 1, Γ, r, k, h => by
    rw [show n + 1 + k = (n + k) + 1 by omega]
    unfold whileN at h ⊢
    cases hc : c Γ with
    | stuck => rw [hc] at h; exact h
    | exc _ _ => rw [hc] at h; exact h
    | ok p =>
      obtain ⟨Γ1, t⟩ := p
      rw [hc] at h
      cases t with
      | false => exact h
      | true =>
        simp only at h ⊢
        cases hb : b Γ1 with
        | stuck => rw [hb] at h; exact h
        | exc _ _ => rw [hb] at h; exact h
        | ok q =>
          obtain ⟨Γ2, fl⟩ := q
          rw [hb] at h
          cases fl with
          | nx => exact whileN_more k h
          | ct => exact whileN_more k h
          | bk => exact h
          | rt _ => exact h
open Classical in
noncomputable def sWhile (c : Ga → Res (Ga × Bool)) (b : Ga → Res (Ga × Fl)) : Ga → Res (Ga × Fl) := fun Γ => if h : ∃ n r, whileN c b n Γ = some r then h.choose_spec.choose else .stuck
theorem sWhile_of {c : Ga → Res (Ga × Bool)} {b : Ga → Res (Ga × Fl)} {n : Nat} {Γ : Ga} {r : Res (Ga × Fl)} (h : whileN c b n Γ = some r) : sWhile c b Γ = r := by
  have hx : ∃ n r, whileN c b n Γ = some r := ⟨n, r, h⟩
  unfold sWhile
  rw [dif_pos hx]
  have h2 := hx.choose_spec.choose_spec
  have h3 := whileN_more n h2
  have h4 := whileN_more hx.choose h
  rw [Nat.add_comm, h4] at h3
  exact (Option.some.inj h3).symm
theorem sWhile_ex {c : Ga → Res (Ga × Bool)} {b : Ga → Res (Ga × Fl)} {Γ : Ga} (h : sWhile c b Γ ≠ .stuck) : ∃ n, whileN c b n Γ = some (sWhile c b Γ) := by
  by_cases hx : ∃ n r, whileN c b n Γ = some r
  · obtain ⟨n, r, e⟩ := hx
    exact ⟨n, by rw [sWhile_of e]; exact e⟩
  · unfold sWhile at h
    rw [dif_neg hx] at h
    exact absurd rfl h
theorem sWhile_end {c : Ga → Res (Ga × Bool)} {b : Ga → Res (Ga × Fl)} {Γ Γ1 : Ga} (h : c Γ = .ok (Γ1, false)) : sWhile c b Γ = .ok (Γ1, .nx) := sWhile_of (n := 1) (by unfold whileN; rw [h])
theorem sWhile_go {c : Ga → Res (Ga × Bool)} {b : Ga → Res (Ga × Fl)} {Γ Γ1 Γ2 : Ga} {r : Res (Ga × Fl)} {fl : Fl} (h : c Γ = .ok (Γ1, true)) (h2 : b Γ1 = .ok (Γ2, fl)) (hf : fl = .nx ∨ fl = .ct) (h3 : sWhile c b Γ2 = r) (hr : r ≠ .stuck) : sWhile c b Γ = r := by
  subst h3
  obtain ⟨n, e⟩ := sWhile_ex hr
  refine sWhile_of (n := n + 1) ?_
  unfold whileN
  rw [h]
  simp only
  rw [h2]
  rcases hf with rfl | rfl <;> exact e
theorem js_while {c : Expr} {ss : List Stmt} {sc : Ga → Res (Ga × Bool)} {b : Ga → Res (Ga × Fl)} (hp : PassesOwn (model X.prog X.w) X.A X.env X.xe) (hc : JT X E c sc) (hb : JSs X E ss b) : JS X E (.While c ss [] pos) (sWhile sc b) := by
  obtain ⟨tc, pc, hc⟩ := hc.ex
  obtain ⟨tb, pb, hb⟩ := hb.ex
  refine ⟨_, ps_while hp pc pb, fun B σ Γ H0 H Dn ok w => ?_⟩
  have hns : sWhile sc b Γ ≠ .stuck := fun z => by rw [z] at w; exact w
  obtain ⟨n0, e0⟩ := sWhile_ex hns
  refine ⟨fun m σi Hi => ∃ Γi H0i r, EnvOk X.K B σi Γi H0i Hi ∧ whileN sc b m Γi = some r ∧ SW X B E H0i r Dn, ⟨n0, Γ, H0, _, ok, e0, w⟩, ?_⟩
  rintro m σi Hi ⟨Γi, H0i, r, oki, em, wi⟩
  cases m with
  | zero => cases em
  | succ m =>
    unfold whileN at em
    refine hc B σi Γi H0i Hi _ oki ?_
    cases hcc : sc Γi with
    | stuck => rw [hcc] at em; cases em; exact wi
    | exc k x => rw [hcc] at em; cases em; exact wi
    | ok p =>
      obtain ⟨Γ1, t⟩ := p
      rw [hcc] at em
      intro H01 H1 ok1 g1 l1
      have wi := SW.later wi g1.ex0
      cases t with
      | false =>
        cases em
        show Dn.nx σi H1
        exact wi σi H01 H1 ok1 (Ex.refl _)
      | true =>
        show ∃ N : L2.St → Hp → Prop, _
        refine ⟨fun σ' H' => ∃ Γ' H0' r, EnvOk X.K B σ' Γ' H0' H' ∧ whileN sc b m Γ' = some r ∧ SW X B E H0' r Dn, fun σ' H' q => ⟨m, Nat.lt_succ_self _, q⟩, ?_⟩
        refine hb B σi Γ1 H01 H1 _ ok1 ?_
        simp only at em
        cases hbb : b Γ1 with
        | stuck => rw [hbb] at em; cases em; exact wi
        | exc k x => rw [hbb] at em; cases em; exact wi
        | ok q =>
          obtain ⟨Γ2, fl⟩ := q
          rw [hbb] at em
          intro σ2 H02 H2 ok2 e2
          cases fl with
          | nx => exact ⟨Γ2, H02, r, ok2, em, SW.later wi e2⟩
          | ct => exact ⟨Γ2, H02, r, ok2, em, SW.later wi e2⟩
          | bk => cases em; exact wi σ2 H02 H2 ok2 e2
          | rt z => cases em; exact wi σ2 H02 H2 ok2 e2
end
end Mi
namespace Mi
open PySem L2 Evl

/-! ### comprehensions -/
def wipeG (Γ : Ga) : List Nat → Ga
  | [] => Γ
  | v :: vs => (wipeG Γ vs).set v .un
theorem wipeG_len (Γ : Ga) : ∀ vs, (wipeG Γ vs).length = Γ.length
  | [] => rfl
  | v :: vs => by unfold wipeG; rw [List.length_set, wipeG_len Γ vs]
theorem wipeG_get {Γ : Ga} {s : Sl} {i : Nat} : ∀ {vs : List Nat}, (wipeG Γ vs)[i]? = some s → (s = .un ∧ i ∈ vs) ∨ (Γ[i]? = some s ∧ i ∉ vs)
  | [], h => .inr ⟨h, by simp⟩
  | v :: vs, h => by
    unfold wipeG at h
    rcases set_back h with ⟨e, e2, _⟩ | ⟨e, h⟩
    · exact .inl ⟨e2, by simp [e]⟩
    · rcases wipeG_get h with ⟨e2, m⟩ | ⟨e2, m⟩
      · exact .inl ⟨e2, by simp [m]⟩
      · exact .inr ⟨e2, by simp [m, e]⟩
theorem wipe_keep {σ : L2.St} {i : Nat} : ∀ {vs : List Nat}, i ∉ vs → (wipe σ vs)[i]? = σ[i]? := fun h => wipe_out h
section
variable {K : PySem.W.Frag} {B : Bg} {σ : L2.St} {Γ : Ga} {H0 H : Hp}
theorem EnvOk.wiped (ok : EnvOk K B σ Γ H0 H) (vs : List Nat) : EnvOk K B (wipe σ vs) (wipeG Γ vs) H0 H where
  sub := ok.sub
  len := by rw [wipeG_len, wipe_length]; exact ok.len
  dat := fun i x h => by
    rcases wipeG_get h with ⟨e, _⟩ | ⟨e, m⟩
    · cases e
    · rw [wipe_keep m]; exact ok.dat i x e
  scr := fun i x h => by
    rcases wipeG_get h with ⟨e, _⟩ | ⟨e, m⟩
    · cases e
    · rw [wipe_keep m]; exact ok.scr i x e
  own := fun i b x h => by
    rcases wipeG_get h with ⟨e, _⟩ | ⟨e, m⟩
    · cases e
    · rw [wipe_keep m]; exact ok.own i b x e
  apart := fun i j b c xs ys a hij h1 h2 => by
    rcases wipeG_get h1 with ⟨e, _⟩ | ⟨e1, m1⟩
    · cases e
    · rcases wipeG_get h2 with ⟨e, _⟩ | ⟨e2, m2⟩
      · cases e
      · rw [wipe_keep m1, wipe_keep m2]; exact ok.apart i j b c xs ys a hij e1 e2
  grow := ok.grow
theorem OwnOf.wiped {vs : List Nat} {p : Addr} (h : OwnOf (wipe σ vs) (wipeG Γ vs) p) : OwnOf σ Γ p := by
  obtain ⟨i, b, xs, h1, h2⟩ := h
  rcases wipeG_get h1 with ⟨e, _⟩ | ⟨e, m⟩
  · cases e
  · rw [wipe_keep m] at h2
    exact ⟨i, b, xs, e, h2⟩
/-- the slots vs as they were, the others as they are -/
def unwipe (Γ Γ' : Ga) (vs : List Nat) : Ga := (List.range Γ.length).map fun i => if i ∈ vs then Γ.getD i .un else Γ'.getD i .un
theorem unwipe_get {Γ Γ' : Ga} {vs : List Nat} {i : Nat} {s : Sl} (hl : Γ'.length = Γ.length) (h : (unwipe Γ Γ' vs)[i]? = some s) : (i ∈ vs ∧ Γ[i]? = some s) ∨ (i ∉ vs ∧ Γ'[i]? = some s) := by
  unfold unwipe at h
  rw [List.getElem?_map] at h
  obtain ⟨j, hj, e⟩ := Option.map_eq_some_iff.mp h
  have hi : i < Γ.length := by simpa using (List.getElem?_eq_some_iff.mp hj).1
  rw [List.getElem?_range hi] at hj
  cases hj
  split at e
  · rename_i m
    rw [List.getD_eq_getElem?_getD, List.getElem?_eq_getElem hi] at e
    exact .inl ⟨m, by rw [List.getElem?_eq_getElem hi, ← e]; rfl⟩
  · rename_i m
    have hi' : i < Γ'.length := by omega
    rw [List.getD_eq_getElem?_getD, List.getElem?_eq_getElem hi'] at e
    exact .inr ⟨m, by rw [List.getElem?_eq_getElem hi', ← e]; rfl⟩
theorem unwipe_ok {Γ' : Ga} {vs : List Nat} {H0' H' : Hp} (ok : EnvOk K B σ Γ H0 H) (ok' : EnvOk K B (wipe σ vs) Γ' H0' H') (g : Grow (OwnOf (wipe σ vs) (wipeG Γ vs)) H0 H H0' H') (l : Less (wipeG Γ vs) Γ') :
    EnvOk K B σ (unwipe Γ Γ' vs) H0' H' ∧ Grow (OwnOf σ Γ) H0 H H0' H' ∧ Less Γ (unwipe Γ Γ' vs) := by
  have hl : Γ'.length = Γ.length := by rw [ok'.len, wipe_length, ok.len]
  have hid : ∀ {i b xs a}, i ∈ vs → Γ[i]? = some (.own b xs) → σ[i]? = some (some (.ref a)) → ¬ OwnOf (wipe σ vs) (wipeG Γ vs) a := fun {i b xs a} m h1 h2 ⟨j, c, ys, q1, q2⟩ => by
    rcases wipeG_get q1 with ⟨e, _⟩ | ⟨e, mj⟩
    · cases e
    · rw [wipe_keep mj] at q2
      exact ok.apart i j b c xs ys a (fun z => mj (z ▸ m)) h1 e h2 q2
  have inn : ∀ {j c ys}, j ∉ vs → Γ'[j]? = some (.own c ys) → ∃ zs, Γ[j]? = some (.own c zs) := fun {j c ys} m h => by
    obtain ⟨zs, q⟩ := l j c ys h
    rcases wipeG_get q with ⟨e, _⟩ | ⟨e, _⟩
    · cases e
    · exact ⟨zs, e⟩
  refine ⟨⟨ok'.sub, by simp [unwipe, ok.len], fun i x h => ?_, fun i ns h => ?_, fun i b xs h => ?_, fun i j b c xs ys a hij h1 h2 => ?_, ok'.grow⟩, g.wide fun p z => z.wiped, fun i b ys h => ?_⟩
  · rcases unwipe_get hl h with ⟨m, e⟩ | ⟨m, e⟩
    · obtain ⟨v, e1, r⟩ := ok.dat i x e
      exact ⟨v, e1, r.m g.ex0⟩
    · have := ok'.dat i x e
      rwa [wipe_keep m] at this
  · rcases unwipe_get hl h with ⟨m, e⟩ | ⟨m, e⟩
    · obtain ⟨v, e1, r⟩ := ok.scr i ns e
      exact ⟨v, e1, ex_l g.ex0 r⟩
    · have := ok'.scr i ns e
      rwa [wipe_keep m] at this
  · rcases unwipe_get hl h with ⟨m, e⟩ | ⟨m, e⟩
    · obtain ⟨a, us, q1, q2, q3, q4, q5⟩ := ok.own i b xs e
      have no := hid m e q1
      exact ⟨a, us, q1, by rw [g.old a (by rw [q3]; simp) no]; exact q2, g.keep _ _ q3 no, q4.m g.ex0, q5⟩
    · have := ok'.own i b xs e
      rwa [wipe_keep m] at this
  · rcases unwipe_get hl h1 with ⟨m1, e1⟩ | ⟨m1, e1⟩
    · rcases unwipe_get hl h2 with ⟨m2, e2⟩ | ⟨m2, e2⟩
      · exact ok.apart i j b c _ _ a hij e1 e2
      · obtain ⟨zs, e2⟩ := inn m2 e2
        exact ok.apart i j b c _ _ a hij e1 e2
    · rcases unwipe_get hl h2 with ⟨m2, e2⟩ | ⟨m2, e2⟩
      · obtain ⟨zs, e1⟩ := inn m1 e1
        exact ok.apart i j b c _ _ a hij e1 e2
      · have := ok'.apart i j b c _ _ a hij e1 e2
        rwa [wipe_keep m1, wipe_keep m2] at this
  · rcases unwipe_get hl h with ⟨m, e⟩ | ⟨m, e⟩
    · exact ⟨ys, e⟩
    · exact inn m e
end
def noX {α : Type} (r : Res α) : Res α := match r with | .ok a => .ok a | _ => .stuck
def lcL (g : D → Ga → Option Ga) (tt : Ga → Res (Ga × Bool)) (te : Ga → Res (Ga × D)) (vs : List Nat) : List D → Ga → Res (Ga × List D)
  | [], Γ => .ok (Γ, [])
  | x :: xs, Γ => match g x Γ with
    | some Γ1 => (noX (tt Γ1)).bind fun p => if p.2 = true then (noX (te p.1)).bind fun q => (lcL g tt te vs xs (wipeG q.1 vs)).bind fun r => .ok (r.1, q.2 :: r.2) else lcL g tt te vs xs (wipeG p.1 vs)
    | none => .stuck
def sLc (s : Ga → Res (Ga × List D)) (g : D → Ga → Option Ga) (tt : Ga → Res (Ga × Bool)) (te : Ga → Res (Ga × D)) (vs : List Nat) : Ga → Res (Ga × R) := fun Γ => (s Γ).bind fun p =>
  (lcL g tt te vs p.2 (wipeG p.1 vs)).bind fun q => if q.2.length ≤ sizeLine then .ok (unwipe p.1 q.1 vs, .f q.2) else .stuck
/-- a target that sets slots among vs alone -/
structure JGw (X : Cx) (vs : List Nat) (tg : Expr) (g : D → Ga → Option Ga) : Prop where
  ex : ∃ t, PG X tg t ∧ ∀ B σ Γ H0 H v x Γ' Q, EnvOk X.K B σ Γ H0 H → Rp X.K H0 v x → g x Γ = some Γ' → (∀ σ', EnvOk X.K B σ' Γ' H0 H → wipe σ' vs = wipe σ vs → Less Γ Γ' → (∀ p, OwnOf σ' Γ' p → OwnOf σ Γ p) → Q σ' H) → t v σ H Q
structure JGsw (X : Cx) (vs : List Nat) (tg : List Expr) (g : List D → Ga → Option Ga) : Prop where
  ex : ∃ t, PGs X tg t ∧ ∀ B σ Γ H0 H v x Γ' Q, EnvOk X.K B σ Γ H0 H → RpAll X.K H0 v x → g x Γ = some Γ' → (∀ σ', EnvOk X.K B σ' Γ' H0 H → wipe σ' vs = wipe σ vs → Less Γ Γ' → (∀ p, OwnOf σ' Γ' p → OwnOf σ Γ p) → Q σ' H) → t v σ H Q
theorem wipe_set {σ : L2.St} {o : Option V} {i : Nat} : ∀ {vs : List Nat}, i ∈ vs → wipe (σ.set i o) vs = wipe σ vs
  | v :: vs, h => by
    unfold wipe
    by_cases e : v = i
    · subst e
      by_cases m : v ∈ vs
      · rw [wipe_set m]
      · have : ∀ ws : List Nat, v ∉ ws → wipe (σ.set v o) ws = (wipe σ ws).set v o := by
          intro ws
          induction ws with
          | nil => intro _; rfl
          | cons w ws ih =>
            intro hm
            simp only [List.mem_cons, not_or] at hm
            unfold wipe
            rw [ih hm.2, List.set_comm _ _ hm.1]
        rw [this vs m, List.set_set]
    · rcases List.mem_cons.mp h with h | h
      · exact absurd h.symm e
      · rw [wipe_set h]
section
variable {X : Cx} {E : XK} {e a b tg iter elt : Expr} {es : List Expr} {pos : Pos} {vs : List Nat}
theorem less_setD {Γ : Ga} {i : Nat} {x : D} : Less Γ (Γ.set i (.d x)) := fun j c ys h => by
  rcases set_back h with ⟨_, z, _⟩ | ⟨_, z⟩
  · cases z
  · exact ⟨ys, z⟩
theorem own_setD {σ : L2.St} {Γ : Ga} {i : Nat} {x : D} {v : V} {p : Addr} (h : OwnOf (σ.set i (some v)) (Γ.set i (.d x)) p) : OwnOf σ Γ p := by
  obtain ⟨j, c, ys, h1, h2⟩ := h
  rcases set_back h1 with ⟨_, z, _⟩ | ⟨z1, z⟩
  · cases z
  · rw [List.getElem?_set_ne (Ne.symm z1)] at h2; exact ⟨j, c, ys, z, h2⟩
theorem jgw_name {i : Nat} {x : Str} (m : i ∈ vs) (hN : X.N.Nodup) (hi : X.N[i]? = some x) (hx : Loc X.env.scope x) (hf : X.fn x = true ∨ X.env.scope.names.lookup x = some .local := by first | exact .inl rfl | exact .inr rfl | assumption) : JGw X vs (.Name x pos) (gN i) :=
  ⟨_, pg_name hN hi hx hf, fun B σ Γ H0 H v x Γ' Q ok r e k => by cases e; exact k _ (ok.setD i r) (wipe_set m) less_setD fun _ => own_setD⟩
theorem jgsw_nil : JGsw X vs [] gNil' := ⟨_, pgs_nil, fun B σ Γ H0 H v x Γ' Q ok r e k => by
  cases r with
  | nil => cases e; exact ⟨rfl, k σ ok rfl (Less.refl _) fun _ h => h⟩
  | cons _ _ => cases e⟩
theorem jgsw_cons {g : D → Ga → Option Ga} {h : List D → Ga → Option Ga} (h1 : JGw X vs e g) (h2 : JGsw X vs es h) (hs : (assignEach (e :: es) X.env).map (·.2) = assign e X.env :: (assignEach es X.env).map (·.2) := by rfl) : JGsw X vs (e :: es) (gCons' g h) := by
  obtain ⟨t, p, ha⟩ := h1.ex
  obtain ⟨t', p', hb⟩ := h2.ex
  refine ⟨_, pgs_cons p p' hs, fun B σ Γ H0 H v x Γ' Q ok r e k => ?_⟩
  cases r with
  | nil => cases e
  | cons r1 r2 =>
    rename_i v1 us x1 xs
    have e : (g x1 Γ).bind (h xs) = some Γ' := e
    cases hg : g x1 Γ with
    | none => rw [hg] at e; cases e
    | some Γ1 =>
      rw [hg] at e
      exact ⟨v1, us, rfl, ha B σ Γ H0 H v1 x1 Γ1 _ ok r1 hg fun σ1 ok1 w1 w2 o1 => hb B σ1 Γ1 H0 H us xs Γ' Q ok1 r2 e fun σ2 ok2 w3 w4 o2 => k σ2 ok2 (w3.trans w1) (w2.trans w4) fun p z => o1 p (o2 p z)⟩
theorem jgw_tup {k n : Nat} {h : List D → Ga → Option Ga} (hc : X.calm = true) (hh : JGsw X vs es h) (hn : (assignEach es X.env).length = n := by rfl) (hst : (assignEach es X.env).findIdx? (·.1) = none := by rfl) : JGw X vs (.Tuple es k pos) (gTup' h n) := by
  obtain ⟨t, p, ha⟩ := hh.ex
  refine ⟨_, pg_tup hc p hn hst, fun B σ Γ H0 H v x Γ' Q ok r e k => ?_⟩
  unfold gTup' at e
  split at e
  · split at e
    · rename_i xs hl
      cases r with
      | tup h1 h2 => exact ⟨_, _, rfl, ex_t ok.sub h1, by rw [h2.len]; exact hl, ha B σ Γ H0 H _ xs Γ' Q ok h2 e k⟩
    · cases e
  · cases e
/-- the tests of a comprehension -/
structure JTs (X : Cx) (E : XK) (ifs : List Expr) (s : Ga → Res (Ga × Bool)) : Prop where
  ex : ∃ t, PTs X ifs t ∧ ∀ B σ Γ H0 H Q, EnvOk X.K B σ Γ H0 H → TW X B E σ Γ H0 H (s Γ) Q → t σ H Q
def sYes : Ga → Res (Ga × Bool) := fun Γ => .ok (Γ, true)
theorem jts_nil : JTs X E [] sYes := ⟨_, pts_nil, fun B σ Γ H0 H Q ok w => w H0 H ok (Grow.refl _ _ _) (Less.refl _)⟩
theorem jts_one {c : Expr} {s : Ga → Res (Ga × Bool)} (h : JT X E c s) : JTs X E [c] s := let ⟨t, p, q⟩ := h.ex; ⟨t, pts_one p, q⟩
theorem lc_sound {s : Ga → Res (Ga × List D)} {g : D → Ga → Option Ga} {tt : Ga → Res (Ga × Bool)} {te : Ga → Res (Ga × D)} {wi : TI} {tg' : TG} {tt' : TT} {te' : TE} {X' : Cx} (hK : X'.K = X.K)
    (hi : ∀ B σ Γ H0 H R, EnvOk X.K B σ Γ H0 H → IW X B E σ Γ H0 H (s Γ) R → wi σ H R)
    (hg : ∀ B σ Γ H0 H v x Γ' Q, EnvOk X'.K B σ Γ H0 H → Rp X'.K H0 v x → g x Γ = some Γ' → (∀ σ', EnvOk X'.K B σ' Γ' H0 H → wipe σ' vs = wipe σ vs → Less Γ Γ' → (∀ p, OwnOf σ' Γ' p → OwnOf σ Γ p) → Q σ' H) → tg' v σ H Q)
    (ht : ∀ B σ Γ H0 H Q, EnvOk X'.K B σ Γ H0 H → TW X' B E0 σ Γ H0 H (tt Γ) Q → tt' σ H Q)
    (he : ∀ B σ Γ H0 H Q, EnvOk X'.K B σ Γ H0 H → DW X' B E0 σ Γ H0 H (te Γ) Q → te' σ H Q) :
    ∀ B σ Γ H0 H Q, EnvOk X.K B σ Γ H0 H → EW X B E σ Γ H0 H (sLc s g tt te vs Γ) Q → tLc wi tg' tt' te' vs σ H Q := fun B σ Γ H0 H Q ok w => by
  refine i_then (R := fun J H1 => ∀ D, H1 D = none → ∃ W : Nat → Nat → Hp → Prop, (∃ m, W 0 m (upd H1 D (.lst []))) ∧ ∀ i m H, W i m H →
    (J.stop i H ∧ Q (.ref D) H) ∨ (J.go i H ∧ ∃ Nx : Hp → Prop, (∀ H', Nx H' → ∃ m', m' < m ∧ W (i + 1) m' H') ∧ ∀ x H', J.yld i H x H' → tg' x (wipe σ vs) H' fun σ2 H2 => wipe σ2 vs = wipe σ vs ∧ tt' σ2 H2 fun b H3 =>
      if b = true then te' σ2 H3 fun y H4 => ∃ acc, H4 D = some (.lst acc) ∧ acc.length < sizeLine ∧ Nx (upd H4 D (.lst (acc ++ [y]))) else Nx H3))
    hi wok_E ok w fun Γ1 xs J H01 H1 w1 ok1 g1 l1 it => ?_
  intro Da hDa
  cases hr : lcL g tt te vs xs (wipeG Γ1 vs) with
  | stuck => simp only [hr] at w1; exact w1.elim
  | exc c x =>
    -- no exception comes out of a comprehension
    exfalso
    have none_exc : ∀ (xs : List D) (Γ : Ga) c x, lcL g tt te vs xs Γ ≠ .exc c x := by
      intro xs
      induction xs with
      | nil => intro Γ c x h; cases h
      | cons y ys ih =>
        intro Γ c x h
        unfold lcL at h
        cases hg : g y Γ with
        | none => rw [hg] at h; cases h
        | some Γ1 =>
          rw [hg] at h
          simp only at h
          cases htt : tt Γ1 with
          | stuck => rw [htt] at h; cases h
          | exc _ _ => rw [htt] at h; cases h
          | ok p =>
            rw [htt] at h
            simp only [noX, bind_ok] at h
            split at h
            · cases hte : te p.1 with
              | stuck => rw [hte] at h; cases h
              | exc _ _ => rw [hte] at h; cases h
              | ok q =>
                rw [hte] at h
                simp only [bind_ok] at h
                cases hl : lcL g tt te vs ys (wipeG q.1 vs) with
                | stuck => rw [hl] at h; cases h
                | exc c' x' => exact ih _ _ _ hl
                | ok r => rw [hl] at h; cases h
            · exact ih _ _ _ h
    exact none_exc _ _ _ _ hr
  | ok res =>
    obtain ⟨Γe, total⟩ := res
    simp only [hr, bind_ok] at w1
    split at w1
    · rename_i hsz
      have hb : B.He Da = none := RV.he ok1 hDa
      have n0 : H01 Da = none := fresh_back ok1.sub hDa
      refine ⟨fun i m Hi => ∃ Γi H0i acc accD rest, EnvOk X.K B (wipe σ vs) Γi H0i Hi ∧ Grow (OwnOf (wipe σ vs) (wipeG Γ1 vs)) H01 H1 H0i Hi ∧ Less (wipeG Γ1 vs) Γi ∧ Hi Da = some (.lst acc) ∧ H0i Da = none ∧ RpAll X.K H0i acc accD ∧
        lcL g tt te vs (xs.drop i) Γi = .ok (Γe, rest) ∧ accD ++ rest = total ∧ m = xs.length - i, ⟨xs.length, wipeG Γ1 vs, H01, [], [], total, ?_, ?_, Less.refl _, upd_same, n0, .nil, by simpa using hr, rfl, by simp⟩, ?_⟩
      · exact (ok1.wiped vs).poke n0 (fun z => (ok1.ownLive z.wiped).1 hDa) hb
      · exact Grow.fresh hDa
      · rintro i m Hi ⟨Γi, H0i, acc, accD, rest, oki, gi, li, hacc, hn, racc, hrest, htot, rfl⟩
        have ei := gi.ex0
        have nod : ∀ {Γ' : Ga}, Less (wipeG Γ1 vs) Γ' → ¬ OwnOf (wipe σ vs) Γ' Da := fun l z => (ok1.ownLive (l.own z).wiped).1 hDa
        by_cases hlt : i < xs.length
        · refine .inr ⟨it.go i H0i Hi ei oki.sub hlt, fun H' => ∃ Γi H0i acc accD rest, EnvOk X.K B (wipe σ vs) Γi H0i H' ∧ Grow (OwnOf (wipe σ vs) (wipeG Γ1 vs)) H01 H1 H0i H' ∧ Less (wipeG Γ1 vs) Γi ∧ H' Da = some (.lst acc) ∧ H0i Da = none ∧ RpAll X.K H0i acc accD ∧
            lcL g tt te vs (xs.drop (i + 1)) Γi = .ok (Γe, rest) ∧ accD ++ rest = total, fun H' ⟨Γi, H0i, acc, accD, rest, q1, q2, q3, q4, q5, q6, q7, q8⟩ => ⟨xs.length - (i + 1), by omega, Γi, H0i, acc, accD, rest, q1, q2, q3, q4, q5, q6, q7, q8, rfl⟩, fun v H' y => ?_⟩
          have hx : xs[i]? = some xs[i] := List.getElem?_eq_getElem hlt
          obtain ⟨H0y, gy, sy, ry⟩ := it.yld i xs[i] H0i Hi v H' ei oki.sub hx y
          have oky := oki.same gy sy
          have hd : xs.drop i = xs[i] :: xs.drop (i + 1) := List.drop_eq_getElem_cons hlt
          rw [hd] at hrest
          unfold lcL at hrest
          cases hgx : g xs[i] Γi with
          | none => rw [hgx] at hrest; cases hrest
          | some Γg =>
            rw [hgx] at hrest
            simp only at hrest
            refine hg B (wipe σ vs) Γi H0y H' v xs[i] Γg _ (hK ▸ oky) (hK ▸ ry) hgx fun σg okg wg lg og => ?_
            have ww : wipe (wipe σ vs) vs = wipe σ vs := by
              have : ∀ (ws : List Nat) (τ : L2.St), (∀ j ∈ ws, τ[j]? = some none ∨ τ.length ≤ j) → wipe τ ws = τ := by
                intro ws
                induction ws with
                | nil => intro τ _; rfl
                | cons w ws ih =>
                  intro τ hτ
                  unfold wipe
                  rw [ih τ fun j hj => hτ j (List.mem_cons_of_mem _ hj)]
                  rcases hτ w List.mem_cons_self with h | h
                  · apply List.ext_getElem?
                    intro k
                    by_cases e : k = w
                    · subst e
                      rw [List.getElem?_set_self (List.getElem?_eq_some_iff.mp h).1, h]
                    · rw [List.getElem?_set_ne (Ne.symm e)]
                  · exact List.set_eq_of_length_le h
              refine this vs _ fun j hj => ?_
              have : ∀ (ws : List Nat), j ∈ ws → (wipe σ ws)[j]? = some none ∨ (wipe σ ws).length ≤ j := by
                intro ws
                induction ws with
                | nil => intro h; cases h
                | cons w ws ih =>
                  intro h
                  unfold wipe
                  by_cases e : j = w
                  · subst e
                    by_cases hj : j < (wipe σ ws).length
                    · left; exact List.getElem?_set_self hj
                    · right; rw [List.length_set]; omega
                  · rcases List.mem_cons.mp h with h | h
                    · exact absurd h e
                    · rw [List.getElem?_set_ne (Ne.symm e), List.length_set]; exact ih h
              exact this vs hj
            refine ⟨wg.trans ww, ?_⟩
            -- what stands behind a part of the turn
            have okg : EnvOk X.K B σg Γg H0y H' := hK ▸ okg
            have own_g : ∀ p, OwnOf σg Γg p → OwnOf (wipe σ vs) (wipeG Γ1 vs) p := fun p z => li.own (og p z)
            have nog : ¬ OwnOf σg Γg Da := fun z => nod li (og _ z)
            have hy1 : H' Da = some (.lst acc) := gy.keep _ _ hacc id
            have hy0 : H0y Da = none := by rw [gy.old Da (by rw [hacc]; simp) id]; exact hn
            have gyy : Grow (OwnOf (wipe σ vs) (wipeG Γ1 vs)) H01 H1 H0y H' := gi.trans gy fun p z => z.elim
            -- the end of a turn: the state (Γz, H0z, Hz) behind the test or the element
            have close : ∀ {Γz : Ga} {H0z Hz : Hp}, EnvOk X.K B σg Γz H0z Hz → Grow (OwnOf σg Γg) H0y H' H0z Hz → Less Γg Γz →
                EnvOk X.K B (wipe σ vs) (wipeG Γz vs) H0z Hz ∧ Grow (OwnOf (wipe σ vs) (wipeG Γ1 vs)) H01 H1 H0z Hz ∧ Less (wipeG Γ1 vs) (wipeG Γz vs) ∧ Hz Da = some (.lst acc) ∧ H0z Da = none ∧ RpAll X.K H0z acc accD := fun {Γz H0z Hz} okz gz lz => by
              refine ⟨?_, gyy.trans gz fun p z => .inl (own_g p z), fun j c ys h => ?_, gz.keep _ _ hy1 nog, ?_, racc.m (gy.ex0.trans gz.ex0)⟩
              · have := okz.wiped vs
                rwa [wg.trans ww] at this
              · rcases wipeG_get h with ⟨e, _⟩ | ⟨e, m⟩
                · cases e
                · exact (li.trans (lg.trans lz)) j c ys e
              · rw [gz.old Da (by rw [hy1]; simp) nog]; exact hy0
            cases htt : tt Γg with
            | stuck => rw [htt] at hrest; cases hrest
            | exc _ _ => rw [htt] at hrest; cases hrest
            | ok pt =>
              obtain ⟨Γt, bt⟩ := pt
              rw [htt] at hrest
              simp only [noX, bind_ok] at hrest
              refine ht B σg Γg H0y H' _ (hK ▸ okg) ?_
              rw [htt]
              intro H0t Ht okt gt lt
              have okt : EnvOk X.K B σg Γt H0t Ht := hK ▸ okt
              cases bt with
              | false =>
                simp only [Bool.false_eq_true, if_false] at hrest ⊢
                obtain ⟨c1, c2, c3, c4, c5, c6⟩ := close okt gt lt
                exact ⟨_, _, acc, accD, rest, c1, c2, c3, c4, c5, c6, hrest, htot⟩
              | true =>
                simp only [if_true] at hrest ⊢
                cases hte : te Γt with
                | stuck => rw [hte] at hrest; cases hrest
                | exc _ _ => rw [hte] at hrest; cases hrest
                | ok pe =>
                  obtain ⟨Γz, yd⟩ := pe
                  rw [hte] at hrest
                  simp only [bind_ok] at hrest
                  refine he B σg Γt H0t Ht _ (hK ▸ okt) ?_
                  rw [hte]
                  intro yv H0z Hz okz gz lz rz
                  have okz : EnvOk X.K B σg Γz H0z Hz := hK ▸ okz
                  have rz : Rp X.K H0z yv yd := hK ▸ rz
                  obtain ⟨c1, c2, c3, c4, c5, c6⟩ := close okz (gt.trans gz fun p z => .inl (lt.own z)) (lt.trans lz)
                  cases hrr : lcL g tt te vs (xs.drop (i + 1)) (wipeG Γz vs) with
                  | stuck => rw [hrr] at hrest; cases hrest
                  | exc _ _ => rw [hrr] at hrest; cases hrest
                  | ok pr =>
                    obtain ⟨Γr, rr⟩ := pr
                    rw [hrr] at hrest
                    cases hrest
                    have hlen : acc.length < sizeLine := by
                      have h1 : total.length = accD.length + (rr.length + 1) := by rw [← htot]; simp
                      rw [c6.len]; omega
                    refine ⟨acc, c4, hlen, wipeG Γz vs, H0z, acc ++ [yv], accD ++ [yd], rr, c1.poke c5 (nod c3) hb, c2.trans Grow.poke fun p z => .inr (by rw [z]; exact hDa), c3, upd_same, c5, c6.app (.one rz), hrr, ?_⟩
                    rw [← htot]; simp
        · refine .inl ⟨it.stop i H0i Hi ei oki.sub (by omega), ?_⟩
          rw [List.drop_eq_nil_of_le (by omega)] at hrest
          cases hrest
          rw [List.append_nil] at htot
          subst htot
          obtain ⟨q1, q2, q3⟩ := unwipe_ok ok1 oki gi li
          exact w1 (.ref Da) H0i Hi q1 q2 q3 (.f hDa hn hacc racc)
    · exact w1.elim
/-- the readings in one form, whatever the frame -/
def TDc (X : Cx) (E : XK) (s : Ga → Res (Ga × D)) : TE := fun σ H Q => ∃ B Γ H0, EnvOk X.K B σ Γ H0 H ∧ DW X B E σ Γ H0 H (s Γ) Q
def TTc (X : Cx) (E : XK) (s : Ga → Res (Ga × Bool)) : TT := fun σ H Q => ∃ B Γ H0, EnvOk X.K B σ Γ H0 H ∧ TW X B E σ Γ H0 H (s Γ) Q
def TGc (X : Cx) (vs : List Nat) (g : D → Ga → Option Ga) : TG := fun v σ H Q => ∃ B Γ H0 x Γ', EnvOk X.K B σ Γ H0 H ∧ Rp X.K H0 v x ∧ g x Γ = some Γ' ∧ ∀ σ', EnvOk X.K B σ' Γ' H0 H → wipe σ' vs = wipe σ vs → Less Γ Γ' → (∀ p, OwnOf σ' Γ' p → OwnOf σ Γ p) → Q σ' H
theorem je_lc {s : Ga → Res (Ga × List D)} {g : D → Ga → Option Ga} {tt : Ga → Res (Ga × Bool)} {te : Ga → Res (Ga × D)} {ifs : List Expr} {scope : Scope} {own : List (Str × Nat)} (hc : X.calm = true) (hN : X.N.Nodup) (hi : JI X E tg iter s) (ok : BlkOk X.N X.env.scope scope own)
    (hg : ∀ (s : Shared) (H : Hp) (C : Addr) (cl : List (Str × Addr)) (fp : List Addr), JGw (X.blk s H scope (compEnvC scope cl C X.env) fp) (own.map (·.2)) tg g)
    (ht : ∀ (s : Shared) (H : Hp) (C : Addr) (cl : List (Str × Addr)) (fp : List Addr), JTs (X.blk s H scope (compEnvC scope cl C X.env) fp) E0 ifs tt)
    (he : ∀ (s : Shared) (H : Hp) (C : Addr) (cl : List (Str × Addr)) (fp : List Addr), JD (X.blk s H scope (compEnvC scope cl C X.env) fp) E0 elt te)
    (hs : ∀ x, foldedSetIterable iter X.env x = pure x := by intro _; rfl) : JE X E (.ListComp elt [⟨tg, iter, ifs, 0⟩] scope pos) (sLc s g tt te (own.map (·.2))) := by
  obtain ⟨wi, pi, hi⟩ := hi.ex
  refine ⟨_, pe_lc (g := TGc X (own.map (·.2)) g) (tt := TTc X E0 tt) (te := TDc X E0 te) hc hN pi ok (fun s H C cl fp => ?_) (fun s H C cl fp => ?_) (fun s H C cl fp => ?_) hs, lc_sound (X' := X) rfl hi ?_ ?_ ?_⟩
  · obtain ⟨t, p, h⟩ := (hg s H C cl fp).ex
    exact ⟨fun pins s σ H v u Q I r ⟨B, Γ, H0, x, Γ', o, rx, e, k⟩ => p.run pins s σ H v u Q I r (h B σ Γ H0 H v x Γ' Q o rx e k)⟩
  · obtain ⟨t, p, h⟩ := (ht s H C cl fp).ex
    exact ⟨fun pins s σ H Q I ⟨B, Γ, H0, o, w⟩ => p.run pins s σ H Q I (h B σ Γ H0 H Q o w)⟩
  · obtain ⟨t, p, h⟩ := (he s H C cl fp).ex
    exact ⟨fun pins s σ H Q I ⟨B, Γ, H0, o, w⟩ => p.run pins s σ H Q I (h B σ Γ H0 H Q o w)⟩
  · exact fun B σ Γ H0 H v x Γ' Q o rx e k => ⟨B, Γ, H0, x, Γ', o, rx, e, k⟩
  · exact fun B σ Γ H0 H Q o w => ⟨B, Γ, H0, o, w⟩
  · exact fun B σ Γ H0 H Q o w => ⟨B, Γ, H0, o, w⟩
/-- name = [..] on one line -/
theorem js_setLc {i : Nat} {y : Str} {py spos : Pos} {s : Ga → Res (Ga × List D)} {g : D → Ga → Option Ga} {tt : Ga → Res (Ga × Bool)} {te : Ga → Res (Ga × D)} {ifs : List Expr} {scope : Scope} {own : List (Str × Nat)} (hc : X.calm = true) (hN : X.N.Nodup) (hy : X.N[i]? = some y) (hyl : X.env.scope.names.lookup y = some .local)
    (hsw : swapsWith (.ListComp elt [⟨tg, iter, ifs, 0⟩] scope pos) (some (.Name y py)) spos.line X.env = pure true) (hi : JI X E tg iter s) (ok : BlkOk X.N X.env.scope scope own)
    (hg : ∀ (s : Shared) (H : Hp) (C : Addr) (cl : List (Str × Addr)) (fp : List Addr), JGw (X.blk s H scope (compEnvC scope cl C X.env) fp) (own.map (·.2)) tg g)
    (ht : ∀ (s : Shared) (H : Hp) (C : Addr) (cl : List (Str × Addr)) (fp : List Addr), JTs (X.blk s H scope (compEnvC scope cl C X.env) fp) E0 ifs tt)
    (he : ∀ (s : Shared) (H : Hp) (C : Addr) (cl : List (Str × Addr)) (fp : List Addr), JD (X.blk s H scope (compEnvC scope cl C X.env) fp) E0 elt te)
    (hs : ∀ x, foldedSetIterable iter X.env x = pure x := by intro _; rfl) : JS X E (.Assign [.Name y py] (.ListComp elt [⟨tg, iter, ifs, 0⟩] scope pos) spos) (sSet i (sLc s g tt te (own.map (·.2)))) := by
  obtain ⟨wi, pi, hi⟩ := hi.ex
  refine ⟨_, ps_setLc (g := TGc X (own.map (·.2)) g) (tt := TTc X E0 tt) (te := TDc X E0 te) hc hN hy hyl hsw pi ok (fun s H C cl fp => ?_) (fun s H C cl fp => ?_) (fun s H C cl fp => ?_) hs, fun B σ Γ H0 H Dn ok w => ?_⟩
  · obtain ⟨t, p, h⟩ := (hg s H C cl fp).ex
    exact ⟨fun pins s σ H v u Q I r ⟨B, Γ, H0, x, Γ', o, rx, e, k⟩ => p.run pins s σ H v u Q I r (h B σ Γ H0 H v x Γ' Q o rx e k)⟩
  · obtain ⟨t, p, h⟩ := (ht s H C cl fp).ex
    exact ⟨fun pins s σ H Q I ⟨B, Γ, H0, o, w⟩ => p.run pins s σ H Q I (h B σ Γ H0 H Q o w)⟩
  · obtain ⟨t, p, h⟩ := (he s H C cl fp).ex
    exact ⟨fun pins s σ H Q I ⟨B, Γ, H0, o, w⟩ => p.run pins s σ H Q I (h B σ Γ H0 H Q o w)⟩
  · have key := lc_sound (X := X) (E := E) (X' := X) (vs := own.map (·.2)) (s := s) (g := g) (tt := tt) (te := te) (tg' := TGc X (own.map (·.2)) g) (tt' := TTc X E0 tt) (te' := TDc X E0 te) rfl hi
      (fun B σ Γ H0 H v x Γ' Q o rx e k => ⟨B, Γ, H0, x, Γ', o, rx, e, k⟩) (fun B σ Γ H0 H Q o w => ⟨B, Γ, H0, o, w⟩) (fun B σ Γ H0 H Q o w => ⟨B, Γ, H0, o, w⟩)
    show tLc wi _ _ _ _ σ H fun x H1 => Dn.nx (σ.set i (some x)) H1
    exact e_then key wok_S ok w fun Γ1 x v H01 H1 w1 ok1 g1 l1 r1 => w1 _ H01 H1 (set_ok i ok ok1 l1 r1) (Ex.refl _)
end
end Mi
namespace Mi
open PySem PySem.Spec PyProof.Rows L2 Evl

/-! ### defs of the text -/
/-- as FnOk, where no repr is under way -/
structure FnG (P : Program) (w : World) (K : PySem.W.Frag) (mg : Str → Option Value) (base : Heap) (k : Nat) (f : Addr) (fd : FuncData) (ps : List Str) (sp : Sp) : Prop where
  args : ∀ vs H Q E, sp vs H Q E → vs.length = ps.length
  go : ∀ (A : Around) (fr : List Env) (s : Shared) (H : Hp) (ar : Args) (us : List Value) (vs : List V) (Q : VK) (E : XK), Room k A → A.guards = some [] → Env0 P w K mg base A fr s H → BindsTo s fd ar (ps.zip us) → Vals vs us →
    sp vs H Q E → codeAny (model P w) A (.call (.ref f) ar) (CR (L2.CX P w) fr P w H s Q E) s
theorem FnG.up {P : Program} {w : World} {K : PySem.W.Frag} {mg : Str → Option Value} {base : Heap} {j k : Nat} {f : Addr} {fd : FuncData} {ps : List Str} {sp : Sp} (F : FnG P w K mg base j f fd ps sp) (h : j ≤ k) : FnG P w K mg base k f fd ps sp where
  args := F.args
  go := fun A fr s H ar us vs Q E r => F.go A fr s H ar us vs Q E (r.mono h)
section
variable {X : Cx} {E : XK} {k : Nat} {f : Addr} {fd : FuncData} {ps : List Str} {sp : Sp} {x : Str} {p pos : Pos} {e : Expr} {es : List Expr} {t : TA}
theorem run_G {pins : List (Addr × Obj)} {σ : L2.St} {H : Hp} {s : Shared} {Q : VK} {us : List Value} {vs : List V} (F : FnG X.prog X.w X.K X.mg X.base k f fd ps sp) (hr : Room k X.A) (hq : X.A.guards = some []) (hb : Binds X.K fd ps []) (tk : Takes X fun cls d _ H => E cls d H)
    (I : Inv X pins σ H s) (r : Vals vs us) (h : sp vs H Q E) : wpAny (model X.prog X.w) X.A (PySem.call (.ref f) us) (EP X pins σ Q) X.xe s := by
  have el : us.length = ps.length := by rw [← r.length, F.args _ _ _ _ h]
  have bt : BindsTo s fd ⟨us, []⟩ (ps.zip us) := by
    have := hb s us I.kIn (by rw [List.append_nil]; exact el)
    rwa [List.append_nil] at this
  refine wpAny_call (codeAny_mono (F.go X.A X.stack s H _ us vs Q E hr hq I.env0 bt r h) ?_)
  intro res s' hres
  match res, hres with
  | .ok (.ret u), c => exact I.after c
  | .ok .next, c => exact c.elim
  | .ok .brk, c => exact c.elim
  | .ok .cont, c => exact c.elim
  | .error ex, c => exact passes_call tk (fun _ _ _ _ z => z) pins σ H s ex s' I c
theorem pe_G (F : FnG X.prog X.w X.K X.mg X.base k f fd ps sp) (hr : Room k X.A) (hq : X.A.guards = some []) (hg : Gl X x) (hm : X.mg x = some (.ref f)) (hk : PySem.W.keepIn X.K (.ref f) = true) (hb : Binds X.K fd ps []) (tk : Takes X fun cls d _ H => E cls d H) (ha : PA X (e :: es) t)
    (hdb : (x == ("__debug__" : Str)) = false) (he : starEach (e :: es) X.env = (false, eval e X.env) :: starEach es X.env) (hpl : (backTo pos (starEach es X.env)).any (·.1) = false) : PE X (.Call (.Name x p) (e :: es) [] pos) (fun σ H Q => t σ H fun vs H1 => sp vs H1 Q E) where
  run := fun pins s σ H Q I h => wpAny_Call_Name_kw (ld_glob I hg hm (PySem.W.callWith_K (h₀ := X.base) I.ok.mod.kin hk (thn (ha.run pos pins s σ H _ I h) fun us s1 ⟨vs, H1, I1, r, q⟩ => ⟨I1.kIn, run_G F hr hq hb tk I1 r q⟩) he hpl) hdb)
theorem pe_G0 (F : FnG X.prog X.w X.K X.mg X.base k f fd [] sp) (hr : Room k X.A) (hq : X.A.guards = some []) (hg : Gl X x) (hm : X.mg x = some (.ref f)) (hk : PySem.W.keepIn X.K (.ref f) = true) (hb : Binds X.K fd [] []) (tk : Takes X fun cls d _ H => E cls d H)
    (hdb : (x == ("__debug__" : Str)) = false) : PE X (.Call (.Name x p) [] [] pos) (fun σ H Q => sp [] H Q E) where
  run := fun pins s σ H Q I h => wpAny_Call_Name_kw (ld_glob I hg hm (PySem.W.callWith_K0 I.kIn hk (run_G F hr hq hb tk I .nil h)) hdb)
end
section
variable {P : Program} {w : World} {K : PySem.W.Frag} {mg : Str → Option Value} {base : Heap}
/-- the rule for a def of the text, its body read where no repr is under way -/
theorem fnG_of {x qual : Str} {st : Stmt} {f : Addr} {fd : FuncData} {N ps : List Str} {k : Nat} {sp : Sp} (F : Fun K x qual st f fd) (S : FnScope N ps (defScope st)) (hlen : ∀ vs H Q E, sp vs H Q E → vs.length = ps.length)
    (hbody : ∀ (cdv : Value) (A : Around) (fr : List Env) (s : Shared) (H : Hp) (vs : List V) (Q : VK) (E : XK), Room k (A.deeper (envOfC qual (defScope st) s.heap.objs.size f cdv)) → A.guards = some [] → sp vs H Q E →
      ∃ t, PSs (cxOf (L2.CX P w) P w K mg base N qual (defScope st) f cdv A fr s H E) (defBody st) t ∧ t { nx := fun _ H' => Q .non H', rt := Q } (L2.start N vs) H) : FnG P w K mg base (k + 1) f fd ps sp := by
  obtain ⟨oc, od, kV, doc, pm, an, cdv, ct, osl, rfl, lk, hcd⟩ := F.ex
  refine ⟨hlen, fun A fr s H ar us vs Q E hr hq e0 hb r h => ?_⟩
  have inK : K.In s.heap := e0.mod.kin.keeps fun b o z => (e0.bs b o z).1
  have noLim : s.heap.NoLimit := e0.mod.nolimit.keeps fun b o z => (e0.bs b o z).1
  refine codeAny_call_function hr.depth (inK _ _ lk) rfl S.co S.gen rfl (PySem.W.codeRec_of inK hcd) (hb _ _ _ _ (wpAny_newFunctionEnv_cells S.kind ?_ ?_))
  · rintro ⟨n, v⟩ hy
    rcases S.par n (List.of_mem_zip hy).1 with q | q
    · exact Or.inl q
    · exact Or.inr ⟨q, PySem.W.cellsFrom_some _ _ _ (Or.inl q)⟩
  · rintro env rfl s1 x1
    refine ⟨noLim.keeps x1.toInCall.keep, codeAny_func ?_⟩
    obtain ⟨t, ht, hd⟩ := hbody cdv A fr s H vs Q E (hr.deeper _) hq h
    have I := inv_start (CX := L2.CX P w) (E := E) S hr.hd e0 (hlen _ _ _ _ h) r x1
    refine wpAny_mono (ht.run [] s1 (L2.start N vs) H _ I hd) ?_ fun _ _ z => z
    intro fl s' hs
    match fl, hs with
    | .ret u, ⟨v, σ', H', J, rv, q⟩ => exact ⟨v, H', J.os, J.bare, J.base, J.hok, rv, q⟩
    | .next, ⟨σ', H', J, q⟩ => exact ⟨.non, H', J.os, J.bare, J.base, J.hok, rfl, q⟩
    | .brk, ⟨_, _, _, q⟩ => exact q.elim
    | .cont, ⟨_, _, _, q⟩ => exact q.elim
end
def Bof (H0 H : Hp) (vs : List V) (Γ : Ga) : Bg := ⟨H0, H, fun i => match Γ[i]? with
  | some (.own _ _) => (match vs[i]? with | some (.ref a) => some a | _ => none)
  | _ => none⟩
def XF (K : PySem.W.Frag) (mg : Str → Option Value) (B : Bg) (E : XK) (c : Str) (x : D) : Prop := ∀ C d v H0' H', mg c = some (.ref C) → H' d = some (.xd [(fieldOf c, v)]) → Rp K H0' v x → Ex H0' H' → Grow (fun p => ∃ i, B.io i = some p) B.He0 B.He H0' H' → E (.ref C) (some d) H'
def FW (K : PySem.W.Frag) (mg : Str → Option Value) (H0 H : Hp) (vs : List V) (Γ : Ga) (E : XK) (r : Res (Ga × R)) (Q : VK) : Prop := match r with
  | .ok (Γ', x) => ∀ v H0' H', EnvOk K (Bof H0 H vs Γ) (vs.map some) Γ' H0' H' → RV K H0 H H0' H' x v → Q v H'
  | .exc c x => XF K mg (Bof H0 H vs Γ) E c x
  | .stuck => False
def spD (K : PySem.W.Frag) (mg : Str → Option Value) (n : Nat) (m : Ga → Res (Ga × R)) : Sp := fun vs H Q E => vs.length = n ∧ ∃ H0 Γ, EnvOk K (Bof H0 H vs Γ) (vs.map some) Γ H0 H ∧ FW K mg H0 H vs Γ E (m Γ) Q
def Shape (Γ Γ' : Ga) : Prop := ∀ (k : Nat) b xs, Γ[k]? = some (.own b xs) → ∃ ys, Γ'[k]? = some (.own b ys)
structure FD (P : Program) (w : World) (K : PySem.W.Frag) (mg : Str → Option Value) (base : Heap) (k : Nat) (f : Addr) (fd : FuncData) (ps : List Str) (m : Ga → Res (Ga × R)) : Prop where
  ok : FnG P w K mg base k f fd ps (spD K mg ps.length m)
  shape : ∀ Γ Γ' r, m Γ = .ok (Γ', r) → Shape Γ Γ'

/-! ### arguments -/
def refSl (Γ : Ga) (i : Nat) : Res Sl := match Γ[i]? with
  | some (.own _ xs) => .ok (.own true xs)
  | some (.scr ns) => .ok (.scr ns)
  | _ => .stuck
def argSl (Γ : Ga) : List (Option Nat) → List D → Res Ga
  | [], [] => .ok []
  | none :: ks, x :: xs => (argSl Γ ks xs).bind fun r => .ok (.d x :: r)
  | some i :: ks, xs => (refSl Γ i).bind fun s => (argSl Γ ks xs).bind fun r => .ok (s :: r)
  | _, _ => .stuck
def refAt : List (Option Nat) → Ga → Nat → Option (List D)
  | some j :: ks, .own true ys :: os, i => if j = i then some ys else refAt ks os i
  | _ :: ks, _ :: os, i => refAt ks os i
  | _, _, _ => none
def putB (ks : List (Option Nat)) (os : Ga) (i : Nat) (s : Sl) : Sl := match s with
  | .own b xs => .own b ((refAt ks os i).getD xs)
  | s => s
def putBack (Γ : Ga) (ks : List (Option Nat)) (os : Ga) : Ga := Γ.mapIdx (putB ks os)
inductive ArgR (K : PySem.W.Frag) (H0 : Hp) (σ : L2.St) : List V → List (Option Nat) → List D → Prop
  | nil : ArgR K H0 σ [] [] []
  | d {v : V} {vs : List V} {ks : List (Option Nat)} {x : D} {xs : List D} : Rp K H0 v x → ArgR K H0 σ vs ks xs → ArgR K H0 σ (v :: vs) (none :: ks) (x :: xs)
  | ref {v : V} {vs : List V} {i : Nat} {ks : List (Option Nat)} {xs : List D} : σ[i]? = some (some v) → ArgR K H0 σ vs ks xs → ArgR K H0 σ (v :: vs) (some i :: ks) xs
def PW' (X : Cx) (B : Bg) (E : XK) (σ : L2.St) (ks : List (Option Nat)) (Γ : Ga) (H0 H : Hp) (r : Res (Ga × List D)) (Q : List V → Hp → Prop) : Prop := match r with
  | .ok (Γ', xs) => ∀ vs H0' H', EnvOk X.K B σ Γ' H0' H' → Grow (OwnOf σ Γ) H0 H H0' H' → Less Γ Γ' → ArgR X.K H0' σ vs ks xs → Q vs H'
  | .exc c x => XW X B E c x
  | .stuck => False
structure JP (X : Cx) (E : XK) (es : List Expr) (ks : List (Option Nat)) (s : Ga → Res (Ga × List D)) : Prop where
  ex : ∃ t, PA X es t ∧ ∀ B σ Γ H0 H Q, EnvOk X.K B σ Γ H0 H → PW' X B E σ ks Γ H0 H (s Γ) Q → t σ H Q
section
variable {X : Cx} {E : XK} {B : Bg} {σ : L2.St}
theorem wok_P {ks : List (Option Nat)} {Q : List V → Hp → Prop} : WOk X B E σ fun Γ H0 H r => PW' X B E σ ks Γ H0 H r Q where
  exc := fun _ _ _ _ _ h => h
  stuck := fun _ _ _ h => h
  shift := fun Γ H0 H Γ1 H01 H1 r ok g l w => by
    cases r with
    | stuck => exact w
    | exc c x => exact w
    | ok p => exact fun v H0' H' o' g' l' r' => w v H0' H' o' (shift_g g l g') (l.trans l') r'
theorem p_then {β : Type} {W : Ga → Hp → Hp → Res β → Prop} {Γ : Ga} {H0 H : Hp} {ks : List (Option Nat)} {t : TA} {s : Ga → Res (Ga × List D)} {f : Ga × List D → Res β} {Q : List V → Hp → Prop} (ha : ∀ B σ Γ H0 H Q, EnvOk X.K B σ Γ H0 H → PW' X B E σ ks Γ H0 H (s Γ) Q → t σ H Q) (wo : WOk X B E σ W) (ok : EnvOk X.K B σ Γ H0 H) (w : W Γ H0 H ((s Γ).bind f))
    (k : ∀ Γ1 x v H01 H1, W Γ1 H01 H1 (f (Γ1, x)) → EnvOk X.K B σ Γ1 H01 H1 → Grow (OwnOf σ Γ) H0 H H01 H1 → Less Γ Γ1 → ArgR X.K H01 σ v ks x → Q v H1) : t σ H Q := by
  refine ha B σ Γ H0 H Q ok ?_
  cases hs : s Γ with
  | stuck => rw [hs] at w; exact (wo.stuck _ _ _ w).elim
  | exc c x => rw [hs] at w; exact wo.exc _ _ _ _ _ w
  | ok p =>
    rw [hs] at w
    exact fun v H01 H1 ok1 g l r => k _ _ v H01 H1 (wo.shift _ _ _ _ _ _ _ ok g l w) ok1 g l r
theorem ArgR.m {K : PySem.W.Frag} {H0 H0' : Hp} {vs : List V} {ks : List (Option Nat)} {xs : List D} (h : ArgR K H0 σ vs ks xs) (e : Ex H0 H0') : ArgR K H0' σ vs ks xs := by
  induction h with
  | nil => exact .nil
  | d r _ ih => exact .d (r.m e) ih
  | ref r _ ih => exact .ref r ih
variable {e : Expr} {es : List Expr} {ks : List (Option Nat)}
theorem jp_nil : JP X E [] [] sNil := ⟨_, pa_nil, fun B σ Γ H0 H Q ok w => w [] H0 H ok (Grow.refl _ _ _) (Less.refl _) .nil⟩
theorem jp_d {s : Ga → Res (Ga × D)} {r : Ga → Res (Ga × List D)} (h : JD X E e s) (hr : JP X E es ks r) (hs : starEach (e :: es) X.env = (false, eval e X.env) :: starEach es X.env := by rfl) : JP X E (e :: es) (none :: ks) (sCons s r) := by
  obtain ⟨t, p, ha⟩ := h.ex
  obtain ⟨u, q, hb⟩ := hr.ex
  refine ⟨_, pa_cons p q hs, fun B σ Γ H0 H Q ok w => ?_⟩
  show t σ H fun x H1 => u σ H1 fun xs H2 => Q (x :: xs) H2
  refine d_then ha wok_P ok w fun Γ1 x v H01 H1 w1 ok1 g1 l1 r1 => ?_
  refine p_then hb wok_P ok1 w1 fun Γ2 xs vs H02 H2 w2 ok2 g2 l2 r2 => ?_
  exact w2 _ H02 H2 ok2 (Grow.refl _ _ _) (Less.refl _) (.d (r1.m g2.ex0) r2)
def sRef (i : Nat) (r : Ga → Res (Ga × List D)) : Ga → Res (Ga × List D) := fun Γ => (refSl Γ i).bind fun _ => r Γ
theorem jp_ref {i : Nat} {r : Ga → Res (Ga × List D)} (p : PE X e (tVar i)) (hr : JP X E es ks r) (hs : starEach (e :: es) X.env = (false, eval e X.env) :: starEach es X.env := by rfl) : JP X E (e :: es) (some i :: ks) (sRef i r) := by
  obtain ⟨u, q, hb⟩ := hr.ex
  refine ⟨_, pa_cons p q hs, fun B σ Γ H0 H Q ok w => ?_⟩
  unfold sRef at w
  have key : ∀ v, σ[i]? = some (some v) → PW' X B E σ (some i :: ks) Γ H0 H (r Γ) Q → tCons (tVar i) u σ H Q := fun v ev w => ⟨v, ev, by
    show u σ H fun xs H2 => Q (v :: xs) H2
    refine hb B σ Γ H0 H _ ok ?_
    cases hr : r Γ with
    | stuck => rw [hr] at w; exact w
    | exc c x => rw [hr] at w; exact w
    | ok p => rw [hr] at w; exact fun vs H0' H' o' g' l' r' => w _ H0' H' o' g' l' (.ref ev r')⟩
  unfold refSl at w
  split at w
  · rename_i b xs hx
    obtain ⟨a, vs, q1, _⟩ := ok.own i _ _ hx
    exact key _ q1 w
  · rename_i ns hx
    obtain ⟨a, q1, _⟩ := ok.scr i _ hx
    exact key _ q1 w
  · exact w.elim
end

/-! ### what the callee sees, what comes back -/
section
variable {K : PySem.W.Frag} {B : Bg} {σ : L2.St} {Γ : Ga} {H0 H : Hp} {vs : List V} {ks : List (Option Nat)} {xs : List D} {Γa : Ga}
theorem arg_get (r : ArgR K H0 σ vs ks xs) (h : argSl Γ ks xs = .ok Γa) : ∀ (j : Nat) s, Γa[j]? = some s → ∃ v, vs[j]? = some v ∧ ((∃ x, s = .d x ∧ Rp K H0 v x ∧ ks[j]? = some none) ∨ ∃ i, ks[j]? = some (some i) ∧ σ[i]? = some (some v) ∧ refSl Γ i = .ok s) := by
  induction r generalizing Γa with
  | nil => cases h; intro j s hj; simp at hj
  | @d v vs ks x xs rx _ ih =>
    unfold argSl at h
    cases hr : argSl Γ ks xs with
    | stuck => rw [hr] at h; cases h
    | exc _ _ => rw [hr] at h; cases h
    | ok r =>
      rw [hr] at h; cases h
      intro j s hj
      cases j with
      | zero => simp at hj; subst hj; exact ⟨v, rfl, .inl ⟨x, rfl, rx, rfl⟩⟩
      | succ j => exact ih hr j s (by simpa using hj)
  | @ref v vs i ks xs rx _ ih =>
    unfold argSl at h
    cases hi : refSl Γ i with
    | stuck => rw [hi] at h; cases h
    | exc _ _ => rw [hi] at h; cases h
    | ok s0 =>
      rw [hi] at h
      cases hr : argSl Γ ks xs with
      | stuck => simp only [bind_ok, hr] at h; cases h
      | exc _ _ => simp only [bind_ok, hr] at h; cases h
      | ok r =>
        simp only [bind_ok, hr] at h; cases h
        intro j s hj
        cases j with
        | zero => simp at hj; subst hj; exact ⟨v, rfl, .inr ⟨i, rfl, rx, hi⟩⟩
        | succ j => exact ih hr j s (by simpa using hj)
theorem arg_len (r : ArgR K H0 σ vs ks xs) (h : argSl Γ ks xs = .ok Γa) : Γa.length = vs.length ∧ vs.length = ks.length := by
  induction r generalizing Γa with
  | nil => cases h; exact ⟨rfl, rfl⟩
  | @d v vs ks x xs rx _ ih =>
    unfold argSl at h
    cases hr : argSl Γ ks xs with
    | stuck => rw [hr] at h; cases h
    | exc _ _ => rw [hr] at h; cases h
    | ok r => rw [hr] at h; cases h; simp [ih hr]
  | @ref v vs i ks xs rx _ ih =>
    unfold argSl at h
    cases hi : refSl Γ i with
    | stuck => rw [hi] at h; cases h
    | exc _ _ => rw [hi] at h; cases h
    | ok s0 =>
      rw [hi] at h
      cases hr : argSl Γ ks xs with
      | stuck => simp only [bind_ok, hr] at h; cases h
      | exc _ _ => simp only [bind_ok, hr] at h; cases h
      | ok r => simp only [bind_ok, hr] at h; cases h; simp [ih hr]
theorem refSl_own {i : Nat} {b : Bool} {ys : List D} (h : refSl Γ i = .ok (.own b ys)) : b = true ∧ ∃ c, Γ[i]? = some (.own c ys) := by
  unfold refSl at h
  split at h
  · cases h; exact ⟨rfl, _, by assumption⟩
  · cases h
  · cases h
theorem refs_apart : ∀ {ks : List (Option Nat)} {j k i : Nat}, (ks.filterMap id).Nodup → ks[j]? = some (some i) → ks[k]? = some (some i) → j = k
  | [], j, _, _, _, h, _ => by simp at h
  | none :: ks, j, k, i, nd, h1, h2 => by
    cases j with
    | zero => simp at h1
    | succ j =>
      cases k with
      | zero => simp at h2
      | succ k => exact congrArg (· + 1) (refs_apart (ks := ks) (i := i) (by simpa using nd) (by simpa using h1) (by simpa using h2))
  | some m :: ks, j, k, i, nd, h1, h2 => by
    have nd' : (m :: ks.filterMap id).Nodup := by simpa using nd
    have hm := (List.nodup_cons.mp nd').1
    cases j with
    | zero =>
      cases k with
      | zero => rfl
      | succ k =>
        simp at h1 h2; subst h1
        exact absurd (List.mem_filterMap (f := id).mpr ⟨some m, List.mem_of_getElem? h2, rfl⟩) hm
    | succ j =>
      cases k with
      | zero =>
        simp at h1 h2; subst h2
        exact absurd (List.mem_filterMap (f := id).mpr ⟨some m, List.mem_of_getElem? h1, rfl⟩) hm
      | succ k => exact congrArg (· + 1) (refs_apart (ks := ks) (i := i) (List.nodup_cons.mp nd').2 (by simpa using h1) (by simpa using h2))
theorem io_of {j : Nat} {b : Bool} {ys : List D} {a : Addr} (h : Γa[j]? = some (.own b ys)) (e : vs[j]? = some (.ref a)) : (Bof H0 H vs Γa).io j = some a := by
  show (match Γa[j]? with | some (.own _ _) => (match vs[j]? with | some (.ref a) => some a | _ => none) | _ => none) = _
  rw [h, e]
theorem of_io {j : Nat} {a : Addr} (h : (Bof H0 H vs Γa).io j = some a) : ∃ b ys, Γa[j]? = some (.own b ys) ∧ vs[j]? = some (.ref a) := by
  have h : (match Γa[j]? with | some (.own _ _) => (match vs[j]? with | some (.ref a) => some a | _ => none) | _ => none) = some a := h
  split at h
  · rename_i b ys hj
    split at h
    · cases h; exact ⟨b, ys, hj, by assumption⟩
    · cases h
  · cases h
theorem env_args (ok : EnvOk K B σ Γ H0 H) (r : ArgR K H0 σ vs ks xs) (h : argSl Γ ks xs = .ok Γa) (nd : (ks.filterMap id).Nodup) : EnvOk K (Bof H0 H vs Γa) (vs.map some) Γa H0 H where
  sub := ok.sub
  len := by rw [List.length_map]; exact (arg_len r h).1
  dat := fun j x hj => by
    obtain ⟨v, e1, q⟩ := arg_get r h j _ hj
    refine ⟨v, by simp [e1], ?_⟩
    rcases q with ⟨y, e, rx, _⟩ | ⟨i, _, _, e⟩
    · cases e; exact rx
    · unfold refSl at e; split at e <;> cases e
  scr := fun j ns hj => by
    obtain ⟨v, e1, q⟩ := arg_get r h j _ hj
    rcases q with ⟨y, e, rx, _⟩ | ⟨i, _, es, e⟩
    · cases e
    · unfold refSl at e
      split at e
      · cases e
      · rename_i ms hm
        cases e
        obtain ⟨a, e3, r3⟩ := ok.scr i _ hm
        rw [es] at e3; cases e3
        exact ⟨a, by simp [e1], r3⟩
      · cases e
  own := fun j b ys hj => by
    obtain ⟨v, e1, q⟩ := arg_get r h j _ hj
    rcases q with ⟨y, e, rx, _⟩ | ⟨i, _, es, e⟩
    · cases e
    · obtain ⟨rfl, c, hc⟩ := refSl_own e
      obtain ⟨a, us, q1, q2, q3, q4, _⟩ := ok.own i _ _ hc
      rw [es] at q1; cases q1
      exact ⟨a, us, by simp [e1], q2, q3, q4, fun _ => io_of hj e1, fun z => nomatch z⟩
  apart := fun j k b c ys zs a hjk h1 h2 => by
    obtain ⟨v, e1, q⟩ := arg_get r h j _ h1
    obtain ⟨v', e1', q'⟩ := arg_get r h k _ h2
    rcases q with ⟨y, e, _⟩ | ⟨i, ki, es, e⟩
    · cases e
    · rcases q' with ⟨y, e', _⟩ | ⟨i', ki', es', e'⟩
      · cases e'
      · obtain ⟨_, d, hd⟩ := refSl_own e
        obtain ⟨_, d', hd'⟩ := refSl_own e'
        have ne : i ≠ i' := fun z => hjk (refs_apart nd ki (by rw [z]; exact ki'))
        intro z1 z2
        simp [e1] at z1
        simp [e1'] at z2
        subst z1 z2
        exact ok.apart i i' _ _ _ _ a ne hd hd' es es'
  grow := Grow.refl _ _ _
theorem refAt_some : ∀ {ks : List (Option Nat)} {os : Ga} {i : Nat} {ys : List D}, refAt ks os i = some ys → ∃ (j : Nat), ks[j]? = some (some i) ∧ os[j]? = some (Sl.own true ys)
  | [], _, _, _, h => by simp [refAt] at h
  | _ :: _, [], _, _, h => by simp [refAt] at h
  | none :: ks, o :: os, i, ys, h => by
    have h : refAt ks os i = some ys := by simpa [refAt] using h
    obtain ⟨j, h1, h2⟩ := refAt_some h
    exact ⟨j + 1, by simpa using h1, by simpa using h2⟩
  | some m :: ks, o :: os, i, ys, h => by
    have go : refAt ks os i = some ys → ∃ (j : Nat), (some m :: ks)[j]? = some (some i) ∧ (o :: os)[j]? = some (Sl.own true ys) := fun h => by
      obtain ⟨j, h1, h2⟩ := refAt_some h
      exact ⟨j + 1, by simpa using h1, by simpa using h2⟩
    cases o with
    | un => exact go (by simpa [refAt] using h)
    | d _ => exact go (by simpa [refAt] using h)
    | scr _ => exact go (by simpa [refAt] using h)
    | own b zs =>
      cases b with
      | false => exact go (by simpa [refAt] using h)
      | true =>
        unfold refAt at h
        split at h
        · rename_i e; cases h; subst e; exact ⟨0, rfl, rfl⟩
        · exact go h
theorem refAt_none : ∀ {ks : List (Option Nat)} {os : Ga} {i j : Nat} {ys : List D}, refAt ks os i = none → ks[j]? = some (some i) → os[j]? ≠ some (.own true ys)
  | [], _, _, j, _, _, h1 => by simp at h1
  | _ :: _, [], _, j, _, _, _ => by simp
  | none :: ks, o :: os, i, j, ys, h, h1 => by
    have h : refAt ks os i = none := by simpa [refAt] using h
    cases j with
    | zero => simp at h1
    | succ j => simpa using refAt_none h (by simpa using h1)
  | some m :: ks, o :: os, i, j, ys, h, h1 => by
    cases j with
    | zero =>
      simp at h1; subst h1
      intro z
      simp at z; subst z
      simp [refAt] at h
    | succ j =>
      have : refAt ks os i = none := by
        cases o with
        | un => simpa [refAt] using h
        | d _ => simpa [refAt] using h
        | scr _ => simpa [refAt] using h
        | own b zs =>
          cases b with
          | false => simpa [refAt] using h
          | true =>
            unfold refAt at h
            split at h
            · cases h
            · exact h
      simpa using refAt_none this (by simpa using h1)
theorem putBack_get {os : Ga} {i : Nat} {s : Sl} (h : (putBack Γ ks os)[i]? = some s) : ∃ s0, Γ[i]? = some s0 ∧ s = putB ks os i s0 := by
  unfold putBack at h
  rw [List.getElem?_mapIdx] at h
  obtain ⟨s0, h1, h2⟩ := Option.map_eq_some_iff.mp h
  exact ⟨s0, h1, h2.symm⟩
/-- behind the call -/
theorem env_back {Γo : Ga} {H0' H' : Hp} (ok : EnvOk K B σ Γ H0 H) (r : ArgR K H0 σ vs ks xs) (h : argSl Γ ks xs = .ok Γa) (nd : (ks.filterMap id).Nodup) (ok' : EnvOk K (Bof H0 H vs Γa) (vs.map some) Γo H0' H') (sh : Shape Γa Γo) :
    EnvOk K B σ (putBack Γ ks Γo) H0' H' ∧ Grow (OwnOf σ Γ) H0 H H0' H' ∧ Less Γ (putBack Γ ks Γo) := by
  have g : Grow (OwnOf σ Γ) H0 H H0' H' := ok'.grow.wide fun p ⟨j, hj⟩ => by
    obtain ⟨b, ys, h1, h2⟩ := of_io hj
    obtain ⟨v, e1, q⟩ := arg_get r h j _ h1
    rw [h2] at e1; cases e1
    rcases q with ⟨y, e, _⟩ | ⟨i, _, es, e⟩
    · cases e
    · obtain ⟨_, c, hc⟩ := refSl_own e
      exact ⟨i, c, ys, hc, es⟩
  refine ⟨ok.step g ok'.sub (fun i x hi => ?_) (fun i ns hi => ?_) (fun i b ys hi => ?_) (by simp [putBack]), g, fun i b ys hi => ?_⟩
  · obtain ⟨s0, h1, h2⟩ := putBack_get hi
    cases s0 <;> simp [putB] at h2
    subst h2; exact .inl h1
  · obtain ⟨s0, h1, h2⟩ := putBack_get hi
    cases s0 <;> simp [putB] at h2
    subst h2; exact h1
  · obtain ⟨s0, h1, h2⟩ := putBack_get hi
    cases s0 with
    | un => simp [putB] at h2
    | d _ => simp [putB] at h2
    | scr _ => simp [putB] at h2
    | own c zs =>
      simp only [putB, Sl.own.injEq] at h2
      obtain ⟨rfl, h2⟩ := h2
      refine ⟨zs, h1, fun a ea => ?_⟩
      obtain ⟨a', us, q1, q2, q3, q4, _⟩ := ok.own i _ _ h1
      rw [ea] at q1; cases q1
      cases hr : refAt ks Γo i with
      | some ws =>
        rw [hr] at h2
        simp at h2; subst h2
        obtain ⟨j, k1, k2⟩ := refAt_some hr
        obtain ⟨p, vs', p1, p2, p3, p4, p5, _⟩ := ok'.own j _ _ k2
        obtain ⟨b', ys', z1, z2⟩ := of_io (p5 rfl)
        obtain ⟨v, e1, q⟩ := arg_get r h j _ z1
        rw [z2] at e1; cases e1
        rcases q with ⟨y, e, _⟩ | ⟨i', ki, es, e⟩
        · cases e
        · rw [k1] at ki; cases ki
          rw [ea] at es; cases es
          exact ⟨p2, vs', p3, p4⟩
      | none =>
        rw [hr] at h2
        simp at h2; subst h2
        have no : ¬ ∃ j, (Bof H0 H vs Γa).io j = some a := fun ⟨j, hj⟩ => by
          obtain ⟨b', ys', z1, z2⟩ := of_io hj
          obtain ⟨v, e1, q⟩ := arg_get r h j _ z1
          rw [z2] at e1; cases e1
          rcases q with ⟨y, e, _⟩ | ⟨i', ki, es, e⟩
          · cases e
          · obtain ⟨rfl, c, hc⟩ := refSl_own e
            by_cases hii : i' = i
            · subst hii
              obtain ⟨ws, hw⟩ := sh j _ _ z1
              exact refAt_none hr ki hw
            · exact ok.apart i' i _ _ _ _ a hii hc h1 es ea
        exact ⟨by rw [ok'.grow.old a (by show H a ≠ none; rw [q3]; simp) no]; exact q2, us, ok'.grow.keep a _ q3 no, q4.m g.ex0⟩
  · obtain ⟨s0, h1, h2⟩ := putBack_get hi
    cases s0 with
    | un => simp [putB] at h2
    | d _ => simp [putB] at h2
    | scr _ => simp [putB] at h2
    | own c zs =>
      simp only [putB, Sl.own.injEq] at h2
      obtain ⟨rfl, h2⟩ := h2
      exact ⟨zs, h1⟩
end
def callS (m : Ga → Res (Ga × R)) (ks : List (Option Nat)) (s : Ga → Res (Ga × List D)) : Ga → Res (Ga × R) := fun Γ => (s Γ).bind fun p => (argSl p.1 ks p.2).bind fun Γa => (m Γa).bind fun q => .ok (putBack p.1 ks q.1, q.2)
section
variable {X : Cx} {E : XK} {k : Nat} {f : Addr} {fd : FuncData} {ps : List Str} {m : Ga → Res (Ga × R)} {x : Str} {p pos : Pos} {e : Expr} {es : List Expr} {ks : List (Option Nat)} {s : Ga → Res (Ga × List D)}
theorem call_sound {t : TA} (sh : ∀ Γ Γ' r, m Γ = .ok (Γ', r) → Shape Γ Γ') (nd : (ks.filterMap id).Nodup) (hl : ks.length = ps.length) (ha : ∀ B σ Γ H0 H Q, EnvOk X.K B σ Γ H0 H → PW' X B E σ ks Γ H0 H (s Γ) Q → t σ H Q) :
    ∀ B σ Γ H0 H Q, EnvOk X.K B σ Γ H0 H → EW X B E σ Γ H0 H (callS m ks s Γ) Q → t σ H (fun vs H1 => spD X.K X.mg ps.length m vs H1 Q E) := fun B σ Γ H0 H Q ok w => by
  refine p_then ha wok_E ok w fun Γ1 xs vs H01 H1 w1 ok1 g1 l1 r1 => ?_
  cases hA : argSl Γ1 ks xs with
  | stuck => simp only [hA] at w1; exact w1.elim
  | exc c y =>
    exfalso
    have none_exc : ∀ (ks : List (Option Nat)) (xs : List D) c y, argSl Γ1 ks xs ≠ .exc c y := by
      intro ks
      induction ks with
      | nil => intro xs c y h; cases xs <;> cases h
      | cons a ks ih =>
        intro xs c y h
        cases a with
        | none =>
          cases xs with
          | nil => cases h
          | cons z zs =>
            unfold argSl at h
            cases hr : argSl Γ1 ks zs with
            | stuck => rw [hr] at h; cases h
            | exc _ _ => exact ih _ _ _ hr
            | ok _ => rw [hr] at h; cases h
        | some i =>
          unfold argSl at h
          cases hi : refSl Γ1 i with
          | stuck => rw [hi] at h; cases h
          | exc _ _ => unfold refSl at hi; split at hi <;> cases hi
          | ok s0 =>
            rw [hi] at h
            cases hr : argSl Γ1 ks xs with
            | stuck => simp only [bind_ok, hr] at h; cases h
            | exc _ _ => exact ih _ _ _ hr
            | ok _ => simp only [bind_ok, hr] at h; cases h
    exact none_exc _ _ _ _ hA
  | ok Γa =>
    simp only [hA, bind_ok] at w1
    refine ⟨by rw [(arg_len r1 hA).2, hl], H01, Γa, env_args ok1 r1 hA nd, ?_⟩
    cases hm : m Γa with
    | stuck => rw [hm] at w1; exact w1.elim
    | exc c y =>
      rw [hm] at w1
      exact fun C d v H0' H' h1 h2 h3 h4 h5 => w1 C d v H0' H' h1 h2 h3 h4 (ok1.grow.trans h5 fun p ⟨j, hj⟩ => by
        obtain ⟨b, ys, z1, z2⟩ := of_io hj
        obtain ⟨v, e1, q⟩ := arg_get r1 hA j _ z1
        rw [z2] at e1; cases e1
        rcases q with ⟨y, e, _⟩ | ⟨i, _, es, e⟩
        · cases e
        · obtain ⟨_, c, hc⟩ := refSl_own e
          exact ok1.ioOr ⟨i, c, ys, hc, es⟩)
    | ok q =>
      obtain ⟨Γo, z⟩ := q
      rw [hm] at w1
      intro v H0' H' ok' rv
      obtain ⟨b1, b2, b3⟩ := env_back ok1 r1 hA nd ok' (sh _ _ _ hm)
      exact w1 v H0' H' b1 b2 b3 rv
/-- f(..), f a def of the text -/
theorem je_call (F : FD X.prog X.w X.K X.mg X.base k f fd ps m) (hr : Room k X.A) (hq : X.A.guards = some []) (hg : Gl X x) (hm : X.mg x = some (.ref f)) (hk : PySem.W.keepIn X.K (.ref f) = true) (hb : Binds X.K fd ps []) (tk : Takes X fun cls d _ H => E cls d H) (ha : JP X E (e :: es) ks s) (nd : (ks.filterMap id).Nodup) (hl : ks.length = ps.length)
    (hdb : (x == ("__debug__" : Str)) = false := by decide) (he : starEach (e :: es) X.env = (false, eval e X.env) :: starEach es X.env := by rfl) (hpl : (backTo pos (starEach es X.env)).any (·.1) = false := by rfl) :
    JE X E (.Call (.Name x p) (e :: es) [] pos) (callS m ks s) := by
  obtain ⟨t, pp, hs⟩ := ha.ex
  exact ⟨_, pe_G F.ok hr hq hg hm hk hb tk pp hdb he hpl, call_sound F.shape nd hl hs⟩
theorem je_call0 (F : FD X.prog X.w X.K X.mg X.base k f fd [] m) (hr : Room k X.A) (hq : X.A.guards = some []) (hg : Gl X x) (hm : X.mg x = some (.ref f)) (hk : PySem.W.keepIn X.K (.ref f) = true) (hb : Binds X.K fd [] []) (tk : Takes X fun cls d _ H => E cls d H) (hdb : (x == ("__debug__" : Str)) = false := by decide) :
    JE X E (.Call (.Name x p) [] [] pos) (callS m [] sNil) :=
  ⟨_, pe_G0 F.ok hr hq hg hm hk hb tk hdb, fun B σ Γ H0 H Q ok w => call_sound (X := X) (E := E) (ps := []) (ks := []) (t := tNil) (s := sNil) F.shape .nil rfl (fun B σ Γ H0 H Q ok w => w [] H0 H ok (Grow.refl _ _ _) (Less.refl _) .nil) B σ Γ H0 H Q ok w⟩
end

/-! ### a def by its body -/
/-- the parameters behind the body: those handed by reference -/
def outs : Ga → Ga → Res Ga
  | [], _ => .ok []
  | .own true _ :: r, .own true ys :: q => (outs r q).bind fun z => .ok (.own true ys :: z)
  | .own _ _ :: _, _ => .stuck
  | s :: r, _ :: q => (outs r q).bind fun z => .ok (s :: z)
  | _ :: _, [] => .stuck
def endF (Γ : Ga) (p : Ga × Fl) : Res (Ga × R) := match p.2 with
  | .nx => (outs Γ p.1).bind fun z => .ok (z, .d .none)
  | .rt r => (outs Γ p.1).bind fun z => .ok (z, r)
  | _ => .stuck
/-- the def of n parameters and l further names -/
def defS (n l : Nat) (body : Ga → Res (Ga × Fl)) : Ga → Res (Ga × R) := fun Γ => if Γ.length = n then (body (Γ ++ List.replicate l .un)).bind (endF Γ) else .stuck
theorem outs_ok : ∀ {Γ Γ1 Γ' : Ga}, outs Γ Γ1 = .ok Γ' → Γ'.length = Γ.length ∧ ∀ (i : Nat) s, Γ'[i]? = some s → (Γ[i]? = some s ∧ ∀ b xs, s ≠ .own b xs) ∨ ∃ xs ys, s = .own true ys ∧ Γ[i]? = some (.own true xs) ∧ Γ1[i]? = some (.own true ys)
  | [], _, _, h => by cases h; exact ⟨rfl, fun i s h => by simp at h⟩
  | s0 :: r, [], _, h => by cases s0 with
    | own b _ => cases b <;> cases h
    | _ => cases h
  | s0 :: r, s1 :: q, Γ', h => by
    have go : ∀ {s2 : Sl}, (outs r q).bind (fun z => .ok (s2 :: z)) = .ok Γ' → ((s0 = s2 ∧ ∀ b xs, s2 ≠ .own b xs) ∨ ∃ xs ys, s2 = .own true ys ∧ s0 = .own true xs ∧ s1 = .own true ys) →
        Γ'.length = (s0 :: r).length ∧ ∀ (i : Nat) s, Γ'[i]? = some s → ((s0 :: r)[i]? = some s ∧ ∀ b xs, s ≠ .own b xs) ∨ ∃ xs ys, s = .own true ys ∧ (s0 :: r)[i]? = some (.own true xs) ∧ (s1 :: q)[i]? = some (.own true ys) := fun {s2} h hd => by
      cases hz : outs r q with
      | stuck => rw [hz] at h; cases h
      | exc _ _ => rw [hz] at h; cases h
      | ok z =>
        rw [hz] at h; cases h
        obtain ⟨hl, ih⟩ := outs_ok hz
        refine ⟨by simp [hl], fun i s hi => ?_⟩
        cases i with
        | zero =>
          simp at hi; subst hi
          rcases hd with ⟨e, n⟩ | ⟨xs, ys, e1, e2, e3⟩
          · exact .inl ⟨by simp [e], n⟩
          · exact .inr ⟨xs, ys, e1, by simp [e2], by simp [e3]⟩
        | succ i =>
          rcases ih i s (by simpa using hi) with ⟨e, n⟩ | ⟨xs, ys, e1, e2, e3⟩
          · exact .inl ⟨by simpa using e, n⟩
          · exact .inr ⟨xs, ys, e1, by simpa using e2, by simpa using e3⟩
    cases s0 with
    | un => exact go (s2 := .un) h (.inl ⟨rfl, fun _ _ z => nomatch z⟩)
    | d x => exact go (s2 := .d x) h (.inl ⟨rfl, fun _ _ z => nomatch z⟩)
    | scr x => exact go (s2 := .scr x) h (.inl ⟨rfl, fun _ _ z => nomatch z⟩)
    | own b xs =>
      cases b with
      | false => cases s1 <;> cases h
      | true =>
        cases s1 with
        | own c ys =>
          cases c with
          | true => exact go (s2 := .own true ys) h (.inr ⟨xs, ys, rfl, rfl, rfl⟩)
          | false => cases h
        | _ => cases h
theorem outs_shape {Γ Γ1 Γ' : Ga} (h : outs Γ Γ1 = .ok Γ') (n : ∀ (i : Nat) xs, Γ[i]? ≠ some (.own false xs)) : Shape Γ Γ' := fun k b xs hk => by
  obtain ⟨hl, ho⟩ := outs_ok h
  have hk' : k < Γ'.length := by rw [hl]; exact (List.getElem?_eq_some_iff.mp hk).1
  rcases ho k _ (List.getElem?_eq_getElem hk') with ⟨e, z⟩ | ⟨xs', ys, e1, e2, e3⟩
  · rw [hk] at e
    exact absurd (Option.some.inj e).symm (z b xs)
  · rw [hk] at e2; cases e2
    exact ⟨ys, by rw [List.getElem?_eq_getElem hk', e1]⟩
theorem outs_nofalse : ∀ {Γ Γ1 Γ' : Ga}, outs Γ Γ1 = .ok Γ' → ∀ (i : Nat) xs, Γ[i]? ≠ some (.own false xs)
  | [], _, _, _, i, xs, h => by simp at h
  | s0 :: r, [], _, h, _, _, _ => by cases s0 with
    | own b _ => cases b <;> cases h
    | _ => cases h
  | s0 :: r, s1 :: q, Γ', h, i, xs, hi => by
    have go : ∀ {s2 : Sl}, (outs r q).bind (fun z => .ok (s2 :: z)) = .ok Γ' → (∀ xs, s0 ≠ .own false xs) → False := fun {s2} h hd => by
      cases hz : outs r q with
      | stuck => rw [hz] at h; cases h
      | exc _ _ => rw [hz] at h; cases h
      | ok z =>
        cases i with
        | zero => simp at hi; exact hd xs hi
        | succ i => exact outs_nofalse hz i xs (by simpa using hi)
    cases s0 with
    | un => exact go (s2 := .un) h (fun _ z => nomatch z)
    | d x => exact go (s2 := .d x) h (fun _ z => nomatch z)
    | scr x => exact go (s2 := .scr x) h (fun _ z => nomatch z)
    | own b ys =>
      cases b with
      | false => cases s1 <;> cases h
      | true =>
        cases s1 with
        | own c ys =>
          cases c with
          | true => exact go (s2 := .own true ys) h (fun _ z => nomatch z)
          | false => cases h
        | _ => cases h
theorem defS_shape {n l : Nat} {body : Ga → Res (Ga × Fl)} (Γ Γ' : Ga) (r : R) (h : defS n l body Γ = .ok (Γ', r)) : Shape Γ Γ' := by
  unfold defS at h
  split at h
  · cases hb : body (Γ ++ List.replicate l .un) with
    | stuck => rw [hb] at h; cases h
    | exc _ _ => rw [hb] at h; cases h
    | ok p =>
      obtain ⟨Γ1, fl⟩ := p
      rw [hb] at h
      have go : ∀ {r'}, (outs Γ Γ1).bind (fun z => .ok (z, r')) = .ok (Γ', r) → Shape Γ Γ' := fun {r'} h => by
        cases hz : outs Γ Γ1 with
        | stuck => rw [hz] at h; cases h
        | exc _ _ => rw [hz] at h; cases h
        | ok z => rw [hz] at h; cases h; exact outs_shape hz (outs_nofalse hz)
      cases fl with
      | nx => exact go h
      | rt _ => exact go h
      | bk => cases h
      | ct => cases h
  · cases h
section
variable {P : Program} {w : World} {K : PySem.W.Frag} {mg : Str → Option Value} {base : Heap}
/-- THE RULE for a def -/
theorem fd_of {x qual : Str} {st : Stmt} {f : Addr} {fd : FuncData} {N ps : List Str} {k : Nat} {body : Ga → Res (Ga × Fl)} (F : Fun K x qual st f fd) (S : FnScope N ps (defScope st))
    (hbody : ∀ (cdv : Value) (A : Around) (outer : List Env) (s : Shared) (H : Hp) (E : XK), Room k (A.deeper (envOfC qual (defScope st) s.heap.objs.size f cdv)) → A.guards = some [] →
      JSs (cxOf (L2.CX P w) P w K mg base N qual (defScope st) f cdv A outer s H E) E (defBody st) body) : FD P w K mg base (k + 1) f fd ps (defS ps.length (N.length - ps.length) body) := by
  refine ⟨fnG_of F S (fun vs H Q E h => h.1) fun cdv A outer s H vs Q E hr hq h => ?_, fun Γ Γ' r h => defS_shape Γ Γ' r h⟩
  obtain ⟨t, p, hs⟩ := (hbody cdv A outer s H E hr hq).ex
  obtain ⟨hlen, H0, Γ, ok, w⟩ := h
  refine ⟨t, p, ?_⟩
  have hG : Γ.length = vs.length := by rw [ok.len, List.length_map]
  have hpl : ps.length ≤ N.length := by have := congrArg List.length S.pre; rw [List.length_take] at this; omega
  have hst : L2.start N vs = vs.map some ++ List.replicate (N.length - ps.length) none := by unfold L2.start; rw [hlen]
  have back : ∀ {Γ2 : Ga} {i : Nat} {s : Sl}, (Γ2 ++ List.replicate (N.length - ps.length) Sl.un)[i]? = some s → (i < Γ2.length ∧ Γ2[i]? = some s) ∨ s = .un := fun {Γ2 i s} h => by
    by_cases hi : i < Γ2.length
    · rw [List.getElem?_append_left hi] at h; exact .inl ⟨hi, h⟩
    · rw [List.getElem?_append_right (by omega), List.getElem?_replicate] at h
      split at h <;> cases h
      exact .inr rfl
  have fw : ∀ {i : Nat} {v : V}, i < Γ.length → (vs.map some)[i]? = some (some v) → (L2.start N vs)[i]? = some (some v) := fun {i v} hi e => by
    rw [hst, List.getElem?_append_left (by simpa [← hG] using hi)]; exact e
  have bk : ∀ {i : Nat} {v : V}, i < Γ.length → (L2.start N vs)[i]? = some (some v) → (vs.map some)[i]? = some (some v) := fun {i v} hi e => by
    rw [hst, List.getElem?_append_left (by simpa [← hG] using hi)] at e; exact e
  have ok1 : EnvOk K (Bof H0 H vs Γ) (L2.start N vs) (Γ ++ List.replicate (N.length - ps.length) Sl.un) H0 H := by
    refine ⟨ok.sub, by rw [hst]; simp [hG], fun i x h => ?_, fun i x h => ?_, fun i b x h => ?_, fun i j b c xs ys a hij h1 h2 => ?_, ok.grow⟩
    · rcases back h with ⟨hi, h⟩ | h
      · obtain ⟨v, e, r⟩ := ok.dat i x h
        exact ⟨v, fw hi e, r⟩
      · cases h
    · rcases back h with ⟨hi, h⟩ | h
      · obtain ⟨v, e, r⟩ := ok.scr i x h
        exact ⟨v, fw hi e, r⟩
      · cases h
    · rcases back h with ⟨hi, h⟩ | h
      · obtain ⟨a, us, e, r⟩ := ok.own i b x h
        exact ⟨a, us, fw hi e, r⟩
      · cases h
    · rcases back h1 with ⟨hi, h1⟩ | h
      · rcases back h2 with ⟨hj, h2⟩ | h
        · exact fun z1 z2 => ok.apart i j b c xs ys a hij h1 h2 (bk hi z1) (bk hj z2)
        · cases h
      · cases h
  refine hs (Bof H0 H vs Γ) _ _ H0 H _ ok1 ?_
  have w : FW K mg H0 H vs Γ E (defS ps.length (N.length - ps.length) body Γ) Q := w
  unfold defS at w
  rw [if_pos (by rw [hG, hlen])] at w
  cases hb : body (Γ ++ List.replicate (N.length - ps.length) .un) with
  | stuck => rw [hb] at w; exact w.elim
  | exc c y => rw [hb] at w; exact w
  | ok q =>
    obtain ⟨Γ1, fl⟩ := q
    rw [hb] at w
    have fin : ∀ {r : R} {σ1 : L2.St} {H01 H1 : Hp} {v : V}, FW K mg H0 H vs Γ E ((outs Γ Γ1).bind fun z => .ok (z, r)) Q → EnvOk K (Bof H0 H vs Γ) σ1 Γ1 H01 H1 → Ex H0 H01 → RVB K (Bof H0 H vs Γ) H01 H1 r v → Q v H1 := fun {r σ1 H01 H1 v} w o1 e1 rv => by
      cases hz : outs Γ Γ1 with
      | stuck => rw [hz] at w; exact w.elim
      | exc c y =>
        exfalso
        have : ∀ (Γ Γ1 : Ga) c y, outs Γ Γ1 ≠ .exc c y := by
          intro Γ
          induction Γ with
          | nil => intro Γ1 c y h; cases h
          | cons s0 r ih =>
            intro Γ1 c y h
            cases Γ1 with
            | nil => cases s0 with
              | own b _ => cases b <;> cases h
              | _ => cases h
            | cons s1 q =>
              have go : ∀ {s2 : Sl}, (outs r q).bind (fun z => .ok (s2 :: z)) = .exc c y → False := fun {s2} h => by
                cases hz : outs r q with
                | stuck => rw [hz] at h; cases h
                | exc _ _ => exact ih _ _ _ hz
                | ok _ => rw [hz] at h; cases h
              cases s0 with
              | un => exact go (s2 := .un) h
              | d x => exact go (s2 := .d x) h
              | scr x => exact go (s2 := .scr x) h
              | own b xs =>
                cases b with
                | false => cases s1 <;> cases h
                | true =>
                  cases s1 with
                  | own c ys =>
                    cases c with
                    | true => exact go (s2 := .own true ys) h
                    | false => cases h
                  | _ => cases h
        exact this _ _ _ _ hz
      | ok Γ' =>
        rw [hz] at w
        obtain ⟨hl', ho⟩ := outs_ok hz
        refine w v H01 H1 ?_ ?_
        · refine ⟨o1.sub, by rw [hl', hG, List.length_map], fun i x h => ?_, fun i x h => ?_, fun i b x h => ?_, fun i j b c xs ys a hij h1 h2 => ?_, o1.grow⟩
          · rcases ho i _ h with ⟨e, _⟩ | ⟨xs, ys, e1, _⟩
            · obtain ⟨v, e2, r2⟩ := ok.dat i x e
              exact ⟨v, e2, r2.m e1⟩
            · cases e1
          · rcases ho i _ h with ⟨e, _⟩ | ⟨xs, ys, e1, _⟩
            · obtain ⟨v, e2, r2⟩ := ok.scr i x e
              exact ⟨v, e2, ex_l e1 r2⟩
            · cases e1
          · rcases ho i _ h with ⟨e, n⟩ | ⟨xs, ys, e1, e2, e3⟩
            · exact absurd rfl (n b x)
            · cases e1
              obtain ⟨a, us, q1, q2, q3, q4, q5, q6⟩ := o1.own i _ _ e3
              obtain ⟨b', ys', z1, z2⟩ := of_io (q5 rfl)
              exact ⟨a, us, by simp [z2], q2, q3, q4, q5, q6⟩
          · rcases ho i _ h1 with ⟨e, n⟩ | ⟨xs', ys', e1, e2, e3⟩
            · exact absurd rfl (n b xs)
            · rcases ho j _ h2 with ⟨e, n⟩ | ⟨xs'', ys'', e1', e2', e3'⟩
              · exact absurd rfl (n c ys)
              · exact ok.apart i j _ _ _ _ a hij e2 e2'
        · cases rv with
          | d r => exact .d r
          | f h1 h2 h3 h4 => exact .f h1 h2 h3 h4
    intro σ1 H01 H1 o1 e1
    cases fl with
    | nx => exact fin (r := .d .none) (v := .non) w o1 e1 (.d .non)
    | rt r => exact fun v rv => fin w o1 e1 rv
    | bk => exact w.elim
    | ct => exact w.elim
end
end Mi
namespace Mi
open PySem PySem.Spec PyProof.Rows L2 Evl

section
variable {X : Cx} {E : XK} {e a b c d : Expr} {pos pos' apos cpos : Pos} {B : Bg} {σ : L2.St} {Γ : Ga} {H0 H : Hp}
/-! ### lists of the def's own -/
def ownAt (Γ : Ga) (i : Nat) : Option (Bool × List D) := match Γ[i]? with
  | some (.own b xs) => some (b, xs)
  | _ => none
theorem ownAt_eq {i : Nat} {b : Bool} {xs : List D} (h : ownAt Γ i = some (b, xs)) : Γ[i]? = some (.own b xs) := by
  unfold ownAt at h
  split at h
  · cases h; assumption
  · cases h
def sAppend (i : Nat) (s : Ga → Res (Ga × D)) : Ga → Res (Ga × R) := fun Γ => match ownAt Γ i with
  | some _ => (s Γ).bind fun p => match ownAt p.1 i with
    | some (b, xs) => if xs.length < sizeLine then .ok (p.1.set i (.own b (xs ++ [p.2])), .d .none) else .stuck
    | none => .stuck
  | none => .stuck
theorem own_same {K : PySem.W.Frag} {Γ1 : Ga} {H01 H1 : Hp} {i : Nat} {b b' : Bool} {xs ys : List D} {p : Addr} (e : σ[i]? = some (some (.ref p))) (ok1 : EnvOk K B σ Γ1 H01 H1) (h : Γ1[i]? = some (.own b' ys)) : ∃ vs, H1 p = some (.lst vs) ∧ H01 p = none ∧ RpAll K H01 vs ys := by
  obtain ⟨q, vs, q1, q2, q3, q4, _⟩ := ok1.own i _ _ h
  rw [e] at q1; cases q1
  exact ⟨vs, q3, q2, q4⟩
/-- x.append(e) -/
theorem je_append {i : Nat} {s : Ga → Res (Ga × D)} (hp : PE X a (tVar i)) (h : JD X E e s)
    (hbase : attributeBase a "append" X.env (eval a X.env) = eval a X.env := by rfl)
    (hfew : ((backTo cpos (starEach (e :: []) X.env)).all (fun x => !x.1) && (backToKw cpos (keywordEach [] X.env)).all (fun x => x.1.isSome)
      && decide ((e :: []).length + ([] : List Keyword).length + (if ([] : List Keyword).isEmpty then 0 else 1) < 30)) = true := by rfl)
    (hline : (apos.endLine == cpos.line) = true := by rfl) (hs : starEach (e :: []) X.env = (false, eval e X.env) :: starEach [] X.env := by rfl) (hplain : (backTo cpos (starEach [] X.env)).any (·.1) = false := by rfl) :
    JE X E (.Call (.Attribute a "append" apos) [e] [] cpos) (sAppend i s) := by
  obtain ⟨t, p, ha⟩ := h.ex
  refine ⟨_, pe_bm PySem.F.plainAttrs_list PySem.F.slot_list_append PySem.F.type_list_append mt_append hp (pa_cons p pa_nil hs) hbase hfew hline hs hplain, fun B σ Γ H0 H Q ok w => ?_⟩
  unfold sAppend at w
  split at w
  · rename_i bx hbx
    obtain ⟨b0, xs0⟩ := bx
    obtain ⟨q, us, q1, q2, q3, q4, _⟩ := ok.own i _ _ (ownAt_eq hbx)
    refine ⟨.ref q, q1, .inl ⟨rfl, us, SqL.of q3⟩, ?_⟩
    show t σ H fun y H2 => rAppend (.ref q) [y] H2 Q
    refine d_then ha wok_E ok w fun Γ1 x v H01 H1 w1 ok1 g1 l1 r1 => ?_
    split at w1
    · rename_i b xs hx
      split at w1
      · rename_i hz
        have hx := ownAt_eq hx
        obtain ⟨vs, h1, h2, h3⟩ := own_same (xs := xs0) (b := b0) q1 ok1 hx
        refine ⟨q, vs, v, rfl, rfl, h1, by rw [h3.len]; exact hz, ?_⟩
        exact w1 .non H01 _ (ok1.setOwn hx q1 (h3.app (.one r1))) (Grow.own hx q1) (Less.setOwn hx) (.d .non)
      · exact w1.elim
    · exact w1.elim
  · exact w.elim
/-- x.pop() -/
def sPop (i : Nat) : Ga → Res (Ga × D) := fun Γ => match ownAt Γ i with
  | some (b, xs) => (match xs.getLast? with | some x => .ok (Γ.set i (.own b xs.dropLast), x) | none => .stuck)
  | none => .stuck
theorem jd_pop {i : Nat} (hp : PE X a (tVar i)) (hbase : attributeBase a "pop" X.env (eval a X.env) = eval a X.env := by rfl) (hline : (apos.endLine == cpos.line) = true := by rfl) :
    JD X E (.Call (.Attribute a "pop" apos) [] [] cpos) (sPop i) := by
  refine ⟨_, pe_bm0 PySem.F.plainAttrs_list PySem.F.slot_list_pop PySem.F.type_list_pop mt_pop hp hbase hline, fun B σ Γ H0 H Q ok w => ?_⟩
  unfold sPop at w
  split at w
  · rename_i b xs hx
    have hx := ownAt_eq hx
    split at w
    · rename_i x hl
      obtain ⟨q, us, q1, q2, q3, q4, _⟩ := ok.own i _ _ hx
      rw [List.getLast?_eq_getElem?] at hl
      obtain ⟨v, e1, r⟩ := q4.get hl
      refine ⟨.ref q, q1, .inl ⟨rfl, us, SqL.of q3⟩, q, us, v, rfl, rfl, q3, by rw [q4.len]; exact e1, ?_⟩
      exact w v H0 _ (ok.setOwn hx q1 q4.dropLast) (Grow.own hx q1) (Less.setOwn hx) r
    · exact w.elim
  · exact w.elim
/-- x.pop(e) -/
noncomputable def sPopAt (i : Nat) (s : Ga → Res (Ga × D)) : Ga → Res (Ga × D) := fun Γ => match ownAt Γ i with
  | some _ => (s Γ).bind fun p => match ownAt p.1 i, p.2 with
    | some (b, xs), .int k => if okB (-(2 ^ 63) ≤ k ∧ k < 2 ^ 63) = true then (match ixN xs.length k with
      | some j => (match xs[j]? with | some x => .ok (p.1.set i (.own b (xs.eraseIdx j)), x) | none => .stuck)
      | none => .stuck) else .stuck
    | _, _ => .stuck
  | none => .stuck
theorem jd_popAt {i : Nat} {s : Ga → Res (Ga × D)} (hp : PE X a (tVar i)) (h : JD X E e s)
    (hbase : attributeBase a "pop" X.env (eval a X.env) = eval a X.env := by rfl)
    (hfew : ((backTo cpos (starEach (e :: []) X.env)).all (fun x => !x.1) && (backToKw cpos (keywordEach [] X.env)).all (fun x => x.1.isSome)
      && decide ((e :: []).length + ([] : List Keyword).length + (if ([] : List Keyword).isEmpty then 0 else 1) < 30)) = true := by rfl)
    (hline : (apos.endLine == cpos.line) = true := by rfl) (hs : starEach (e :: []) X.env = (false, eval e X.env) :: starEach [] X.env := by rfl) (hplain : (backTo cpos (starEach [] X.env)).any (·.1) = false := by rfl) :
    JD X E (.Call (.Attribute a "pop" apos) [e] [] cpos) (sPopAt i s) := by
  obtain ⟨t, p, ha⟩ := h.ex
  refine ⟨_, pe_bm PySem.F.plainAttrs_list PySem.F.slot_list_pop PySem.F.type_list_pop mt_popAt hp (pa_cons p pa_nil hs) hbase hfew hline hs hplain, fun B σ Γ H0 H Q ok w => ?_⟩
  unfold sPopAt at w
  split at w
  · rename_i bx hbx
    obtain ⟨b0, xs0⟩ := bx
    obtain ⟨q, us, q1, q2, q3, q4, _⟩ := ok.own i _ _ (ownAt_eq hbx)
    refine ⟨.ref q, q1, .inl ⟨rfl, us, SqL.of q3⟩, ?_⟩
    show t σ H fun y H2 => rPopAt (.ref q) [y] H2 Q
    refine d_then ha wok_D ok w fun Γ1 x v H01 H1 w1 ok1 g1 l1 r1 => ?_
    split at w1
    · rename_i b xs k hx hk
      have hk : x = .int k := hk
      subst hk
      cases r1
      split at w1
      · rename_i hz
        have hz := okB_iff.mp hz
        split at w1
        · rename_i j hj
          split at w1
          · rename_i y hy
            have hx := ownAt_eq hx
            obtain ⟨vs, h1, h2, h3⟩ := own_same (xs := xs0) (b := b0) q1 ok1 hx
            obtain ⟨yv, e1, ry⟩ := h3.get hy
            have hj' : ixN vs.length k = some j := by rw [h3.len]; exact hj
            refine ⟨q, vs, k, j, yv, rfl, rfl, h1, hz.1, hz.2, (ixN_seq hj').1, e1, ?_⟩
            exact w1 yv H01 _ (ok1.setOwn hx q1 (h3.eraseIdx j)) (Grow.own hx q1) (Less.setOwn hx) ry
          · exact w1.elim
        · exact w1.elim
      · exact w1.elim
    · exact w1.elim
  · exact w.elim
/-- x[k] = v -/
def sPut (i : Nat) (k v : Ga → Res (Ga × D)) : Ga → Res (Ga × Fl) := fun Γ => (v Γ).bind fun p => match ownAt p.1 i with
  | some _ => (k p.1).bind fun q => match ownAt q.1 i, q.2 with
    | some (b, xs), .int n => (match ixN xs.length n with | some j => .ok (q.1.set i (.own b (xs.set j p.2)), .nx) | none => .stuck)
    | _, _ => .stuck
  | none => .stuck
theorem js_put {i : Nat} {sk sv : Ga → Res (Ga × D)} {tpos : Pos} (hp : PE X a (tVar i)) (hk : JD X E b sk) (hv : JD X E e sv)
    (ha : ∀ v, assign (.Subscript a b tpos) X.env v = (do
      let ov ← holding [v] (eval a X.env)
      let iv ← holding [v, ov] (eval b X.env)
      standAt tpos
      holding [v, ov, iv] (setItem ov iv v)
      release [v, ov, iv] []) := by intro _; rfl)
    (hs : swapsWithSole [.Subscript a b tpos] e pos.line X.env = pure false := by rfl) (hw : swappedStores [.Subscript a b tpos] e X.env = pure none := by rfl)
    (h1 : (assignEach [.Subscript a b tpos] X.env).map (·.2) = [assign (.Subscript a b tpos) X.env] := by rfl) : JS X E (.Assign [.Subscript a b tpos] e pos) (sPut i sk sv) := by
  obtain ⟨t, p, hke⟩ := hk.ex
  obtain ⟨u, q, hve⟩ := hv.ex
  refine ⟨_, ps_asg q (pg_sub hp p set_list ha) hs hw h1, fun B σ Γ H0 H Dn ok w => ?_⟩
  unfold sPut at w
  show u σ H fun x H1 => ∃ o, σ[i]? = some (some o) ∧ t σ H1 fun n H2 => rSetL o n x H2 fun H3 => Dn.nx σ H3
  refine d_then hve wok_S ok w fun Γ1 x v H01 H1 w1 ok1 g1 l1 r1 => ?_
  split at w1
  · rename_i bx hbx
    obtain ⟨b0, xs0⟩ := bx
    obtain ⟨q, us, q1, q2, q3, q4, _⟩ := ok1.own i _ _ (ownAt_eq hbx)
    refine ⟨.ref q, q1, d_then hke wok_S ok1 w1 fun Γ2 n nv H02 H2 w2 ok2 g2 l2 r2 => ?_⟩
    split at w2
    · rename_i b xs k hx hk
      have hk : n = .int k := hk
      subst hk
      cases r2
      split at w2
      · rename_i j hj
        have hx := ownAt_eq hx
        obtain ⟨vs, h1, h2, h3⟩ := own_same (xs := xs0) (b := b0) q1 ok2 hx
        refine ⟨q, vs, k, j, rfl, rfl, h1, by rw [h3.len]; exact hj, ?_⟩
        exact w2 σ H02 _ (ok2.setOwn hx q1 (h3.set j (r1.m g2.ex0))) (Ex.refl _)
      · exact w2.elim
    · exact w2.elim
  · exact w1.elim
/-- x += e, ints -/
def sAug (g : Int → Int → Int) (i : Nat) (s : Ga → Res (Ga × D)) : Ga → Res (Ga × Fl) := fun Γ => match Γ[i]? with
  | some (.d (.int m)) => (s Γ).bind fun p => match p.2 with | .int n => .ok (p.1.set i (.d (.int (g m n))), .nx) | _ => .stuck
  | _ => .stuck
theorem js_aug {i : Nat} {x : Str} {op : Operator} {g : Int → Int → Int} {s : Ga → Res (Ga × D)} (ho : ∀ {X : Cx}, PIp X op (ipI g)) (hN : X.N.Nodup) (hi : X.N[i]? = some x) (hx : Loc X.env.scope x) (he : JD X E e s)
    (hf : X.fn x = true ∨ X.env.scope.names.lookup x = some .local := by first | exact .inl rfl | exact .inr rfl | assumption) : JS X E (.AugAssign (.Name x pos') op e pos) (sAug g i s) := by
  obtain ⟨t, p, ha⟩ := he.ex
  refine ⟨_, ps_aug hN hi hx p ho hf, fun B σ Γ H0 H Dn ok w => ?_⟩
  unfold sAug at w
  split at w
  · rename_i m hm
    obtain ⟨v, e1, r⟩ := ok.dat i _ hm
    cases r
    refine ⟨.int m, e1, d_then ha wok_S ok w fun Γ1 x v H01 H1 w1 ok1 g1 l1 r1 => ?_⟩
    split at w1
    · rename_i n hn
      have hn : x = .int n := hn
      subst hn
      cases r1
      exact ⟨m, n, rfl, rfl, w1 _ H01 H1 (ok1.setD i (.int _)) (Ex.refl _)⟩
    · exact w1.elim
  · exact w.elim
/-- x += [..], x a list of the def's own -/
def sExt (i : Nat) (s : Ga → Res (Ga × D)) : Ga → Res (Ga × Fl) := fun Γ => match ownAt Γ i with
  | some _ => (s Γ).bind fun p => match ownAt p.1 i, p.2 with
    | some (b, xs), .list ys => if xs.length + ys.length ≤ sizeLine then .ok (p.1.set i (.own b (xs ++ ys)), .nx) else .stuck
    | _, _ => .stuck
  | none => .stuck
theorem js_ext {i : Nat} {x : Str} {s : Ga → Res (Ga × D)} (hN : X.N.Nodup) (hi : X.N[i]? = some x) (hx : Loc X.env.scope x) (he : JD X E e s)
    (hf : X.fn x = true ∨ X.env.scope.names.lookup x = some .local := by first | exact .inl rfl | exact .inr rfl | assumption) : JS X E (.AugAssign (.Name x pos') .Add e pos) (sExt i s) := by
  obtain ⟨t, p, ha⟩ := he.ex
  refine ⟨_, ps_aug hN hi hx p (ti := rExt2) (fun pins s σ H x y v u Q I r1 r2 h => iop_ext pins s σ H x y v u Q I r1 r2 h) hf, fun B σ Γ H0 H Dn ok w => ?_⟩
  unfold sExt at w
  split at w
  · rename_i bx hbx
    obtain ⟨b0, xs0⟩ := bx
    obtain ⟨q, us, q1, q2, q3, q4, _⟩ := ok.own i _ _ (ownAt_eq hbx)
    refine ⟨.ref q, q1, d_then ha wok_S ok w fun Γ1 x v H01 H1 w1 ok1 g1 l1 r1 => ?_⟩
    split at w1
    · rename_i b xs ys hx hy
      have hy : x = .list ys := hy
      subst hy
      split at w1
      · rename_i hz
        have hx := ownAt_eq hx
        obtain ⟨vs, h1, h2, h3⟩ := own_same (xs := xs0) (b := b0) q1 ok1 hx
        cases r1 with
        | lst r1 r2 =>
          refine ⟨q, _, vs, _, rfl, rfl, h1, ok1.sub _ _ r1, by rw [h3.len, r2.len]; exact hz, ?_⟩
          have o2 := ok1.setOwn hx q1 (h3.app r2)
          have e : σ.set i (some (.ref q)) = σ := by
            apply List.ext_getElem?
            intro k
            by_cases hk : k = i
            · subst hk; rw [List.getElem?_set_self (List.getElem?_eq_some_iff.mp q1).1, q1]
            · rw [List.getElem?_set_ne (Ne.symm hk)]
          show Dn.nx (σ.set i (some (.ref q))) _
          rw [e]
          exact w1 σ H01 _ o2 (Ex.refl _)
      · exact w1.elim
    · exact w1.elim
  · exact w.elim

/-! ### a, b = x, y -/
inductive RVs (K : PySem.W.Frag) (H0 H H0' H' : Hp) : List R → List V → Prop
  | nil : RVs K H0 H H0' H' [] []
  | cons {r : R} {v : V} {rs : List R} {vs : List V} : RV K H0 H H0' H' r v → RVs K H0 H H0' H' rs vs → (∀ xs a, r = .f xs → v = .ref a → ∀ (j : Nat) ys, rs[j]? = some (.f ys) → vs[j]? ≠ some (.ref a)) → RVs K H0 H H0' H' (r :: rs) (v :: vs)
def RW (X : Cx) (B : Bg) (E : XK) (σ : L2.St) (Γ : Ga) (H0 H : Hp) (r : Res (Ga × List R)) (Q : List V → Hp → Prop) : Prop := match r with
  | .ok (Γ', xs) => ∀ vs H0' H', EnvOk X.K B σ Γ' H0' H' → Grow (OwnOf σ Γ) H0 H H0' H' → Less Γ Γ' → RVs X.K H0 H H0' H' xs vs → Q vs H'
  | .exc c x => XW X B E c x
  | .stuck => False
structure JR (X : Cx) (E : XK) (es : List Expr) (s : Ga → Res (Ga × List R)) : Prop where
  ex : ∃ t, PA X es t ∧ ∀ B σ Γ H0 H Q, EnvOk X.K B σ Γ H0 H → RW X B E σ Γ H0 H (s Γ) Q → t σ H Q
def sRNil : Ga → Res (Ga × List R) := fun Γ => .ok (Γ, [])
def sRCons (s : Ga → Res (Ga × R)) (r : Ga → Res (Ga × List R)) : Ga → Res (Ga × List R) := fun Γ => (s Γ).bind fun p => (r p.1).bind fun q => .ok (q.1, p.2 :: q.2)
theorem RVs.back {K : PySem.W.Frag} {H0 H H01 H1 H02 H2 : Hp} {r : List R} {v : List V} {O : Addr → Prop} (g : Grow O H0 H H01 H1) (h : RVs K H01 H1 H02 H2 r v) : RVs K H0 H H02 H2 r v := by
  induction h with
  | nil => exact .nil
  | cons h1 _ h3 ih => exact .cons (h1.back g) ih h3
theorem wok_R {Q : List V → Hp → Prop} : WOk X B E σ fun Γ H0 H r => RW X B E σ Γ H0 H r Q where
  exc := fun _ _ _ _ _ h => h
  stuck := fun _ _ _ h => h
  shift := fun Γ H0 H Γ1 H01 H1 r ok g l w => by
    cases r with
    | stuck => exact w
    | exc c x => exact w
    | ok p => exact fun v H0' H' o' g' l' r' => w v H0' H' o' (shift_g g l g') (l.trans l') (r'.back g)
theorem r_then {β : Type} {W : Ga → Hp → Hp → Res β → Prop} {t : TA} {s : Ga → Res (Ga × List R)} {f : Ga × List R → Res β} {Q : List V → Hp → Prop} (ha : ∀ B σ Γ H0 H Q, EnvOk X.K B σ Γ H0 H → RW X B E σ Γ H0 H (s Γ) Q → t σ H Q) (wo : WOk X B E σ W) (ok : EnvOk X.K B σ Γ H0 H) (w : W Γ H0 H ((s Γ).bind f))
    (k : ∀ Γ1 x v H01 H1, W Γ1 H01 H1 (f (Γ1, x)) → EnvOk X.K B σ Γ1 H01 H1 → Grow (OwnOf σ Γ) H0 H H01 H1 → Less Γ Γ1 → RVs X.K H0 H H01 H1 x v → Q v H1) : t σ H Q := by
  refine ha B σ Γ H0 H Q ok ?_
  cases hs : s Γ with
  | stuck => rw [hs] at w; exact (wo.stuck _ _ _ w).elim
  | exc c x => rw [hs] at w; exact wo.exc _ _ _ _ _ w
  | ok p =>
    rw [hs] at w
    exact fun v H01 H1 ok1 g l r => k _ _ v H01 H1 (wo.shift _ _ _ _ _ _ _ ok g l w) ok1 g l r
theorem RVs.fresh {K : PySem.W.Frag} {H0 H H0' H' : Hp} {rs : List R} {vs : List V} (h : RVs K H0 H H0' H' rs vs) : ∀ (j : Nat) ys a, rs[j]? = some (.f ys) → vs[j]? = some (.ref a) → H a = none := by
  induction h with
  | nil => intro j ys a h; simp at h
  | cons h1 _ _ ih =>
    intro j ys a e1 e2
    cases j with
    | zero =>
      simp at e1 e2; subst e1 e2
      cases h1 with
      | f n _ _ _ => exact n
    | succ j => exact ih j ys a (by simpa using e1) (by simpa using e2)
theorem jr_nil : JR X E [] sRNil := ⟨_, pa_nil, fun B σ Γ H0 H Q ok w => w [] H0 H ok (Grow.refl _ _ _) (Less.refl _) .nil⟩
theorem jr_cons {es : List Expr} {s : Ga → Res (Ga × R)} {r : Ga → Res (Ga × List R)} (h : JE X E e s) (hr : JR X E es r) (hs : starEach (e :: es) X.env = (false, eval e X.env) :: starEach es X.env := by rfl) : JR X E (e :: es) (sRCons s r) := by
  obtain ⟨t, p, ha⟩ := h.ex
  obtain ⟨u, q, hb⟩ := hr.ex
  refine ⟨_, pa_cons p q hs, fun B σ Γ H0 H Q ok w => ?_⟩
  show t σ H fun x H1 => u σ H1 fun xs H2 => Q (x :: xs) H2
  unfold sRCons at w
  cases hsG : s Γ with
  | stuck => rw [hsG] at w; exact w.elim
  | exc c x => rw [hsG] at w; exact ha B σ Γ H0 H _ ok (by rw [hsG]; exact w)
  | ok pr =>
    obtain ⟨Γ1, x⟩ := pr
    rw [hsG] at w
    refine ha B σ Γ H0 H _ ok (by
      rw [hsG]
      intro v H01 H1 ok1 g1 l1 r1
      have w1 : RW X B E σ Γ1 H01 H1 ((r Γ1).bind fun q => .ok (q.1, x :: q.2)) fun vs H' => ∃ H0' Γ', EnvOk X.K B σ Γ' H0' H' → True := by
        cases hr : r Γ1 with
        | stuck => simp only [hr, bind_ok, bind_stuck] at w; exact w.elim
        | exc c y => simp only [hr, bind_ok, bind_exc] at w; exact w
        | ok _ => exact fun _ _ _ _ _ _ _ => ⟨H01, Γ1, fun _ => trivial⟩
      -- the tail
      cases hrr : r Γ1 with
      | stuck => simp only [hrr, bind_ok, bind_stuck] at w; exact w.elim
      | exc c y =>
        simp only [hrr, bind_ok, bind_exc] at w
        exact hb B σ Γ1 H01 H1 _ ok1 (by rw [hrr]; exact w)
      | ok pq =>
        obtain ⟨Γ2, xs⟩ := pq
        simp only [hrr, bind_ok] at w
        refine hb B σ Γ1 H01 H1 _ ok1 (by
          rw [hrr]
          intro vs H02 H2 ok2 g2 l2 r2
          refine w (v :: vs) H02 H2 ok2 (shift_g g1 l1 g2) (l1.trans l2) ?_
          have hr2 := r2.back g1
          cases r1 with
          | d r1 => exact .cons (.d (r1.m g2.ex0)) hr2 fun _ _ z => nomatch z
          | @f ys a us n n0 e3 r3 =>
            have no : ¬ OwnOf σ Γ1 a := fun z => (ok.ownLive (l1.own z)).1 n
            refine .cons (.f n (by rw [g2.old a (by rw [e3]; simp) no]; exact n0) (g2.keep _ _ e3 no) (r3.m g2.ex0)) hr2 fun zs a' e4 e5 j ws e6 e7 => ?_
            cases e5
            have := r2.fresh j ws a e6 e7
            rw [e3] at this; cases this))
def sPar2 (i j : Nat) (s : Ga → Res (Ga × List R)) : Ga → Res (Ga × Fl) := fun Γ => (s Γ).bind fun p => match p.2 with
  | [x, y] => .ok ((p.1.set i (slotOf x)).set j (slotOf y), .nx)
  | _ => .stuck
def sPar3 (i j l : Nat) (s : Ga → Res (Ga × List R)) : Ga → Res (Ga × Fl) := fun Γ => (s Γ).bind fun p => match p.2 with
  | [x, y, z] => .ok (((p.1.set i (slotOf x)).set j (slotOf y)).set l (slotOf z), .nx)
  | _ => .stuck
theorem setR {K : PySem.W.Frag} {x : R} {v : V} {H0' H' : Hp} (i : Nat) (ok : EnvOk K B σ Γ H0' H') (r : RVB K B H0' H' x v) (no : ∀ xs a, x = .f xs → v = .ref a → ¬ OwnOf σ Γ a) : EnvOk K B (σ.set i (some v)) (Γ.set i (slotOf x)) H0' H' := by
  cases r with
  | d r => exact ok.setD i r
  | f h1 h2 h3 h4 => exact ok.setF i h1 h2 h3 h4 (no _ _ rfl rfl)
theorem RV.toB {K : PySem.W.Frag} {x : R} {v : V} {H0 H H0' H' : Hp} (ok : EnvOk K B σ Γ H0 H) (r : RV K H0 H H0' H' x v) : RVB K B H0' H' x v := by
  cases r with
  | d r => exact .d r
  | f h1 h2 h3 h4 => exact .f (RV.he ok h1) h2 h3 h4
theorem own_set {x : R} {v : V} {i : Nat} {p : Addr} (hl : Γ.length = σ.length) (h : OwnOf (σ.set i (some v)) (Γ.set i (slotOf x)) p) : OwnOf σ Γ p ∨ ∃ xs, x = .f xs ∧ v = .ref p := by
  obtain ⟨j, c, ys, h1, h2⟩ := h
  rcases set_back h1 with ⟨z1, z, hi⟩ | ⟨z1, z⟩
  · subst z1
    rw [set_at (by rw [← hl]; exact hi)] at h2
    cases x with
    | d _ => cases z
    | f xs => cases h2; exact .inr ⟨xs, rfl, rfl⟩
  · rw [List.getElem?_set_ne (Ne.symm z1)] at h2; exact .inl ⟨j, c, ys, z, h2⟩
theorem js_par2 {i j : Nat} {x y : Str} {s : Ga → Res (Ga × List R)} {px py pt : Pos} {kt k2 pt2} (hc : X.calm = true) (hN : X.N.Nodup) (hi : X.N[i]? = some x) (hj : X.N[j]? = some y) (hij : i ≠ j)
    (hx : X.env.scope.names.lookup x = some .local) (hy : X.env.scope.names.lookup y = some .local) (ha : JR X E [a, b] s)
    (hw : swappedStores [.Tuple [.Name x px, .Name y py] kt pt] (.Tuple [a, b] k2 pt2) X.env = pure (some [x, y]))
    (hs : swapsWithSole [.Tuple [.Name x px, .Name y py] kt pt] (.Tuple [a, b] k2 pt2) pos.line X.env = pure false := by rfl) :
    JS X E (.Assign [.Tuple [.Name x px, .Name y py] kt pt] (.Tuple [a, b] k2 pt2) pos) (sPar2 i j s) := by
  obtain ⟨t, p, he⟩ := ha.ex
  refine ⟨_, ps_par hc hN hi hj hij hx hy p hw hs, fun B σ Γ H0 H Dn ok w => ?_⟩
  show t σ H fun vs H1 => ∃ v w, vs = [v, w] ∧ Dn.nx ((σ.set i (some v)).set j (some w)) H1
  refine r_then he wok_S ok w fun Γ1 rs vs H01 H1 w1 ok1 g1 l1 r1 => ?_
  split at w1
  · rename_i x y hxy
    have hxy : rs = [x, y] := hxy
    subst hxy
    cases r1 with
    | @cons _ v _ vs r1 r2 d1 =>
      cases r2 with
      | @cons _ u _ us r2 r3 d2 =>
        cases r3
        refine ⟨v, u, rfl, w1 _ H01 H1 ?_ (Ex.refl _)⟩
        have o1 := setR i ok1 (r1.toB ok) fun xs a e1 e2 z => by
          subst e1 e2
          cases r1 with
          | f n _ _ _ => exact (ok.ownLive (l1.own z)).1 n
        refine setR j o1 (r2.toB ok) fun xs a e1 e2 z => ?_
        subst e1 e2
        rcases own_set ok1.len z with z | ⟨ys, z1, z2⟩
        · cases r2 with
          | f n _ _ _ => exact (ok.ownLive (l1.own z)).1 n
        · exact d1 ys a z1 z2 0 xs rfl rfl
  · exact w1.elim
theorem js_par3 {i j l : Nat} {x y z : Str} {s : Ga → Res (Ga × List R)} {px py pz pt : Pos} {kt k2 pt2} (hc : X.calm = true) (hN : X.N.Nodup) (hi : X.N[i]? = some x) (hj : X.N[j]? = some y) (hl : X.N[l]? = some z) (hij : i ≠ j) (hil : i ≠ l) (hjl : j ≠ l)
    (hx : X.env.scope.names.lookup x = some .local) (hy : X.env.scope.names.lookup y = some .local) (hz : X.env.scope.names.lookup z = some .local) (ha : JR X E [a, b, c] s)
    (hw : swappedStores [.Tuple [.Name x px, .Name y py, .Name z pz] kt pt] (.Tuple [a, b, c] k2 pt2) X.env = pure (some [x, y, z]))
    (hs : swapsWithSole [.Tuple [.Name x px, .Name y py, .Name z pz] kt pt] (.Tuple [a, b, c] k2 pt2) pos.line X.env = pure false := by rfl) :
    JS X E (.Assign [.Tuple [.Name x px, .Name y py, .Name z pz] kt pt] (.Tuple [a, b, c] k2 pt2) pos) (sPar3 i j l s) := by
  obtain ⟨t, p, he⟩ := ha.ex
  refine ⟨_, ps_par3 hc hN hi hj hl hij hil hjl hx hy hz p hw hs, fun B σ Γ H0 H Dn ok w => ?_⟩
  show t σ H fun vs H1 => ∃ u v w, vs = [u, v, w] ∧ Dn.nx (((σ.set i (some u)).set j (some v)).set l (some w)) H1
  refine r_then he wok_S ok w fun Γ1 rs vs H01 H1 w1 ok1 g1 l1 r1 => ?_
  split at w1
  · rename_i x y z hxy
    have hxy : rs = [x, y, z] := hxy
    subst hxy
    cases r1 with
    | @cons _ v _ vs r1 r2 d1 =>
      cases r2 with
      | @cons _ u _ us r2 r3 d2 =>
        cases r3 with
        | @cons _ t' _ ts r3 r4 d3 =>
          cases r4
          refine ⟨v, u, t', rfl, w1 _ H01 H1 ?_ (Ex.refl _)⟩
          have o1 := setR i ok1 (r1.toB ok) fun xs a e1 e2 z => by
            subst e1 e2
            cases r1 with
            | f n _ _ _ => exact (ok.ownLive (l1.own z)).1 n
          have o2 := setR j o1 (r2.toB ok) fun xs a e1 e2 z => by
            subst e1 e2
            rcases own_set ok1.len z with z | ⟨ys, z1, z2⟩
            · cases r2 with
              | f n _ _ _ => exact (ok.ownLive (l1.own z)).1 n
            · exact d1 ys a z1 z2 0 xs rfl rfl
          refine setR l o2 (r3.toB ok) fun xs a e1 e2 z => ?_
          subst e1 e2
          rcases own_set o1.len z with z | ⟨ys, z1, z2⟩
          · rcases own_set ok1.len z with z | ⟨ys, z1, z2⟩
            · cases r3 with
              | f n _ _ _ => exact (ok.ownLive (l1.own z)).1 n
            · exact d1 ys a z1 z2 1 xs rfl rfl
          · exact d2 ys a z1 z2 0 xs rfl rfl
  · exact w1.elim
end
end Mi
namespace Mi
open PySem PySem.Spec PyProof.Rows L2 Evl

/-! ### a zip that may be strict -/
abbrev ZipB (h : Heap) (b : Bool) (z TI TO : Addr) (f0 : Value) : Prop :=
  h.get? z = some { cls := .type "zip", dict := none, data := .fields #[f0, .bool false, .bool b, .ref TI, .ref TO], slots := #[] }
abbrev gzB2 (b : Bool) (h : Heap) (o1 o2 : Obj) : Heap := (gzO2 h o1 o2).push { cls := .type "zip", data := .fields #[.none, .bool false, .bool b, .ref ((h.push o1).push o2).objs.size, .ref (gzT2 h o1 o2).objs.size] }
theorem meets_zipB {v1 v2 : Value} {o1 o2 : Obj} {H1 H2 : Heap → Prop} (b : Bool) (B1 : Begins v1 o1 H1) (B2 : Begins v2 o2 H2) :
    Meets (Builtin.«zip.__new__» ⟨[.type "zip", v1, v2], [(Str.ofString "strict", .bool b)]⟩) (fun _ R s => (H1 s.heap ∧ H2 s.heap) ∧
      R (.ok (.ret (.ref (gzO2 s.heap o1 o2).objs.size))) { s with heap := gzB2 b s.heap o1 o2 }) :=
  .of_wp fun prog w A R s h => by
    obtain ⟨hp, g, d, tk, os⟩ := s
    obtain ⟨⟨h1, h2⟩, h⟩ := h
    have hsub := sub_zip
    have n1 : (Str.ofString "strict" != ("strict" : Str)) = false := by decide +kernel
    have n2 : (Str.ofString "strict" == ("strict" : Str)) = true := by decide +kernel
    have w1 : ∀ {A' : Around} {E : Value → Shared → Prop} {Q : Value → Shared → Prop}, Q (.ref hp.objs.size) ⟨hp.push o1, g, d, tk, os⟩ → wpAny (model prog w) A' (pyIter v1) Q E ⟨hp, g, d, tk, os⟩ :=
      fun q => B1.iter prog w _ _ ⟨hp, g, d, tk, os⟩ _ h1 q
    have w2 : ∀ {A' : Around} {E : Value → Shared → Prop} {Q : Value → Shared → Prop}, Q (.ref (hp.push o1).objs.size) ⟨(hp.push o1).push o2, g, d, tk, os⟩ → wpAny (model prog w) A' (pyIter v2) Q E ⟨hp.push o1, g, d, tk, os⟩ :=
      fun q => B2.iter prog w _ _ ⟨hp.push o1, g, d, tk, os⟩ _ (B2.keeps _ _ h2 fun _ _ e => Heap.get?_push_of_some _ e) q
    cases b
    · wp_walk using w1, w2
      all_goals exact ⟨_, rfl, h⟩
    · wp_walk using w1, w2
      all_goals exact ⟨_, rfl, h⟩
end Mi
namespace Mi
open PySem PySem.Spec PyProof.Rows L2 Evl
section
variable {prog : Program} {w : World} {A : Around} {E : Value → Shared → Prop} {s : Shared}
theorem orEnd_item {it l : Addr} {i : Nat} {items : Array Value} {x : Value} {Q : Option Value → Shared → Prop} (hit : s.heap.IsListIter it l i) (hl : s.heap.IsList l items) (hx : items[i]? = some x)
    (hQ : ∀ h', h'.IsListIter it l (i + 1) → Heap.SameBut it s.heap h' → Q (some x) { s with heap := h' }) :
    wpAny (model prog w) A (Builtin.SmallTypes.nextOrEnd (.ref it)) Q E s := by
  unfold Builtin.SmallTypes.nextOrEnd
  exact wpAny_bind (wpAny_attempt (wpAny_nextOf_list_item hit hl hx fun h' a b => wpAny_pure (hQ h' a b)))
theorem orEnd_end {it l : Addr} {i : Nat} {items : Array Value} {Q : Option Value → Shared → Prop} (hh : A.handled = none) (hit : s.heap.IsListIter it l i) (hl : s.heap.IsList l items) (hx : items[i]? = none)
    (hQ : ∀ h', Heap.ExtBut it s.heap h' → Q none { s with heap := h' }) :
    wpAny (model prog w) A (Builtin.SmallTypes.nextOrEnd (.ref it)) Q E s := by
  unfold Builtin.SmallTypes.nextOrEnd
  refine wpAny_bind (wpAny_attempt (wpAny_nextOf_list_end hh hit hl hx fun h' e k he => ?_))
  obtain ⟨o, ho, hc⟩ := he
  exact wpAny_bind (wpAny_isInstance (T := "StopIteration") (b := true) ⟨o, ho, hc⟩ isSubtype_stop (wpAny_pure (hQ _ k)))
variable {z TI TO i1 i2 l1 l2 : Addr} {k : Nat} {xs ys : Array Value} {x y a b : Value}
theorem strict_item {Q : Value → Shared → Prop} (D : ZipApart z TI TO i1 i2 l1 l2) (hz : ZipB s.heap true z TI TO .none) (hTI : IsPair s.heap TI (.ref i1) (.ref i2)) (hTO : IsPair s.heap TO a b)
    (h1 : s.heap.IsListIter i1 l1 k) (h2 : s.heap.IsListIter i2 l2 k) (hl1 : s.heap.IsList l1 xs) (hl2 : s.heap.IsList l2 ys) (hx : xs[k]? = some x) (hy : ys[k]? = some y)
    (hQ : ∀ h', ZipB h' true z TI TO (rawInt s.heap.objs.size) → IsPair h' TO x y → h'.IsListIter i1 l1 (k + 1) → h'.IsListIter i2 l2 (k + 1) → IsPair h' s.heap.objs.size x y →
      (∀ c o, c ≠ z → c ≠ TO → c ≠ i1 → c ≠ i2 → s.heap.get? c = some o → h'.get? c = some o) → Q (.ref s.heap.objs.size) { s with heap := h' }) :
    wpAny (model prog w) A (Builtin.«zip.__next__» ⟨[.ref z], []⟩) (fun fin s' => ∃ v, fin = .done (.ret v) ∧ Q v s') E s := by
  refine wpAny_bind (wpAny_pure ?_)
  refine wpAny_bind (wpAny_field hz rfl (x := .bool true) rfl ?_)
  refine wpAny_bind (wpAny_field hz rfl (x := .ref TI) rfl ?_)
  refine wpAny_bind (wpAny_seqItems hTI rfl ?_)
  refine wpAny_bind (m := Builtin.SmallTypes.ownedTupleIsFree (.ref z)) ?_
  refine wpAny_bind (wpAny_field hz rfl (x := .none) rfl (wpAny_pure ?_))
  refine wpAny_bind (wpAny_rule ?_)
  refine wpAny_bind (wpAny_field hz rfl (x := .ref TO) rfl ?_)
  refine wpAny_bind (wpAny_setField_rec hz (by simp) fun g0 hz0 s0 => ?_)
  have hz0 : ZipB g0 true z TI TO .ellipsis := hz0
  have hTO0 : IsPair g0 TO a b := s0.extBut _ _ D.TOz hTO
  refine wpAny_bind ?_
  simp only [List.zipIdx_cons, List.zipIdx_nil, List.forIn_cons, List.forIn_nil]
  refine wpAny_bind (wpAny_bind (wpAny_onRaise (orEnd_item (h1.extBut s0.extBut D.i1z) (hl1.extBut s0.extBut D.l1z) hx fun g1 j1 s1 => ?_)))
  have hTO1 : IsPair g1 TO a b := s1.extBut _ _ D.TOi1 hTO0
  refine wpAny_bind (wpAny_seqItems hTO1 rfl (wpAny_bind (wpAny_updateSeq_pair hTO1 fun g2 hTO2 s2 => wpAny_bind (wpAny_letGo (wpAny_pure ?_)))))
  have hTO2 : IsPair g2 TO x b := hTO2
  have t2 : ∀ c o, c ≠ z → c ≠ TO → c ≠ i1 → s.heap.get? c = some o → g2.get? c = some o := fun c o c1 c2 c3 e => s2.extBut _ _ c2 (s1.extBut _ _ c3 (s0.extBut _ _ c1 e))
  refine wpAny_bind (wpAny_bind (wpAny_onRaise (orEnd_item (h2.at fun o e => t2 _ o D.i2z D.TOi2.symm D.i12.symm e) (hl2.at fun o e => t2 _ o D.l2z D.l2TO D.l2i1 e) hy fun g3 j2 s3 => ?_)))
  have hTO3 : IsPair g3 TO x b := s3.extBut _ _ D.TOi2 hTO2
  refine wpAny_bind (wpAny_seqItems hTO3 rfl (wpAny_bind (wpAny_updateSeq_pair hTO3 fun g4 hTO4 s4 => wpAny_bind (wpAny_letGo (wpAny_pure (wpAny_pure ?_))))))
  have hTO4 : IsPair g4 TO x y := hTO4
  have t4 : ∀ c o, c ≠ TO → c ≠ i2 → g2.get? c = some o → g4.get? c = some o := fun c o c1 c2 e => s4.extBut _ _ c1 (s3.extBut _ _ c2 e)
  have hz4 : ZipB g4 true z TI TO .ellipsis := t4 _ _ D.TOz.symm D.i2z.symm (s2.extBut _ _ D.TOz.symm (s1.extBut _ _ D.i1z.symm hz0))
  have n4 : g4.objs.size = s.heap.objs.size := s4.1.trans (s3.1.trans (s2.1.trans (s1.1.trans s0.1)))
  have zl : z < s.heap.objs.size := Heap.lt_size hz
  refine wpAny_bind (wpAny_seqItems hTO4 rfl (wpAny_bind (wpAny_newTuple ?_)))
  refine wpAny_bind (m := Builtin.SmallTypes.ownedTupleHandOut (.ref z) (.ref g4.objs.size)) ?_
  refine wpAny_bind (wpAny_setField_rec (Heap.get?_push_of_some _ hz4) (by simp) fun g5 hz5 s5 => ?_)
  refine wpAny_setField_rec hz5 (by simp) fun g6 hz6 s6 => wpAny_pure ⟨_, rfl, ?_⟩
  have up : ∀ c o, c ≠ z → (g4.push { cls := .type "tuple", data := .seq #[x, y] }).get? c = some o → g6.get? c = some o := fun c o c1 e => s6.extBut _ _ c1 (s5.extBut _ _ c1 e)
  have hT : IsPair g6 g4.objs.size x y := up _ _ (by rw [n4]; exact Nat.ne_of_gt zl) (Heap.get?_push_size _ rfl)
  have hz6 : ZipB g6 true z TI TO (rawInt g4.objs.size) := hz6
  rw [n4] at hT hz6
  show Q (.ref g4.objs.size) _
  rw [n4]
  refine hQ g6 hz6 (up _ _ D.TOz (Heap.get?_push_of_some _ hTO4)) ?_ ?_ hT fun c o c1 c2 c3 c4 e => up _ _ c1 (Heap.get?_push_of_some _ (t4 _ _ c2 c4 (t2 _ _ c1 c2 c3 e)))
  · exact j1.at fun o e => up _ o D.i1z (Heap.get?_push_of_some _ (t4 _ _ D.TOi1.symm D.i12 (s2.extBut _ _ D.TOi1.symm e)))
  · exact j2.at fun o e => up _ o D.i2z (Heap.get?_push_of_some _ (s4.extBut _ _ D.TOi2.symm e))
theorem strict_end {Q : Fin → Shared → Prop} (hh : A.handled = none) (D : ZipApart z TI TO i1 i2 l1 l2) (hz : ZipB s.heap true z TI TO .none) (hTI : IsPair s.heap TI (.ref i1) (.ref i2)) (hTO : IsPair s.heap TO a b)
    (h1 : s.heap.IsListIter i1 l1 k) (h2 : s.heap.IsListIter i2 l2 k) (hl1 : s.heap.IsList l1 xs) (hl2 : s.heap.IsList l2 ys) (hx : xs[k]? = none) (hy : ys[k]? = none)
    (hE : ∀ h' e, (∀ c o, c ≠ z → c ≠ TO → c ≠ i1 → c ≠ i2 → s.heap.get? c = some o → h'.get? c = some o) → (∃ o, h'.get? e = some o ∧ o.cls = .type "StopIteration") → E (.ref e) { s with heap := h' }) :
    wpAny (model prog w) A (Builtin.«zip.__next__» ⟨[.ref z], []⟩) Q E s := by
  refine wpAny_bind (wpAny_pure ?_)
  refine wpAny_bind (wpAny_field hz rfl (x := .bool true) rfl ?_)
  refine wpAny_bind (wpAny_field hz rfl (x := .ref TI) rfl ?_)
  refine wpAny_bind (wpAny_seqItems hTI rfl ?_)
  refine wpAny_bind (m := Builtin.SmallTypes.ownedTupleIsFree (.ref z)) ?_
  refine wpAny_bind (wpAny_field hz rfl (x := .none) rfl (wpAny_pure ?_))
  refine wpAny_bind (wpAny_rule ?_)
  refine wpAny_bind (wpAny_field hz rfl (x := .ref TO) rfl ?_)
  refine wpAny_bind (wpAny_setField_rec hz (by simp) fun g0 hz0 s0 => ?_)
  have hz0 : ZipB g0 true z TI TO .ellipsis := hz0
  refine wpAny_bind ?_
  simp only [List.zipIdx_cons, List.zipIdx_nil, List.forIn_cons, List.forIn_nil]
  refine wpAny_bind (wpAny_bind (wpAny_onRaise (orEnd_end hh (h1.extBut s0.extBut D.i1z) (hl1.extBut s0.extBut D.l1z) hx fun g1 s1 => ?_)))
  have hz1 : ZipB g1 true z TI TO .ellipsis := s1 _ _ D.i1z.symm hz0
  refine wpAny_bind (wpAny_setField_rec hz1 (by simp) fun g2 hz2 s2 => ?_)
  have t2 : ∀ c o, c ≠ z → c ≠ i1 → s.heap.get? c = some o → g2.get? c = some o := fun c o c1 c3 e => s2.extBut _ _ c1 (s1 _ _ c3 (s0.extBut _ _ c1 e))
  refine wpAny_bind (wpAny_bind ?_)
  simp only [List.drop_succ_cons, List.drop_zero, List.zipIdx_cons, List.zipIdx_nil, List.forIn_cons, List.forIn_nil]
  refine wpAny_bind (wpAny_bind (orEnd_end hh (h2.at fun o e => t2 _ o D.i2z D.i12.symm e) (hl2.at fun o e => t2 _ o D.l2z D.l2i1 e) hy fun g3 s3 => ?_))
  rw [if_neg (show ¬ (Option.isSome (none : Option Value) = true) from Bool.false_ne_true)]
  refine wpAny_pure (wpAny_pure (wpAny_bind (wpAny_rule ?_)))
  refine wpAny_bind (m := newExc (.type "StopIteration") []) (wpAny_bind (wpAny_newTuple (wpAny_bind (wpAny_of_eq (a := Value.none) (by first | rfl | (simp only [firstArgMember]; rfl)) (wpAny_newObj_type ?_ (by size_fits))))))
  simp only [raiseNew]
  refine wpAny_bind (wpAny_handled ?_)
  first | rw [show A.in1.handled = none from hh] | rw [hh]
  exact wpAny_bind (wpAny_pure (wpAny_throw (hE _ _ (fun c o c1 c2 c3 c4 e => Heap.get?_push_of_some _ (Heap.get?_push_of_some _ (s3 _ _ c4 (t2 _ _ c1 c3 e)))) ⟨_, Heap.get?_push_size _ rfl, rfl⟩)))
theorem strict_next_item {Q : Option Value → Shared → Prop} (D : ZipApart z TI TO i1 i2 l1 l2) (hz : ZipB s.heap true z TI TO .none) (hTI : IsPair s.heap TI (.ref i1) (.ref i2)) (hTO : IsPair s.heap TO a b)
    (h1 : s.heap.IsListIter i1 l1 k) (h2 : s.heap.IsListIter i2 l2 k) (hl1 : s.heap.IsList l1 xs) (hl2 : s.heap.IsList l2 ys) (hx : xs[k]? = some x) (hy : ys[k]? = some y)
    (hQ : ∀ h', ZipB h' true z TI TO (rawInt s.heap.objs.size) → IsPair h' TO x y → h'.IsListIter i1 l1 (k + 1) → h'.IsListIter i2 l2 (k + 1) → IsPair h' s.heap.objs.size x y →
      (∀ c o, c ≠ z → c ≠ TO → c ≠ i1 → c ≠ i2 → s.heap.get? c = some o → h'.get? c = some o) → Q (some (.ref s.heap.objs.size)) { s with heap := h' }) :
    wpAny (model prog w) A (pyNext (.ref z)) Q E s := by
  have hT : s.TypeIs (.ref z) "zip" := ⟨_, hz, rfl⟩
  unfold pyNext
  exact wpAny_bind (wpAny_attempt (wpAny_callSpecial?_slot (name := Str.ofString "__next__") hT F.slot_zip_next (wpAny_call_entry F.slot_zip_next hT F.entry_zip_next
    (strict_item D hz hTI hTO h1 h2 hl1 hl2 hx hy fun h' a1 a2 a3 a4 a5 a6 => wpAny_pure (hQ h' a1 a2 a3 a4 a5 a6)) (F.args_zip_next_1 _))))
theorem strict_next_end {Q : Option Value → Shared → Prop} (hh : A.handled = none) (D : ZipApart z TI TO i1 i2 l1 l2) (hz : ZipB s.heap true z TI TO .none) (hTI : IsPair s.heap TI (.ref i1) (.ref i2)) (hTO : IsPair s.heap TO a b)
    (h1 : s.heap.IsListIter i1 l1 k) (h2 : s.heap.IsListIter i2 l2 k) (hl1 : s.heap.IsList l1 xs) (hl2 : s.heap.IsList l2 ys) (hx : xs[k]? = none) (hy : ys[k]? = none)
    (hQ : ∀ h', (∀ c o, c ≠ z → c ≠ TO → c ≠ i1 → c ≠ i2 → s.heap.get? c = some o → h'.get? c = some o) → Q none { s with heap := h' }) :
    wpAny (model prog w) A (pyNext (.ref z)) Q E s := by
  have hT : s.TypeIs (.ref z) "zip" := ⟨_, hz, rfl⟩
  unfold pyNext
  refine wpAny_bind (wpAny_attempt (wpAny_callSpecial?_slot (name := Str.ofString "__next__") hT F.slot_zip_next (wpAny_call_entry F.slot_zip_next hT F.entry_zip_next
    (strict_end hh D hz hTI hTO h1 h2 hl1 hl2 hx hy fun h' e hk he => ?_) (F.args_zip_next_1 _))))
  obtain ⟨o, ho, hc⟩ := he
  exact wpAny_bind (wpAny_isInstance (T := "StopIteration") (b := true) ⟨o, ho, hc⟩ isSubtype_stop (wpAny_pure (hQ _ hk)))
theorem letGo_zipB {elts : List Expr} {n : Nat} {pos : Pos} {T : Addr} {bb : Bool} {Q : Unit → Shared → Prop} (hz : ZipB s.heap bb z TI TO (rawInt T)) (hQ : ∀ h', ZipB h' bb z TI TO .none → Heap.SameBut z s.heap h' → Q () { s with heap := h' }) :
    wpAny (model prog w) A (letOwnedTupleGo (.Tuple elts n pos) (.ref z) (.ref T)) Q E s := by
  refine wpAny_bind (wpAny_load hz ?_)
  show wpAny _ _ (ite (_ = true) _ _) Q E s
  rw [if_pos (by simp)]
  exact wpAny_bind (wpAny_rule (wpAny_setField_rec hz (by simp) fun h' a b => hQ h' a b))
theorem iter_zipB {bb : Bool} {f0 : Value} {Q : Value → Shared → Prop} (hz : ZipB s.heap bb z TI TO f0) (h : Q (.ref z) s) : wpAny (model prog w) A (pyIter (.ref z)) Q E s := by
  have hT : s.TypeIs (.ref z) "zip" := ⟨_, hz, rfl⟩
  exact wpAny_pyIter_slot hT F.slot_zip_iter (wpAny_call_entry F.slot_zip_iter hT F.entry_zip_iter (wpAny_pure ⟨_, rfl, "zip", _, hT, F.slot_zip_next.lookup, h⟩) (F.args_zip_iter_1 _))
end
/-- two lists of one length, strictly -/
def Itzs (K : PySem.W.Frag) (a b : Addr) : It :=
  ⟨(Itz K a b).go, (Itz K a b).yld, fun i H => ∃ xs ys : List V, SqL K H a xs ∧ SqL K H b ys ∧ xs.length ≤ i ∧ ys.length ≤ i⟩
theorem turn_zipS {P : Program} {w : World} {K : PySem.W.Frag} {elts : List Expr} {kk : Nat} {tpos : Pos} {a b z TI TO i1 i2 : Addr} (D : ZipApart z TI TO i1 i2 a b) :
    Turn P w K (.Tuple elts kk tpos) (Itzs K a b) [z, TI, TO, i1, i2] z (fun i h => ZipB h true z TI TO .none ∧ IsPair h TI (.ref i1) (.ref i2) ∧ (∃ x y, IsPair h TO x y) ∧ h.IsListIter i1 a i ∧ h.IsListIter i2 b i) where
  mem := by simp
  obj := fun i h st c hc => by
    obtain ⟨hz, hTI, ⟨x, y, hTO⟩, ⟨o1, e1, _, d1⟩, ⟨o2, e2, _, d2⟩⟩ := st
    simp only [List.mem_cons, List.not_mem_nil, or_false] at hc
    rcases hc with rfl | rfl | rfl | rfl | rfl
    · exact ⟨_, hz, nofun⟩
    · exact ⟨_, hTI, nofun⟩
    · exact ⟨_, hTO, nofun⟩
    · exact ⟨o1, e1, fun v q => by rw [d1] at q; cases q⟩
    · exact ⟨o2, e2, fun v q => by rw [d2] at q; cases q⟩
  keep := fun i h h' ⟨hz, hTI, ⟨x, y, hTO⟩, h1, h2⟩ k =>
    ⟨k z (by simp) _ hz, k TI (by simp) _ hTI, ⟨x, y, k TO (by simp) _ hTO⟩, h1.at fun o q => k i1 (by simp) o q, h2.at fun o q => k i2 (by simp) o q⟩
  item := by
    rintro X rfl rfl rfl hc i pins s σ H E I hf ⟨hz, hTI, ⟨x0, y0, hTO⟩, h1, h2⟩ ⟨xs, ys, x, y, qx, qy, hx, hy⟩
    obtain ⟨its, rv, p, _⟩ := I.list qx
    obtain ⟨its2, rv2, p2, _⟩ := I.list qy
    obtain ⟨u, hu, ru⟩ := rv.get hx
    obtain ⟨u2, hu2, ru2⟩ := rv2.get hy
    have out : ∀ {c : Addr}, c ∉ [z, TI, TO, i1, i2] → c ≠ z ∧ c ≠ TO ∧ c ≠ i1 ∧ c ≠ i2 := fun hb => ⟨fun q => hb (by simp [q]), fun q => hb (by simp [q]), fun q => hb (by simp [q]), fun q => hb (by simp [q])⟩
    have zl : z < s.heap.objs.size := Heap.lt_size hz
    refine strict_next_item D hz hTI hTO h1 h2 p.isList p2.isList (x := u) (y := u2) (by simpa using hu) (by simpa using hu2) fun g1 z1 o1 j1 j2 hT k1 => ⟨_, rfl, letGo_zipB (s := { s with heap := g1 }) z1 fun g2 z2 sb => ?_⟩
    have ob : ObjOk X.prog X.w (upd H s.heap.objs.size (.tup [x, y])) g2 s.heap.objs.size (.tup [x, y]) :=
      ⟨by show 2 ≤ sizeLine; decide, [u, u2], .cons ru (.cons ru2 .nil), ⟨_, (sb.2 _ (Nat.ne_of_gt zl)).trans hT, rfl, _, rfl⟩⟩
    have I1 : Inv X pins σ (upd H s.heap.objs.size (.tup [x, y])) { s with heap := g2 } :=
      I.turnedNew (t' := s.toks) (ch := [z, TI, TO, i1, i2]) (fun c o hb q => (sb.2 c (out hb).1).trans (k1 c o (out hb).1 (out hb).2.1 (out hb).2.2.1 (out hb).2.2.2 q)) hf (Nat.le_refl _) ob
    refine ⟨.ref s.heap.objs.size, _, I1, rfl, ⟨_, x, y, rfl, I.hok.fresh (Nat.le_refl _), rfl, fun l hl => by rw [I.list_inj hl qx]; exact hx, fun l hl => by rw [I.list_inj hl qy]; exact hy⟩,
      ⟨z2, (sb.2 _ D.TIz).trans (k1 _ _ D.TIz D.TITO D.TIi1 D.TIi2 hTI), ⟨u, u2, (sb.2 _ D.TOz).trans o1⟩, j1.at fun o q => (sb.2 _ D.i1z).trans q, j2.at fun o q => (sb.2 _ D.i2z).trans q⟩, fun c hcm => ?_⟩
    have lt : c < s.heap.objs.size := by
      obtain ⟨_, e1, _⟩ := h1
      obtain ⟨_, e2, _⟩ := h2
      have hcm' := hcm
      simp only [List.mem_cons, List.not_mem_nil, or_false] at hcm'
      rcases hcm' with rfl | rfl | rfl | rfl | rfl
      · exact zl
      · exact Heap.lt_size hTI
      · exact Heap.lt_size hTO
      · exact Heap.lt_size e1
      · exact Heap.lt_size e2
    rw [upd_ne (Nat.ne_of_lt lt)]
    exact (hf c hcm).1
  done := by
    rintro X rfl rfl rfl hc i pins s σ H E I hf ⟨hz, hTI, ⟨x0, y0, hTO⟩, h1, h2⟩ ⟨xs, ys, qx, qy, e1, e2⟩
    obtain ⟨its, rv, p, _⟩ := I.list qx
    obtain ⟨its2, rv2, p2, _⟩ := I.list qy
    have l1 := rv.length
    have l2 := rv2.length
    have out : ∀ {c : Addr}, c ∉ [z, TI, TO, i1, i2] → c ≠ z ∧ c ≠ TO ∧ c ≠ i1 ∧ c ≠ i2 := fun hb => ⟨fun q => hb (by simp [q]), fun q => hb (by simp [q]), fun q => hb (by simp [q]), fun q => hb (by simp [q])⟩
    exact strict_next_end (I.ok.hd hc) D hz hTI hTO h1 h2 p.isList p2.isList (by simp; omega) (by simp; omega) fun h' hk => ⟨rfl, I.turnedL (t' := s.toks) (ch := [z, TI, TO, i1, i2]) (fun c o hb q => hk c o (out hb).1 (out hb).2.1 (out hb).2.2.1 (out hb).2.2.2 q) hf⟩
  self := fun A i s Q E st h => iter_zipB st.1 h

namespace F
theorem type_zipB (a b c : Value) : checkTypeCall "zip" ⟨[a, b], [(Str.ofString "strict", c)]⟩ = pure () := by kernel_rfl
theorem new_zipB (a b c : Value) : checkBuiltinCall "zip.__new__" ⟨[.type "zip", a, b], [(Str.ofString "strict", c)]⟩ = pure () := by kernel_rfl
theorem init_zipB (o a b c : Value) : argsOk "object.__init__" ⟨[o, a, b], [(Str.ofString "strict", c)]⟩ := by unfold argsOk; kernel_rfl
end F
section
variable {prog : Program} {w : World} {A : Around} {E : Value → Shared → Prop} {s : Shared}
theorem call_zipB {bb : Bool} {v1 v2 : Value} {o1 o2 : Obj} {H1 H2 : Heap → Prop} {Q : Value → Shared → Prop} (B1 : Begins v1 o1 H1) (B2 : Begins v2 o2 H2) (h1 : H1 s.heap) (h2 : H2 s.heap)
    (h : ∀ h', ZipB h' bb (s.heap.objs.size + 4) (s.heap.objs.size + 2) (s.heap.objs.size + 3) .none → IsPair h' (s.heap.objs.size + 2) (.ref s.heap.objs.size) (.ref (s.heap.objs.size + 1)) →
      IsPair h' (s.heap.objs.size + 3) .none .none → h'.get? s.heap.objs.size = some o1 → h'.get? (s.heap.objs.size + 1) = some o2 →
      (∀ c o, s.heap.get? c = some o → h'.get? c = some o) → Q (.ref (s.heap.objs.size + 4)) { s with heap := h' }) :
    wpAny (model prog w) A (call (.type "zip") [v1, v2] [(Str.ofString "strict", .bool bb)]) Q E s := by
  refine callType_newKw F.called_zip (by decide) (F.type_zipB _ _ _) (F.new_zipB _ _ _) (fun o => F.init_zipB o _ _ _) F.entry_zip_new (meets_zipB bb B1 B2) ⟨⟨h1, h2⟩, ?_⟩
  have n1 : (s.heap.push o1).objs.size = s.heap.objs.size + 1 := Heap.size_push ..
  have n2 : ((s.heap.push o1).push o2).objs.size = s.heap.objs.size + 2 := by rw [Heap.size_push, n1]
  have n3 : (gzT2 s.heap o1 o2).objs.size = s.heap.objs.size + 3 := by rw [Heap.size_push, n2]
  have n4 : (gzO2 s.heap o1 o2).objs.size = s.heap.objs.size + 4 := by rw [Heap.size_push, n3]
  have gz : (gzB2 bb s.heap o1 o2).get? (gzO2 s.heap o1 o2).objs.size = some _ := Heap.get?_push_size _ rfl
  have go : (gzB2 bb s.heap o1 o2).get? (gzT2 s.heap o1 o2).objs.size = some _ := Heap.get?_push_of_some _ (Heap.get?_push_size _ rfl)
  have gt : (gzB2 bb s.heap o1 o2).get? ((s.heap.push o1).push o2).objs.size = some _ := Heap.get?_push_of_some _ (Heap.get?_push_of_some _ (Heap.get?_push_size _ rfl))
  have g2 : (gzB2 bb s.heap o1 o2).get? (s.heap.push o1).objs.size = some o2 := Heap.get?_push_of_some _ (Heap.get?_push_of_some _ (Heap.get?_push_of_some _ (Heap.get?_push_size _ B2.free)))
  have g1 : (gzB2 bb s.heap o1 o2).get? s.heap.objs.size = some o1 := Heap.get?_push_of_some _ (Heap.get?_push_of_some _ (Heap.get?_push_of_some _ (Heap.get?_push_of_some _ (Heap.get?_push_size _ B1.free))))
  rw [n4, n3, n2] at gz
  rw [n3] at go
  rw [n2, n1] at gt
  rw [n1] at g2
  show _ ∧ _
  rw [n4]
  exact ⟨⟨_, gz, rfl⟩, h _ gz gt go g1 g2 fun c o e => Heap.get?_push_of_some _ (Heap.get?_push_of_some _ (Heap.get?_push_of_some _ (Heap.get?_push_of_some _ (Heap.get?_push_of_some _ e))))⟩
end
section
variable {M : Model} {A : Around} {E : Value → Shared → Prop} {s : Shared}
theorem args_kwT {f : Value} {x : Sem Value} {rest : List (Bool × Sem Value)} {keywords : List (Option Str × Sem Value)} {Q : Args → Shared → Prop} (hall : keywords.all (·.1.isSome) = true)
    (h : wpAny M A (spliced ((false, x) :: rest)) (fun vs s₁ => wpAny M A (evalAll (keywords.map (·.2))) (fun kvs s₂ => Q ⟨vs, (keywords.filterMap (·.1)).zip kvs⟩ s₂) E s₁) E s) :
    wpAny M A (evalArgs f true ((false, x) :: rest) keywords) Q E s := PyProof.Rows.evalArgs_kwB hall h
theorem callWith_kwT {pos : Pos} {T : String} {args : List (Bool × Sem Value)} {keywords : List (Option Str × Sem Value)} {Q : Value → Shared → Prop} (hp : args.any (·.1) = false) (hk : keywords.any (·.1.isNone) = false)
    (h : wpAny M A (evalArgs (.type T) true args keywords) (fun a s₁ => wpAny M A (call (.type T) a.pos a.kw) Q E s₁) E s) : wpAny M A (callWith pos (.type T) [] args keywords) Q E s := by
  unfold callWith
  refine wpAny_bind (wpAny_holding (wpAny_mono h (fun a s₁ h₁ => wpAny_bind (wpAny_standAt ?_)) fun _ _ x => x))
  simp only [hp, hk, Bool.or_false]
  exact wpAny_bind (wpAny_pure (wpAny_bind (wpAny_mono h₁ (fun r s₂ hr => wpAny_bind (wpAny_holding (wpAny_point (wpAny_pure hr)))) fun _ _ x => x)))
end
section
variable {X : Cx} {E : XK} {e e2 ek : Expr} {p pos tpos kpos : Pos} {elts : List Expr} {kk : Nat}
/-- zip(a, b, strict=..): two lists or two tuples -/
def iZipB (K : PySem.W.Frag) (bb : Bool) (ta : TA) : TI := fun σ H R => ta σ H fun vs H1 => ∃ a b xs ys, vs = [.ref a, .ref b] ∧
  ((bb = true ∧ SqL K H1 a xs ∧ SqL K H1 b ys ∧ R (Itzs K a b) H1) ∨ (bb = false ∧ SqL K H1 a xs ∧ SqL K H1 b ys ∧ R (Itz K a b) H1) ∨ (bb = false ∧ SqT K H1 a xs ∧ SqT K H1 b ys ∧ R (RZ.ItzT K a b) H1))
theorem pi_zipB {ta : TA} {bb : Bool} (hg : Gl X "zip") (hm : X.mg "zip" = none) (ha : PA X [e, e2] ta) (hek : ∀ s Q, Q (.bool bb) s → wpAny (model X.prog X.w) X.A (eval ek X.env) Q X.xe s)
    (hs : backTo pos (starEach [e, e2] X.env) = (false, eval e X.env) :: backTo pos (starEach [e2] X.env) := by rfl) (hpl : (backTo pos (starEach [e, e2] X.env)).any (·.1) = false := by rfl) :
    PI X (.Tuple elts kk tpos) (.Call (.Name "zip" p) [e, e2] [⟨some "strict", ek, kpos⟩] pos) (iZipB X.K bb ta) := by
  refine ⟨fun pins s σ H R I h => ?_⟩
  refine wpAny_Call_Name_kw (ld_blt I hg hm PyProof.Rows.boot_zip (callWith_kwT hpl rfl ?_))
  rw [hs]
  refine args_kwT rfl ?_
  rw [← hs]
  refine thn (ha.run pos pins s σ H _ I h) fun us s1 ⟨vs, H1, I1, r1, q1⟩ => ?_
  refine wpAny_evalAll_cons (wpAny_bind (hek _ _ (wpAny_bind (wpAny_standAt (wpAny_pure (wpAny_evalAll_nil ?_))))))
  obtain ⟨a, b, xs, ys, ex, q1⟩ := q1
  subst ex
  cases r1 with
  | cons r rr =>
    cases rr with
    | cons r' rr =>
      cases rr
      cases r
      cases r'
      have fr : ∀ c, c ∈ [s1.heap.objs.size + 4, s1.heap.objs.size + 2, s1.heap.objs.size + 3, s1.heap.objs.size, s1.heap.objs.size + 1] → FpOk X pins H1 c := fun c hc => by
        have le : s1.heap.objs.size ≤ c := by
          simp only [List.mem_cons, List.not_mem_nil, or_false] at hc
          rcases hc with rfl | rfl | rfl | rfl | rfl <;> omega
        exact I1.fpOk le (I1.hok.fresh le)
      rcases q1 with ⟨rfl, qx, qy, q⟩ | ⟨rfl, qx, qy, q⟩ | ⟨rfl, qx, qy, q⟩
      · obtain ⟨its, rv, p1, _⟩ := I1.list qx
        obtain ⟨its2, rv2, p2, _⟩ := I1.list qy
        refine call_zipB (begins_list a _) (begins_list b _) p1.isList p2.isList fun h' hz hTI hTO h1 h2 hk => iter_zipB hz ?_
        exact ⟨_, [s1.heap.objs.size + 4, s1.heap.objs.size + 2, s1.heap.objs.size + 3, s1.heap.objs.size, s1.heap.objs.size + 1], _, _, H1, rfl, I1.kept (t' := s1.toks) hk, turn_zipS (PySem.W.ktu_apart s1.heap.objs.size a b p1.lt p2.lt), ⟨hz, hTI, ⟨_, _, hTO⟩, ⟨_, h1, rfl, rfl⟩, ⟨_, h2, rfl, rfl⟩⟩, fr, q⟩
      · obtain ⟨its, rv, p1, _⟩ := I1.list qx
        obtain ⟨its2, rv2, p2, _⟩ := I1.list qy
        refine call_zipB (begins_list a _) (begins_list b _) p1.isList p2.isList fun h' hz hTI hTO h1 h2 hk => iter_zipB hz ?_
        exact ⟨_, [s1.heap.objs.size + 4, s1.heap.objs.size + 2, s1.heap.objs.size + 3, s1.heap.objs.size, s1.heap.objs.size + 1], _, _, H1, rfl, I1.kept (t' := s1.toks) hk, turn_zip (PySem.W.ktu_apart s1.heap.objs.size a b p1.lt p2.lt), ⟨hz, hTI, ⟨_, _, hTO⟩, ⟨_, h1, rfl, rfl⟩, ⟨_, h2, rfl, rfl⟩⟩, fr, q⟩
      · obtain ⟨its, rv, p1, _⟩ := I1.tuple qx
        obtain ⟨its2, rv2, p2, _⟩ := I1.tuple qy
        obtain ⟨w1, hw1, _⟩ := id p1
        obtain ⟨w2, hw2, _⟩ := id p2
        refine call_zipB (begins_tuple a its.toArray) (begins_tuple b its2.toArray) p1 p2 fun h' hz hTI hTO h1 h2 hk => iter_zipB hz ?_
        exact ⟨_, [s1.heap.objs.size + 4, s1.heap.objs.size + 2, s1.heap.objs.size + 3, s1.heap.objs.size, s1.heap.objs.size + 1], _, _, H1, rfl, I1.kept (t' := s1.toks) hk, RZ.turn_zipT (PySem.W.ktu_apart s1.heap.objs.size a b (Heap.lt_size hw1) (Heap.lt_size hw2)), ⟨hz, hTI, ⟨_, _, hTO⟩, ⟨_, h1, rfl, rfl⟩, ⟨_, h2, rfl, rfl⟩⟩, fr, q⟩
def zipSL (bb : Bool) : List D → Res (List D)
  | [.list xs, .list ys] => if bb = true ∧ xs.length ≠ ys.length then .stuck else .ok (pairUp xs ys)
  | [.tuple xs, .tuple ys] => if bb = true then .stuck else .ok (pairUp xs ys)
  | _ => .stuck
theorem itok_zipS {K : PySem.W.Frag} {p q : Addr} {vs us : List V} {xs ys : List D} {H0 : Hp} (hl : xs.length = ys.length) (h : H0 p = some (.lst vs)) (r : RpAll K H0 vs xs) (h' : H0 q = some (.lst us)) (r' : RpAll K H0 us ys) : ItOk K (Itzs K p q) (pairUp xs ys) H0 where
  stop := fun i H0i Hi e1 e2 hi => ⟨vs, us, SqL.of (e2 _ _ (e1 _ _ h)), SqL.of (e2 _ _ (e1 _ _ h')), by rw [pair_len] at hi; rw [r.len]; omega, by rw [pair_len] at hi; rw [r'.len]; omega⟩
  go := (itok_zip h r h' r').go
  yld := (itok_zip h r h' r').yld
theorem ji_zipB {a b : Expr} {bb : Bool} {s : Ga → Res (Ga × List D)} (hg : Gl X "zip") (hm : X.mg "zip" = none) (h : JA X E [a, b] s) (hek : ∀ s Q, Q (.bool bb) s → wpAny (model X.prog X.w) X.A (eval ek X.env) Q X.xe s)
    (hs : backTo pos (starEach [a, b] X.env) = (false, eval a X.env) :: backTo pos (starEach [b] X.env) := by rfl) (hpl : (backTo pos (starEach [a, b] X.env)).any (·.1) = false := by rfl) :
    JI X E (.Tuple elts kk tpos) (.Call (.Name "zip" p) [a, b] [⟨some "strict", ek, kpos⟩] pos) (sItA (zipSL bb) s) := by
  obtain ⟨t, pp, ha⟩ := h.ex
  refine ⟨_, pi_zipB hg hm pp hek hs hpl, fun B σ Γ H0 H R ok w => ?_⟩
  have w : IW X B E σ Γ H0 H (sItA (zipSL bb) s Γ) R := w
  show t σ H fun vs H1 => _
  refine a_then ha wok_I ok w fun Γ1 x v H01 H1 w1 ok1 g1 l1 r1 => ?_
  unfold zipSL at w1
  split at w1
  · rename_i xs ys hx
    have hx : x = [.list xs, .list ys] := hx
    subst hx
    split at w1
    · exact w1.elim
    · rename_i hz
      cases r1 with
      | cons r1 r2 =>
        cases r2 with
        | cons r2 r3 =>
          cases r3
          cases r1 with
          | lst h1 h2 =>
            cases r2 with
            | lst h3 h4 =>
              cases bb
              · exact ⟨_, _, _, _, rfl, .inr (.inl ⟨rfl, SqL.of (ok1.sub _ _ h1), SqL.of (ok1.sub _ _ h3), w1 _ H01 H1 ok1 (Grow.refl _ _ _) (Less.refl _) (itok_zip h1 h2 h3 h4)⟩)⟩
              · have hl := Decidable.not_not.mp fun q => hz ⟨rfl, q⟩
                exact ⟨_, _, _, _, rfl, .inl ⟨rfl, SqL.of (ok1.sub _ _ h1), SqL.of (ok1.sub _ _ h3), w1 _ H01 H1 ok1 (Grow.refl _ _ _) (Less.refl _) (itok_zipS hl h1 h2 h3 h4)⟩⟩
  · rename_i xs ys hx
    have hx : x = [.tuple xs, .tuple ys] := hx
    subst hx
    split at w1
    · exact w1.elim
    · rename_i hz
      have hz : bb = false := by cases bb with | true => exact absurd rfl hz | false => rfl
      subst hz
      cases r1 with
      | cons r1 r2 =>
        cases r2 with
        | cons r2 r3 =>
          cases r3
          cases r1 with
          | tup h1 h2 =>
            cases r2 with
            | tup h3 h4 => exact ⟨_, _, _, _, rfl, .inr (.inr ⟨rfl, ex_t ok1.sub h1, ex_t ok1.sub h3, w1 _ H01 H1 ok1 (Grow.refl _ _ _) (Less.refl _) (itok_zipT h1 h2 h3 h4)⟩)⟩
  · exact w1.elim
end
end Mi
namespace Mi
open PySem PySem.Spec PyProof.Rows L2 Evl

/-! ### the law's own head -/
section
variable {P : Program} {w : World} {K : PySem.W.Frag} {mg mb : Str → Option Value} {k : Nat} {fa a : Addr} {fd : FuncData} {x : Str} {sp : Sp} {s₁ : Shared}
/-- from a heap of values that knows the script at most -/
theorem lawG_from {H : Hp} {S : V} (KX : K.In s₁.heap) (hns : s₁.heap.Ns mainGlobals mg) (hb : s₁.heap.Ns builtinsNs mb) (hbb : ∀ x : Str, x ≠ "__name__" → mb x = bootBuiltins x) (hlim : s₁.heap.NoLimit) (hg : s₁.gens = #[])
    (hr : Room k callerA) (F : ∀ base : Heap, K.In base → base.Ns mainGlobals mg → FnG P w K mg base k fa fd [x] sp) (hbind : ∀ (s : Shared) (u : Value), BindsTo s fd ⟨[u], []⟩ [(x, u)])
    (hO : Only H) (hok : HOk P w H s₁.heap) (hKH : ∀ b o, K.lookup b = some o → H b = none) (hdH : ∀ b o es ep, s₁.heap.get? b = some o → o.data = .dict es ep → H b = none)
    (hs : sp [.ref a] H (fun v _ => v = .bl true) fun _ _ _ => False) :
    codeAny (model P w) callerA (.call (.ref fa) ⟨[.ref a], []⟩) (fun r s' => r = .ok (.ret (.bool true)) ∧ OldK s₁.heap s'.heap ∧ s'.os = s₁.os ∧ AllBare s'.gens) s₁ := by
  have ns' : ∀ {b : Addr} {m : Str → Option Value}, s₁.heap.Ns b m → (hidT s₁.heap H).Ns b m := fun {b m} ⟨o, es, ep, e, d, r⟩ => ⟨o, es, ep, hidT_get e (hdH b o es ep e d), d, r⟩
  have kb : K.In (hidT s₁.heap H) := fun b o e => hidT_get (KX b o e) (hKH b o e)
  obtain ⟨mc, l1, l2⟩ := hlim
  have e0 : Env0 P w K mg (hidT s₁.heap H) callerA [] s₁ H :=
    ⟨rfl, ⟨kb, ns' hns, ⟨mb, ns' hb, hbb⟩, ⟨mc, ns' l1, l2⟩⟩, fun b o e => of_hidT e, Nat.le_of_eq (hidT_size _ _), trivial, fun b hb => absurd (show b ∈ ([] : List Addr) from hb) (by simp), hok, .of_eq hg⟩
  refine codeAny_mono ((F _ kb (ns' hns)).go callerA [] s₁ H _ [.ref a] [.ref a] _ _ hr rfl e0 (hbind s₁ (.ref a)) (.cons rfl .nil) hs) ?_
  intro r s' h
  match r, h with
  | .error _, ⟨_, _, _, _, _, _, _, _, _, _, _, _, z⟩ => exact z.elim
  | .ok .next, h => exact h.elim
  | .ok .brk, h => exact h.elim
  | .ok .cont, h => exact h.elim
  | .ok (.ret u), ⟨v, H', os, bare, un, hok', r', q⟩ =>
    cases (show v = .bl true from q)
    cases (show u = Value.bool true from r')
    refine ⟨rfl, OldK.of_keep fun b o e => ?_, os, bare⟩
    rcases hO b with z | ⟨ob, xs, z⟩
    · exact un.keep b o e z (by intro y; exact absurd (show b ∈ ([] : List Addr) from y) (by simp)) (by simp)
    · have z1 := (hok b _ z).1
      rw [e] at z1
      cases z1
      exact (hok' b _ (un.frzs b _ _ z)).1
theorem lawG {vs : List Value} {ns : List Int} (KX : K.In s₁.heap) (hns : s₁.heap.Ns mainGlobals mg) (hb : s₁.heap.Ns builtinsNs mb) (hbb : ∀ x : Str, x ≠ "__name__" → mb x = bootBuiltins x) (hlim : s₁.heap.NoLimit) (hg : s₁.gens = #[])
    (ha : s₁.heap.get? a = some { cls := .type "list", data := .seq vs.toArray }) (hi : IntsAre vs ns) (hl : ns.length ≤ sizeLine) (hr : Room k callerA)
    (F : ∀ base : Heap, K.In base → base.Ns mainGlobals mg → FnG P w K mg base k fa fd [x] sp) (hbind : ∀ (s : Shared) (u : Value), BindsTo s fd ⟨[u], []⟩ [(x, u)])
    (hsp : ∀ H : Hp, Only H → SqL K H a (ns.map V.int) → sp [.ref a] H (fun v _ => v = .bl true) fun _ _ _ => False) :
    codeAny (model P w) callerA (.call (.ref fa) ⟨[.ref a], []⟩) (fun r s' => r = .ok (.ret (.bool true)) ∧ OldK s₁.heap s'.heap ∧ s'.os = s₁.os ∧ AllBare s'.gens) s₁ := by
  cases hk : K.lookup a with
  | some o =>
    have eo : o = { cls := .type "list", data := .seq vs.toArray } := Option.some.inj ((KX a o hk).symm.trans ha)
    subst eo
    refine lawG_from (S := .non) KX hns hb hbb hlim hg hr F hbind (fun _ => .inl rfl) (fun b u z => nomatch (show (none : Option HO) = some u from z)) (fun _ _ _ => rfl) (fun _ _ _ _ _ _ => rfl) (hsp (fun _ => none) (fun _ => .inl rfl) (.inr ⟨_, vs.toArray, _, hk, rfl, rfl, rfl, ?_, ?_⟩))
    · rw [List.size_toArray, hi.length]
      exact hl
    · simpa using vals_ints hi
  | none =>
    let fz : HO := .frz { cls := .type "list", data := .seq vs.toArray } (.lst (ns.map V.int))
    let H : Hp := fun b => if b = a then some fz else none
    have at_a : H a = some fz := if_pos rfl
    have off : ∀ {b}, b ≠ a → H b = none := fun n => if_neg n
    have hO : Only H := fun b => if e : b = a then .inr ⟨_, _, e ▸ at_a⟩ else .inl (off e)
    refine lawG_from (S := .non) KX hns hb hbb hlim hg hr F hbind hO (fun b u z => ?_) (fun b o e => off fun q => ?_) (fun b o es ep e d => off fun q => ?_) (hsp H hO (.inl (.inr ⟨_, at_a⟩)))
    · by_cases e : b = a
      · subst e
        rw [at_a] at z
        cases z
        exact ⟨ha, by rw [List.length_map]; exact hl, vs, _, vals_ints hi, ha⟩
      · rw [off e] at z
        cases z
    · rw [q, hk] at e
      cases e
    · rw [q, ha] at e
      cases e
      cases (show Data.seq vs.toArray _ = Data.dict es ep from d)
end
/-- the goal that the head leaves, from the law's own meaning: the value function m of its body answers True -/
theorem walkG {l : PySem.W.OpenLaw} {n k : Nat} {q : Program} {loose : List Str} {XP : (Str → Option Value) → Heap → Prop} {YP : World → Heap → Prop} {d : DefRec} {K : Params → PySem.W.Frag} {x : Str} {m : Ga → Res (Ga × R)}
    (hn : l.most = some n) (hn2 : n ≤ sizeLine) (hdf : d.params.defaults = []) (hr : Room k callerA)
    (hY : ∀ (w : World) (h : Heap), YP w h → (K w.params).In h)
    (F : ∀ (w : World) (mg : Str → Option Value) (fa : Addr) (h : Heap), (K w.params).In h → h.Ns mainGlobals mg → mg d.name = some (.ref fa) →
      ∃ fd : FuncData, (∀ (s : Shared) (u : Value), BindsTo s fd ⟨[u], []⟩ [(x, u)]) ∧
        ∀ base : Heap, (K w.params).In base → base.Ns mainGlobals mg → FD l.prog w (K w.params) mg base k fa fd [x] m)
    (law : ∀ ns : List Int, ns.length ≤ n → (∀ z ∈ ns, Builtin.Int.intBits z ≤ 1048576) → ∃ Γ, m [.scr ns] = .ok (Γ, .d (.bool true))) :
    PySem.W.WalkO q loose XP YP l.row.toRowW d [] (fun f vs => PySem.call f vs) := by
  refine Att.attach_callB hn hdf fun w s₀ s₁ mg mb fa o pm cd doc a vs ns G Y ho hd hcd hmg hobj hints hlen hbits hg => ?_
  have KX := hY w _ Y
  obtain ⟨fd, hb, hF⟩ := F w mg fa _ KX G.T.g hmg
  refine lawG KX G.T.g G.T.b G.T.builtins G.T.nolimit hg hobj hints (Nat.le_trans hlen hn2) hr (fun base h1 h2 => (hF base h1 h2).ok) hb fun H hO hS => ?_
  obtain ⟨Γ', e⟩ := law ns hlen hbits
  refine ⟨rfl, H, [.scr ns], ?_, ?_⟩
  · refine ⟨Ex.refl _, rfl, fun i y q => ?_, fun i ms q => ?_, fun i b xs q => ?_, fun i j b c xs ys p _ q => ?_, Grow.refl _ _ _⟩
    · match i, q with
      | 0, q => cases q
      | i + 1, q => simp at q
    · match i, q with
      | 0, q => cases q; exact ⟨a, rfl, hS⟩
      | i + 1, q => simp at q
    · match i, q with
      | 0, q => cases q
      | i + 1, q => simp at q
    · match i, q with
      | 0, q => cases q
      | i + 1, q => simp at q
  · rw [e]
    intro v H0' H' ok r
    rcases r with r
    cases r with
    | d r => cases r; rfl
end Mi
namespace Mi
open PySem PySem.Spec PyProof.Rows L2 Evl
section
variable {X : Cx} {E : XK} {e a b c : Expr} {pos : Pos} {x : Str} {p : Pos}

/-! ### names of the module -/
theorem jd_gint {n : Int} {t : Tok} (hg : Gl X x) (hm : X.mg x = some (.int n t)) (hd : (x == ("__debug__" : Str)) = false := by decide) : JD X E (.Name x p) (sC (.int n)) := jd_const (pe_glob (v := .int n) hg hm ⟨t, rfl⟩ hd) rfl fun _ _ => .int n
theorem jd_gstr {z : Str} {t : Tok} (hg : Gl X x) (hm : X.mg x = some (.str z t)) (hd : (x == ("__debug__" : Str)) = false := by decide) : JD X E (.Name x p) (sC (.str z)) := jd_const (pe_glob (v := .str z) hg hm ⟨t, rfl⟩ hd) rfl fun _ _ => .str z

/-! ### a op b op c -/
def sChain (g h : D → D → Res R) (sa sb sc : Ga → Res (Ga × D)) : Ga → Res (Ga × R) := fun Γ => (sa Γ).bind fun p => (sb p.1).bind fun q => (g p.2 q.2).bind fun z => match z with
  | .d (.bool true) => (sc q.1).bind fun r => (h q.2 r.2).bind fun y => .ok (r.1, y)
  | .d (.bool false) => .ok (q.1, .d (.bool false))
  | _ => .stuck
theorem chain_sound {f f' : Value → Value → Sem Value} {g h : D → D → Res R} {sa sb sc : Ga → Res (Ga × D)} {r r' : R2} {ta tb tc : TE}
    (hr : ∀ B σ Γ H0 H Q v u x y, EnvOk X.K B σ Γ H0 H → RpB X.K H0 H v x → RpB X.K H0 H u y → EW X B E σ Γ H0 H ((g x y).bind fun z => .ok (Γ, z)) Q → r v u H Q)
    (hr' : ∀ B σ Γ H0 H Q v u x y, EnvOk X.K B σ Γ H0 H → RpB X.K H0 H v x → RpB X.K H0 H u y → EW X B E σ Γ H0 H ((h x y).bind fun z => .ok (Γ, z)) Q → r' v u H Q)
    (ha : ∀ B σ Γ H0 H Q, EnvOk X.K B σ Γ H0 H → DW X B E σ Γ H0 H (sa Γ) Q → ta σ H Q) (hb : ∀ B σ Γ H0 H Q, EnvOk X.K B σ Γ H0 H → DW X B E σ Γ H0 H (sb Γ) Q → tb σ H Q) (hc : ∀ B σ Γ H0 H Q, EnvOk X.K B σ Γ H0 H → BW X B E σ Γ H0 H (sc Γ) Q → tc σ H Q) :
    ∀ B σ Γ H0 H Q, EnvOk X.K B σ Γ H0 H → EW X B E σ Γ H0 H (sChain g h sa sb sc Γ) Q → tChain r r' ta tb tc σ H Q := fun B σ Γ H0 H Q ok w => by
  show ta σ H fun x H1 => tb σ H1 fun y H2 => r x y H2 fun z H3 => ∃ k, z = .bl k ∧ (if k = true then tc σ H3 fun w' H4 => r' y w' H4 Q else Q (.bl false) H3)
  refine d_then ha wok_E ok w fun Γ1 x v H01 H1 w1 ok1 g1 l1 r1 => ?_
  refine d_then hb wok_E ok1 w1 fun Γ2 y u H02 H2 w2 ok2 g2 l2 r2 => ?_
  refine hr B σ Γ2 H02 H2 _ v u x y ok2 (.inl (r1.m g2.ex0)) (.inl r2) ?_
  cases hg : g x y with
  | stuck => simp only [hg] at w2; exact w2.elim
  | exc k z => simp only [hg] at w2; exact w2
  | ok z =>
    simp only [hg, bind_ok] at w2 ⊢
    intro vv H03 H3 ok3 g3 l3 r3
    have w3 := (wok_E (X := X) (E := E) (σ := σ) (B := B)).shift _ _ _ _ _ _ _ ok2 g3 l3 w2
    split at w3
    · cases r3 with
      | d r3 =>
        cases r3
        refine ⟨true, rfl, ?_⟩
        rw [if_pos rfl]
        refine b_then hc wok_E ok3 w3 fun Γ4 y4 u4 H04 H4 w4 ok4 g4 l4 r4 => ?_
        exact hr' B σ Γ4 H04 H4 Q u u4 y y4 ok4 (.inl ((r2.m g3.ex0).m g4.ex0)) r4 w4
    · cases r3 with
      | d r3 =>
        cases r3
        refine ⟨false, rfl, ?_⟩
        rw [if_neg Bool.false_ne_true]
        exact w3 _ H03 H3 ok3 (Grow.refl _ _ _) (Less.refl _) (.d (.bl _))
    · exact w3.elim
theorem je_chain {op op' : CmpOp} {g h : D → D → Res R} {sa sb sc : Ga → Res (Ga × D)} (o : OpD X E (compareOp op) g) (o' : OpD X E (compareOp op') h) (ha : JD X E a sa) (hb : JD X E b sb) (hc : JB X E c sc) (hm : lastMarks [op, op'] [b, c] = false := by with_unfolding_all rfl) :
    JE X E (.Compare a [op, op'] [b, c] pos) (sChain g h sa sb sc) := by
  obtain ⟨r, z, hr⟩ := o
  obtain ⟨r', z', hr'⟩ := o'
  obtain ⟨ta, pa, ha⟩ := ha.ex
  obtain ⟨tb, pb, hb⟩ := hb.ex
  obtain ⟨tc, pc, hc⟩ := hc.ex
  exact ⟨_, pe_chain z z' pa pb pc hm, chain_sound (f := compareOp op) (f' := compareOp op') hr hr' ha hb hc⟩
theorem jt_chain {op op' : CmpOp} {g h : D → D → Res R} {sa sb sc : Ga → Res (Ga × D)} (o : OpD X E (compareOp op) g) (o' : OpD X E (compareOp op') h) (ha : JD X E a sa) (hb : JD X E b sb) (hc : JB X E c sc) (hm : lastMarks [op, op'] [b, c] = false := by with_unfolding_all rfl) :
    JT X E (.Compare a [op, op'] [b, c] pos) (sTst (sChain g h sa sb sc)) := by
  obtain ⟨r, z, hr⟩ := o
  obtain ⟨r', z', hr'⟩ := o'
  obtain ⟨ta, pa, ha⟩ := ha.ex
  obtain ⟨tb, pb, hb⟩ := hb.ex
  obtain ⟨tc, pc, hc⟩ := hc.ex
  exact ⟨_, pt_chain z z' pa pb pc hm, tst_sound (chain_sound (f := compareOp op) (f' := compareOp op') hr hr' ha hb hc)⟩

/-! ### the script's length -/
def sLenScr (i : Nat) : Ga → Res (Ga × R) := fun Γ => match Γ[i]? with
  | some (.scr ns) => .ok (Γ, .d (.int ns.length))
  | _ => .stuck
theorem je_lenScr {i : Nat} {y : Str} {q : Pos} (hg : Gl X y) (hm : X.mg y = none) (hv : bootBuiltins y = some (.builtin "len")) (pa : PE X e (tVar i)) (hn : y ≠ "__name__" := by decide) (hdb : (y == ("__debug__" : Str)) = false := by decide)
    (hst : starEach (e :: []) X.env = (false, eval e X.env) :: starEach [] X.env := by rfl) : JE X E (.Call (.Name y q) [e] [] pos) (sLenScr i) := by
  refine ⟨_, pe_callB call_len_seq hg hm hv (pa_cons pa pa_nil hst) hn hdb hst rfl, fun B σ Γ H0 H Q ok w => ?_⟩
  unfold sLenScr at w
  split at w
  · rename_i ns hns
    obtain ⟨p, e1, hq⟩ := ok.scr i ns hns
    refine ⟨_, e1, p, _, rfl, .inl (ex_l ok.sub hq), ?_⟩
    have w := w (.int ns.length) H0 H ok (Grow.refl _ _ _) (Less.refl _) (.d (.int _))
    rw [List.length_map]
    exact w
  · exact w.elim

/-! ### x[k] op= e, ints -/
theorem get_list : PGet X (rIxL X.K) := by
  intro pins s σ H o i ov iv Q I ro ri h
  obtain ⟨p, xs, k, z, rfl, rfl, hq, he, q⟩ := h
  cases ro
  obtain ⟨t, rfl⟩ := ri
  obtain ⟨its, r, pl, hz⟩ := I.list hq
  obtain ⟨j, h1, h2, h3, h4, h5⟩ := atI_get he
  obtain ⟨v, ev, rv⟩ := r.get h2
  have hl := r.length
  have hn := line63
  have fin : EP X pins σ Q v s := ⟨z, H, I, rv, q⟩
  by_cases h0 : 0 ≤ k
  · refine wpAny_getItem_list (x := v) pl.isList h0 (by omega) ?_ fin
    rw [seqIndex_of h0 h5] at h1
    rw [Option.some.inj h1]
    simpa using ev
  · refine wpAny_getItem_list_neg (x := v) pl.isList (by omega) (by rw [List.size_toArray] <;> omega) (by omega) ?_ fin
    rw [seqIndex_neg (by omega) h4] at h1
    rw [List.size_toArray, ← hl, Option.some.inj h1]
    simpa using ev
def sAugAt (g : Int → Int → Int) (i : Nat) (k v : Ga → Res (Ga × D)) : Ga → Res (Ga × Fl) := fun Γ => match ownAt Γ i with
  | some _ => (k Γ).bind fun p => match ownAt p.1 i, p.2 with
    | some (_, xs), .int n => (match ixN xs.length n with
      | some j => (match xs[j]? with
        | some (.int y) => (v p.1).bind fun q => match ownAt q.1 i, q.2 with
          | some (b', xs'), .int d => if xs'.length = xs.length then .ok (q.1.set i (.own b' (xs'.set j (.int (g y d)))), .nx) else .stuck
          | _, _ => .stuck
        | _ => .stuck)
      | none => .stuck)
    | _, _ => .stuck
  | none => .stuck
theorem js_augAt {i : Nat} {op : Operator} {g : Int → Int → Int} {sk sv : Ga → Res (Ga × D)} {tpos : Pos} (hp : PE X a (tVar i)) (hk : JD X E b sk) (hv : JD X E e sv) (ho : ∀ {X : Cx}, PIp X op (ipI g))
    (ha : ∀ ov iv new, augStore b ov iv new = (do holding [new, ov, iv] (setItem ov iv new); release [new, ov, iv] []; pure .next) := by intros; rfl) :
    JS X E (.AugAssign (.Subscript a b tpos) op e pos) (sAugAt g i sk sv) := by
  obtain ⟨t, p, hke⟩ := hk.ex
  obtain ⟨u, q, hve⟩ := hv.ex
  refine ⟨_, ps_augS hp p get_list q ho set_list ha, fun B σ Γ H0 H Dn ok w => ?_⟩
  unfold sAugAt at w
  show tVar i σ H fun o H1 => t σ H1 fun n H2 => rIxL X.K o n H2 fun x H3 => u σ H3 fun y H4 => ipI g x y H4 fun z H5 => rSetL o n z H5 fun H6 => Dn.nx σ H6
  split at w
  · rename_i bx hbx
    obtain ⟨b0, xs0⟩ := bx
    obtain ⟨r, us, q1, q2, q3, q4, _⟩ := ok.own i _ _ (ownAt_eq hbx)
    refine ⟨.ref r, q1, d_then hke wok_S ok w fun Γ1 n nv H01 H1 w1 ok1 g1 l1 r1 => ?_⟩
    split at w1
    · rename_i b xs k hx hk
      have hk : n = .int k := hk
      subst hk
      cases r1
      split at w1
      · rename_i j hj
        split at w1
        · rename_i y hy
          have hx := ownAt_eq hx
          obtain ⟨vs, h1, h2, h3⟩ := own_same (xs := xs0) (b := b0) q1 ok1 hx
          obtain ⟨yv, ey, ry⟩ := h3.get hy
          cases ry
          refine ⟨r, vs, k, .int y, rfl, rfl, .inl (.inl h1), ?_, ?_⟩
          · unfold atI
            rw [h3.len, hj]
            exact ey
          · refine d_then hve wok_S ok1 w1 fun Γ2 dd dv H02 H2 w2 ok2 g2 l2 r2 => ?_
            split at w2
            · rename_i b' xs' d hx' hd
              have hd : dd = .int d := hd
              subst hd
              cases r2
              split at w2
              · rename_i hlen
                have hx' := ownAt_eq hx'
                obtain ⟨vs', h1', h2', h3'⟩ := own_same (xs := xs0) (b := b0) q1 ok2 hx'
                refine ⟨_, _, rfl, rfl, r, vs', k, j, rfl, rfl, h1', by rw [h3'.len, hlen]; exact hj, ?_⟩
                exact w2 σ H02 _ (ok2.setOwn hx' q1 (h3'.set j (.int _))) (Ex.refl _)
              · exact w2.elim
            · exact w2.elim
        · exact w1.elim
      · exact w1.elim
    · exact w1.elim
  · exact w.elim

/-! ### the defs of the text, by name -/
structure Def (K : PySem.W.Frag) (mg : Str → Option Value) (x : Str) (st : Stmt) (ps : List Str) (f : Addr) (fd : FuncData) : Prop where
  fn : Fun K x x st f fd
  at_ : mg x = some (.ref f)
  bd : Binds K fd ps []
structure Has (P : Program) (w : World) (K : PySem.W.Frag) (mg : Str → Option Value) (base : Heap) (x : Str) (k : Nat) (ps : List Str) (m : Ga → Res (Ga × R)) : Prop where
  ex : ∃ f fd, FD P w K mg base k f fd ps m ∧ mg x = some (.ref f) ∧ PySem.W.keepIn K (.ref f) = true ∧ Binds K fd ps []
theorem je_callH {j k : Nat} {ps : List Str} {m : Ga → Res (Ga × R)} {es : List Expr} {ks : List (Option Nat)} {s : Ga → Res (Ga × List D)} (F : Has X.prog X.w X.K X.mg X.base x j ps m) (hr : Room k X.A) (hj : j ≤ k) (hq : X.A.guards = some []) (hg : Gl X x) (tk : Takes X fun cls d _ H => E cls d H) (ha : JP X E (e :: es) ks s) (nd : (ks.filterMap id).Nodup) (hl : ks.length = ps.length)
    (hdb : (x == ("__debug__" : Str)) = false := by decide) (he : starEach (e :: es) X.env = (false, eval e X.env) :: starEach es X.env := by rfl) (hpl : (backTo pos (starEach es X.env)).any (·.1) = false := by rfl) :
    JE X E (.Call (.Name x p) (e :: es) [] pos) (callS m ks s) := by
  obtain ⟨f, fd, G, hm, hk, hb⟩ := F.ex
  exact je_call G (hr.mono hj) hq hg hm hk hb tk ha nd hl hdb he hpl
theorem je_callH0 {j k : Nat} {m : Ga → Res (Ga × R)} (F : Has X.prog X.w X.K X.mg X.base x j [] m) (hr : Room k X.A) (hj : j ≤ k) (hq : X.A.guards = some []) (hg : Gl X x) (tk : Takes X fun cls d _ H => E cls d H)
    (hdb : (x == ("__debug__" : Str)) = false := by decide) : JE X E (.Call (.Name x p) [] [] pos) (callS m [] sNil) := by
  obtain ⟨f, fd, G, hm, hk, hb⟩ := F.ex
  exact je_call0 G (hr.mono hj) hq hg hm hk hb tk hdb
end
section
variable {P : Program} {w : World} {K : PySem.W.Frag} {mg : Str → Option Value} {base : Heap}
theorem has_of {x : Str} {st : Stmt} {ps N : List Str} {f : Addr} {fd : FuncData} {k : Nat} {body : Ga → Res (Ga × Fl)} (D : Def K mg x st ps f fd) (S : FnScope N ps (defScope st))
    (hbody : ∀ (cdv : Value) (A : Around) (outer : List Env) (s : Shared) (H : Hp) (E : XK), Room k (A.deeper (envOfC x (defScope st) s.heap.objs.size f cdv)) → A.guards = some [] →
      JSs (cxOf (L2.CX P w) P w K mg base N x (defScope st) f cdv A outer s H E) E (defBody st) body) : Has P w K mg base x (k + 1) ps (defS ps.length (N.length - ps.length) body) :=
  ⟨f, fd, fd_of D.fn S hbody, D.at_, D.fn.kp, D.bd⟩
end
end Mi
namespace Mi
open PySem PySem.Spec PyProof.Rows L2 Evl

/-! ### the plain law: what the terms compute -/
section
variable {Γ : Ga} {i j k n l : Nat} {x y : D} {xs ys : List D} {g h : D → D → Res R}
@[simp] theorem q_pub {s : Ga → Res (Ga × R)} : sPub s Γ = (s Γ).bind fun p => .ok (p.1, pubR p.2) := rfl
@[simp] theorem q_dat {s : Ga → Res (Ga × D)} : sDat s Γ = (s Γ).bind fun p => .ok (p.1, .d p.2) := rfl
@[simp] theorem q_pubd : pubR (.d x) = x := rfl
@[simp] theorem q_pubf : pubR (.f xs) = .list xs := rfl
theorem q_name (e : Γ[i]? = some (.d x)) : sName i Γ = .ok (Γ, x) := by unfold sName; rw [e]
@[simp] theorem q_nameU : sName i Γ = match Γ[i]? with | some (.d x) => .ok (Γ, x) | some (.own false xs) => .ok (Γ.set i (.d (.list xs)), .list xs) | _ => .stuck := rfl
@[simp] theorem q_slD : slD Γ i = match Γ[i]? with | some (.d x) => .ok x | some (.own _ xs) => .ok (.list xs) | _ => .stuck := rfl
@[simp] theorem q_bor : sBor i Γ = (slD Γ i).bind fun x => .ok (Γ, x) := rfl
@[simp] theorem q_C : sC x Γ = .ok (Γ, x) := rfl
@[simp] theorem q_bin {sa sb : Ga → Res (Ga × D)} : sBin g sa sb Γ = (sa Γ).bind fun p => (sb p.1).bind fun q => (g p.2 q.2).bind fun z => .ok (q.1, z) := rfl
@[simp] theorem q_binN {sb : Ga → Res (Ga × D)} : sBinN g i sb Γ = (slD Γ i).bind fun _ => (sb Γ).bind fun q => (slD q.1 i).bind fun x => (g x q.2).bind fun z => .ok (q.1, z) := rfl
@[simp] theorem q_tst {s : Ga → Res (Ga × R)} : sTst s Γ = (s Γ).bind asB := rfl
@[simp] theorem q_asB {b : Bool} : asB (Γ, .d (.bool b)) = .ok (Γ, b) := rfl
@[simp] theorem q_and {s u : Ga → Res (Ga × Bool)} : sAnd s u Γ = (s Γ).bind fun p => if p.2 = true then u p.1 else .ok (p.1, false) := rfl
@[simp] theorem q_or {s u : Ga → Res (Ga × Bool)} : sOr s u Γ = (s Γ).bind fun p => if p.2 = true then .ok (p.1, true) else u p.1 := rfl
@[simp] theorem q_not {s : Ga → Res (Ga × Bool)} : sNot s Γ = (s Γ).bind fun p => .ok (p.1, !p.2) := rfl
@[simp] theorem q_val {s : Ga → Res (Ga × Bool)} : sVal s Γ = (s Γ).bind fun p => .ok (p.1, .d (.bool p.2)) := rfl
@[simp] theorem q_if {c : Ga → Res (Ga × Bool)} {s u : Ga → Res (Ga × R)} : sIf c s u Γ = (c Γ).bind fun p => if p.2 = true then s p.1 else u p.1 := rfl
@[simp] theorem q_un {g : D → Res R} {s : Ga → Res (Ga × D)} : sUn g s Γ = (s Γ).bind fun p => (g p.2).bind fun z => .ok (p.1, z) := rfl
@[simp] theorem q_nil : sNil Γ = .ok (Γ, []) := rfl
@[simp] theorem q_cons {s : Ga → Res (Ga × D)} {r : Ga → Res (Ga × List D)} : sCons s r Γ = (s Γ).bind fun p => (r p.1).bind fun q => .ok (q.1, p.2 :: q.2) := rfl
@[simp] theorem q_star {s : Ga → Res (Ga × D)} {r : Ga → Res (Ga × List D)} : sStar s r Γ = (s Γ).bind fun p => (starD p.2).bind fun xs => (r p.1).bind fun q => .ok (q.1, xs ++ q.2) := rfl
@[simp] theorem q_starl : starD (.list xs) = .ok xs := rfl
@[simp] theorem q_start : starD (.tuple xs) = .ok xs := rfl
@[simp] theorem q_tup {s : Ga → Res (Ga × List D)} : sTup s Γ = (s Γ).bind fun p => if p.2.length ≤ sizeLine then .ok (p.1, .d (.tuple p.2)) else .stuck := rfl
@[simp] theorem q_lst {s : Ga → Res (Ga × List D)} : sLst s Γ = (s Γ).bind fun p => if p.2.length ≤ sizeLine then .ok (p.1, .f p.2) else .stuck := rfl
@[simp] theorem q_noO : sNoO Γ = .ok (Γ, none) := rfl
@[simp] theorem q_someO {s : Ga → Res (Ga × D)} : sSomeO s Γ = (s Γ).bind fun p => match p.2 with | .int i => .ok (p.1, some i) | _ => .stuck := rfl
@[simp] theorem q_sl {s : Ga → Res (Ga × D)} {lo hi : Ga → Res (Ga × Option Int)} : sSl s lo hi Γ = (s Γ).bind fun p => (lo p.1).bind fun q => (hi q.1).bind fun r => (slG p.2 q.2 r.2).bind fun z => .ok (r.1, z) := rfl
@[simp] theorem q_slN {lo hi : Ga → Res (Ga × Option Int)} : sSlN i lo hi Γ = (slD Γ i).bind fun _ => (lo Γ).bind fun q => (hi q.1).bind fun r => (slD r.1 i).bind fun x => (slG x q.2 r.2).bind fun z => .ok (r.1, z) := rfl
@[simp] theorem q_slGl {lo hi : Option Int} : slG (.list xs) lo hi = .ok (.f (cutD xs lo hi)) := rfl
@[simp] theorem q_slGt {lo hi : Option Int} : slG (.tuple xs) lo hi = .ok (.d (.tuple (cutD xs lo hi))) := rfl
@[simp] theorem q_callB {g : List D → Res R} {s : Ga → Res (Ga × List D)} : sCallB g s Γ = (s Γ).bind fun p => (g p.2).bind fun z => .ok (p.1, z) := rfl
@[simp] theorem q_lenScr {ns : List Int} (e : Γ[i]? = some (.scr ns)) : sLenScr i Γ = .ok (Γ, .d (.int ns.length)) := by unfold sLenScr; rw [e]

@[simp] theorem q_chain {sa sb sc : Ga → Res (Ga × D)} : sChain g h sa sb sc Γ = (sa Γ).bind fun p => (sb p.1).bind fun q => (g p.2 q.2).bind fun z => match z with
  | .d (.bool true) => (sc q.1).bind fun r => (h q.2 r.2).bind fun y => .ok (r.1, y)
  | .d (.bool false) => .ok (q.1, .d (.bool false))
  | _ => .stuck := rfl
/-! statements -/
@[simp] theorem q_skip : sSkip Γ = .ok (Γ, .nx) := rfl

@[simp] theorem q_cond {c : Ga → Res (Ga × Bool)} {s u : Ga → Res (Ga × Fl)} : sCond c s u Γ = (c Γ).bind fun p => if p.2 = true then s p.1 else u p.1 := rfl
end
end Mi
namespace Mi
open PySem PySem.Spec PyProof.Rows L2 Evl

/-! ### the state seen with more or with less of it as data -/
theorem EnvOk.view {K : PySem.W.Frag} {B : Bg} {σ : L2.St} {Γ Γ' : Ga} {H0 H0' H : Hp} (ok : EnvOk K B σ Γ H0 H) (sub : Ex H0' H) (len : Γ'.length = Γ.length) (old : ∀ p, B.He p ≠ none → H0' p = H0 p) (ex : Ex B.He0 H0')
    (dat : ∀ (i : Nat) x, Γ'[i]? = some (.d x) → ∃ v, σ[i]? = some (some v) ∧ Rp K H0' v x) (scr : ∀ (i : Nat) ns, Γ'[i]? ≠ some (.scr ns))
    (own : ∀ (i : Nat) b xs, Γ'[i]? = some (.own b xs) → Γ[i]? = some (.own b xs) ∧ ∀ a vs, σ[i]? = some (some (.ref a)) → RpAll K H0 vs xs → H0' a = none ∧ RpAll K H0' vs xs) : EnvOk K B σ Γ' H0' H where
  sub := sub
  len := len.trans ok.len
  dat := dat
  scr := fun i ns h => absurd h (scr i ns)
  own := fun i b xs h => by
    obtain ⟨h1, h2⟩ := own i b xs h
    obtain ⟨a, vs, e1, e2, e3, e4, e5⟩ := ok.own i b xs h1
    obtain ⟨n, r⟩ := h2 a vs e1 e4
    exact ⟨a, vs, e1, n, e3, r, e5⟩
  apart := fun i j b c xs ys a hij h1 h2 => ok.apart i j b c xs ys a hij (own i b xs h1).1 (own j c ys h2).1
  grow := ⟨ex, ok.grow.keep, fun p e n => (old p e).trans (ok.grow.old p e n), ok.grow.live⟩

/-! ### name = [..], the new object in hand; and one whose elements are new lists -/
section
variable {X : Cx} {E : XK} {elt tg iter : Expr} {pos : Pos}
theorem setLc_t {i : Nat} {y : Str} {py spos : Pos} {s : Ga → Res (Ga × List D)} {g : D → Ga → Option Ga} {tt : Ga → Res (Ga × Bool)} {te : Ga → Res (Ga × D)} {ifs : List Expr} {scope : Scope} {own : List (Str × Nat)} (hc : X.calm = true) (hN : X.N.Nodup) (hy : X.N[i]? = some y) (hyl : X.env.scope.names.lookup y = some .local)
    (hsw : swapsWith (.ListComp elt [⟨tg, iter, ifs, 0⟩] scope pos) (some (.Name y py)) spos.line X.env = pure true) (hi : JI X E tg iter s) (ok : BlkOk X.N X.env.scope scope own)
    (hg : ∀ (s : Shared) (H : Hp) (C : Addr) (cl : List (Str × Addr)) (fp : List Addr), JGw (X.blk s H scope (compEnvC scope cl C X.env) fp) (own.map (·.2)) tg g)
    (ht : ∀ (s : Shared) (H : Hp) (C : Addr) (cl : List (Str × Addr)) (fp : List Addr), JTs (X.blk s H scope (compEnvC scope cl C X.env) fp) E0 ifs tt)
    (he : ∀ (s : Shared) (H : Hp) (C : Addr) (cl : List (Str × Addr)) (fp : List Addr), JD (X.blk s H scope (compEnvC scope cl C X.env) fp) E0 elt te)
    (hs : ∀ x, foldedSetIterable iter X.env x = pure x := by intro _; rfl) :
    ∃ t, PS X (.Assign [.Name y py] (.ListComp elt [⟨tg, iter, ifs, 0⟩] scope pos) spos) (tAsg t (gName i)) ∧ ∀ B σ Γ H0 H Q, EnvOk X.K B σ Γ H0 H → EW X B E σ Γ H0 H (sLc s g tt te (own.map (·.2)) Γ) Q → t σ H Q := by
  obtain ⟨wi, pi, hi⟩ := hi.ex
  refine ⟨_, ps_setLc (g := TGc X (own.map (·.2)) g) (tt := TTc X E0 tt) (te := TDc X E0 te) hc hN hy hyl hsw pi ok (fun s H C cl fp => ?_) (fun s H C cl fp => ?_) (fun s H C cl fp => ?_) hs, ?_⟩
  · obtain ⟨t, p, h⟩ := (hg s H C cl fp).ex
    exact ⟨fun pins s σ H v u Q I r ⟨B, Γ, H0, x, Γ', o, rx, e, k⟩ => p.run pins s σ H v u Q I r (h B σ Γ H0 H v x Γ' Q o rx e k)⟩
  · obtain ⟨t, p, h⟩ := (ht s H C cl fp).ex
    exact ⟨fun pins s σ H Q I ⟨B, Γ, H0, o, w⟩ => p.run pins s σ H Q I (h B σ Γ H0 H Q o w)⟩
  · obtain ⟨t, p, h⟩ := (he s H C cl fp).ex
    exact ⟨fun pins s σ H Q I ⟨B, Γ, H0, o, w⟩ => p.run pins s σ H Q I (h B σ Γ H0 H Q o w)⟩
  · exact lc_sound (X := X) (E := E) (X' := X) (vs := own.map (·.2)) (s := s) (g := g) (tt := tt) (te := te) (tg' := TGc X (own.map (·.2)) g) (tt' := TTc X E0 tt) (te' := TDc X E0 te) rfl hi
      (fun B σ Γ H0 H v x Γ' Q o rx e k => ⟨B, Γ, H0, x, Γ', o, rx, e, k⟩) (fun B σ Γ H0 H Q o w => ⟨B, Γ, H0, o, w⟩) (fun B σ Γ H0 H Q o w => ⟨B, Γ, H0, o, w⟩)
/-- the elements as they come: new lists -/
def TEc (X : Cx) (E : XK) (s : Ga → Res (Ga × R)) : TE := fun σ H Q => ∃ B Γ H0, EnvOk X.K B σ Γ H0 H ∧ EW X B E σ Γ H0 H (s Γ) Q
theorem setLcE_t {i : Nat} {y : Str} {py spos : Pos} {s : Ga → Res (Ga × List D)} {g : D → Ga → Option Ga} {te : Ga → Res (Ga × R)} {scope : Scope} {own : List (Str × Nat)} (hc : X.calm = true) (hN : X.N.Nodup) (hy : X.N[i]? = some y) (hyl : X.env.scope.names.lookup y = some .local)
    (hsw : swapsWith (.ListComp elt [⟨tg, iter, [], 0⟩] scope pos) (some (.Name y py)) spos.line X.env = pure true) (hi : JI X E tg iter s) (ok : BlkOk X.N X.env.scope scope own)
    (hg : ∀ (s : Shared) (H : Hp) (C : Addr) (cl : List (Str × Addr)) (fp : List Addr), JGw (X.blk s H scope (compEnvC scope cl C X.env) fp) (own.map (·.2)) tg g)
    (he : ∀ (s : Shared) (H : Hp) (C : Addr) (cl : List (Str × Addr)) (fp : List Addr), JE (X.blk s H scope (compEnvC scope cl C X.env) fp) E0 elt te)
    (hs : ∀ x, foldedSetIterable iter X.env x = pure x := by intro _; rfl) :
    ∃ wi, PS X (.Assign [.Name y py] (.ListComp elt [⟨tg, iter, [], 0⟩] scope pos) spos) (tAsg (tLc wi (TGc X (own.map (·.2)) g) (TTc X E0 sYes) (TEc X E0 te) (own.map (·.2))) (gName i)) ∧ ∀ B σ Γ H0 H R, EnvOk X.K B σ Γ H0 H → IW X B E σ Γ H0 H (s Γ) R → wi σ H R := by
  obtain ⟨wi, pi, hi⟩ := hi.ex
  refine ⟨wi, ps_setLc (g := TGc X (own.map (·.2)) g) (tt := TTc X E0 sYes) (te := TEc X E0 te) hc hN hy hyl hsw pi ok (fun s H C cl fp => ?_) (fun s H C cl fp => ?_) (fun s H C cl fp => ?_) hs, hi⟩
  · obtain ⟨t, p, h⟩ := (hg s H C cl fp).ex
    exact ⟨fun pins s σ H v u Q I r ⟨B, Γ, H0, x, Γ', o, rx, e, k⟩ => p.run pins s σ H v u Q I r (h B σ Γ H0 H v x Γ' Q o rx e k)⟩
  · obtain ⟨t, p, h⟩ := (jts_nil (X := X.blk s H scope (compEnvC scope cl C X.env) fp) (E := E0)).ex
    exact ⟨fun pins s σ H Q I ⟨B, Γ, H0, o, w⟩ => p.run pins s σ H Q I (h B σ Γ H0 H Q o w)⟩
  · obtain ⟨t, p, h⟩ := (he s H C cl fp).ex
    exact ⟨fun pins s σ H Q I ⟨B, Γ, H0, o, w⟩ => p.run pins s σ H Q I (h B σ Γ H0 H Q o w)⟩
end
end Mi
namespace Mi
open PySem PySem.Spec PyProof.Rows L2 Evl

/-! ### a list of lists of one def, in slot 2: `ways` of cuts_by_length -/
def rowsD (rows : List (List Int)) : List D := rows.map fun r => .list (r.map .int)
theorem rpInts {K : PySem.W.Frag} {H : Hp} : ∀ ns : List Int, RpAll K H (ns.map V.int) (ns.map .int)
  | [] => .nil
  | n :: r => .cons (.int n) (rpInts r)
theorem ofInts {K : PySem.W.Frag} {H : Hp} : ∀ {ns : List Int} {vs : List V}, RpAll K H vs (ns.map .int) → vs = ns.map V.int
  | [], _, .nil => rfl
  | n :: r, _, .cons h t => by cases h; rw [ofInts t]; rfl
structure Cu (K : PySem.W.Frag) (B : Bg) (σ : L2.St) (Γ : Ga) (H0 H : Hp) (W : Addr) (ps : List Addr) (rows : List (List Int)) : Prop where
  ok : EnvOk K B σ Γ H0 H
  g2 : Γ[2]? = some .un
  flat : ∀ (i : Nat) x, Γ[i]? = some (.d x) → ∃ n, x = .int n
  flatO : ∀ (i : Nat) b xs, Γ[i]? = some (.own b xs) → ∃ ns : List Int, xs = ns.map .int
  noscr : ∀ (i : Nat) ns, Γ[i]? ≠ some (.scr ns)
  s2 : σ[2]? = some (some (.ref W))
  hW : H W = some (.lst (ps.map V.ref))
  nd : (W :: ps).Nodup
  len : ps.length = rows.length
  row : ∀ (j : Nat) p r, ps[j]? = some p → rows[j]? = some r → H p = some (.lst (r.map V.int))
  no0 : ∀ p, p ∈ W :: ps → H0 p = none ∧ B.He p = none ∧ B.He0 p = none ∧ ¬ OwnOf σ Γ p
section
variable {K : PySem.W.Frag} {B : Bg} {σ : L2.St} {Γ : Ga} {H0 H : Hp} {W : Addr} {ps : List Addr} {rows : List (List Int)}
theorem Cu.at_ (c : Cu K B σ Γ H0 H W ps rows) {p : Addr} (hp : p ∈ ps) : ∃ (j : Nat) (r : List Int), ps[j]? = some p ∧ rows[j]? = some r ∧ H p = some (.lst (r.map V.int)) := by
  obtain ⟨j, hj, rfl⟩ := List.getElem_of_mem hp
  have hr : j < rows.length := by rw [← c.len]; exact hj
  exact ⟨j, rows[j], List.getElem?_eq_getElem hj, List.getElem?_eq_getElem hr, c.row j _ _ (List.getElem?_eq_getElem hj) (List.getElem?_eq_getElem hr)⟩
theorem Cu.live (c : Cu K B σ Γ H0 H W ps rows) {p : Addr} (hp : p ∈ W :: ps) : H p ≠ none := by
  rcases List.mem_cons.mp hp with rfl | h
  · rw [c.hW]; simp
  · obtain ⟨_, _, _, _, e⟩ := c.at_ h; rw [e]; simp
open Classical in
/-- the objects at ps are data, too -/
noncomputable def plus (H0 H : Hp) (ps : List Addr) : Hp := fun p => if p ∈ ps then H p else H0 p
open Classical in
noncomputable def minus (H0 : Hp) (ps : List Addr) : Hp := fun p => if p ∈ ps then none else H0 p
theorem plus_in {ps : List Addr} {p : Addr} (h : p ∈ ps) : plus H0 H ps p = H p := if_pos h
theorem plus_out {ps : List Addr} {p : Addr} (h : p ∉ ps) : plus H0 H ps p = H0 p := if_neg h
theorem minus_in {ps : List Addr} {p : Addr} (h : p ∈ ps) : minus H0 ps p = none := if_pos h
theorem minus_out {ps : List Addr} {p : Addr} (h : p ∉ ps) : minus H0 ps p = H0 p := if_neg h
theorem plus_sub {ps : List Addr} (s : Ex H0 H) : Ex (plus H0 H ps) H := fun p o e => by
  by_cases h : p ∈ ps
  · rwa [plus_in h] at e
  · rw [plus_out h] at e; exact s _ _ e
theorem plus_ex {ps : List Addr} (s : Ex H0 H) : Ex H0 (plus H0 H ps) := fun p o e => by
  by_cases h : p ∈ ps
  · rw [plus_in h]; exact s _ _ e
  · rw [plus_out h]; exact e
theorem Cu.rows_rp (c : Cu K B σ Γ H0 H W ps rows) {G : Hp} (hG : ∀ p ∈ ps, G p = H p) : RpAll K G (ps.map V.ref) (rowsD rows) := by
  have go : ∀ (qs : List Addr) (rs : List (List Int)), qs.length = rs.length → (∀ (j : Nat) p r, qs[j]? = some p → rs[j]? = some r → G p = some (.lst (r.map V.int))) → RpAll K G (qs.map V.ref) (rowsD rs) := by
    intro qs
    induction qs with
    | nil => intro rs hl _; cases rs with
      | nil => exact .nil
      | cons _ _ => cases hl
    | cons q qs ih => intro rs hl h; cases rs with
      | nil => cases hl
      | cons r rs => exact .cons (.lst (h 0 q r rfl rfl) (rpInts r)) (ih rs (by simpa using hl) fun j p r' h1 h2 => h (j + 1) p r' (by simpa using h1) (by simpa using h2))
  exact go ps rows c.len fun j p r h1 h2 => by rw [hG p (List.mem_of_getElem? h1)]; exact c.row j p r h1 h2
/-- ways as data, for a while -/
theorem Cu.view (c : Cu K B σ Γ H0 H W ps rows) : EnvOk K B σ (Γ.set 2 (.d (.list (rowsD rows)))) (plus H0 H (W :: ps)) H := by
  have ex := plus_ex (ps := W :: ps) c.ok.sub
  refine c.ok.view (plus_sub c.ok.sub) (by simp) (fun p hp => plus_out fun h => hp (c.no0 p h).2.1) (c.ok.grow.ex0.trans ex) (fun i x h => ?_) (fun i ns h => ?_) fun i b xs h => ?_
  · rcases set_back h with ⟨rfl, e, _⟩ | ⟨_, h⟩
    · cases e
      refine ⟨_, c.s2, .lst (xs := ps.map V.ref) ?_ (c.rows_rp fun p hp => plus_in (List.mem_cons_of_mem _ hp))⟩
      rw [plus_in List.mem_cons_self]; exact c.hW
    · obtain ⟨v, e, r⟩ := c.ok.dat i x h
      exact ⟨v, e, r.m ex⟩
  · rcases set_back h with ⟨_, e, _⟩ | ⟨_, h⟩
    · cases e
    · exact c.noscr i ns h
  · rcases set_back h with ⟨_, e, _⟩ | ⟨_, h⟩
    · cases e
    · refine ⟨h, fun a vs e r => ⟨?_, r.m ex⟩⟩
      rw [plus_out fun z => (c.no0 a z).2.2.2 ⟨i, b, xs, h, e⟩]
      obtain ⟨a', _, e1, n, _⟩ := c.ok.own i b xs h
      rw [e] at e1; cases e1; exact n
/-- and back -/
theorem Cu.back (c : Cu K B σ Γ H0 H W ps rows) {Γ1 : Ga} {H01 H1 : Hp} {σ1 : L2.St} (ok : EnvOk K B σ1 Γ1 H01 H1) (ex : Ex (plus H0 H (W :: ps)) H01) (s2 : σ1[2]? = some (some (.ref W))) (hl : 2 < Γ1.length)
    (flat : ∀ (i : Nat) x, i ≠ 2 → Γ1[i]? = some (.d x) → ∃ n, x = .int n) (flatO : ∀ (i : Nat) b xs, Γ1[i]? = some (.own b xs) → ∃ ns : List Int, xs = ns.map .int) (noscr : ∀ (i : Nat) ns, Γ1[i]? ≠ some (.scr ns)) :
    Cu K B σ1 (Γ1.set 2 .un) (minus H01 (W :: ps)) H1 W ps rows := by
  have at1 : ∀ {p o}, p ∈ W :: ps → H p = some o → H01 p = some o := fun {p o} hp e => ex _ _ (by rw [plus_in hp]; exact e)
  have no : ∀ {p}, p ∈ W :: ps → ¬ OwnOf σ1 Γ1 p := fun {p} hp z => by
    have n := (ok.ownLive z).2
    cases q : H p with
    | none => exact c.live hp q
    | some o => rw [at1 hp q] at n; cases n
  have sub : Ex (minus H01 (W :: ps)) H1 := fun p o e => by
    by_cases h : p ∈ W :: ps
    · rw [minus_in h] at e; cases e
    · rw [minus_out h] at e; exact ok.sub _ _ e
  have set_un : ∀ {i : Nat} {s : Sl}, (Γ1.set 2 Sl.un)[i]? = some s → s ≠ .un → Γ1[i]? = some s ∧ i ≠ 2 := fun {i s} h n => by
    rcases set_back h with ⟨_, e, _⟩ | ⟨z, h⟩
    · exact absurd e n
    · exact ⟨h, z⟩
  refine ⟨ok.view sub (by simp) (fun p hp => minus_out fun h => hp (c.no0 p h).2.1) (fun p o e => ?_) (fun i x h => ?_) (fun i ns h => noscr i ns (set_un h (nofun)).1) (fun i b xs h => ?_), ?_, fun i x h => ?_, fun i b xs h => flatO i b xs (set_un h (nofun)).1, fun i ns h => noscr i ns (set_un h (nofun)).1, s2, ok.sub _ _ (at1 List.mem_cons_self c.hW), c.nd, c.len,
    fun j p r h1 h2 => ok.sub _ _ (at1 (List.mem_cons_of_mem _ (List.mem_of_getElem? h1)) (c.row j p r h1 h2)), fun p hp => ⟨minus_in hp, (c.no0 p hp).2.1, (c.no0 p hp).2.2.1, fun ⟨i, b, xs, h, e⟩ => no hp ⟨i, b, xs, (set_un h (nofun)).1, e⟩⟩⟩
  · rw [minus_out fun h => by rw [(c.no0 p h).2.2.1] at e; cases e]
    exact ok.grow.ex0 _ _ e
  · obtain ⟨h, n⟩ := set_un h (nofun)
    obtain ⟨k, rfl⟩ := flat i x n h
    obtain ⟨v, e, r⟩ := ok.dat i _ h
    cases r
    exact ⟨_, e, .int k⟩
  · obtain ⟨h, n⟩ := set_un h (nofun)
    refine ⟨h, fun a vs e r => ⟨?_, ?_⟩⟩
    · obtain ⟨a', _, e1, n0, _⟩ := ok.own i b xs h
      rw [e] at e1; cases e1
      by_cases z : a ∈ W :: ps
      · exact minus_in z
      · rw [minus_out z]; exact n0
    · obtain ⟨ns, rfl⟩ := flatO i b xs h
      rw [ofInts r]
      exact rpInts ns
  · rw [List.getElem?_set_self hl]
  · obtain ⟨h, n⟩ := set_un h (nofun)
    exact flat i x n h
/-- one row is changed -/
theorem Cu.put (c : Cu K B σ Γ H0 H W ps rows) {j : Nat} {p : Addr} {r : List Int} (hp : ps[j]? = some p) : Cu K B σ Γ H0 (upd H p (.lst (r.map V.int))) W ps (rows.set j r) := by
  have mp : p ∈ ps := List.mem_of_getElem? hp
  obtain ⟨n0, n1, n2, n3⟩ := c.no0 p (List.mem_cons_of_mem _ mp)
  have hWp : W ≠ p := fun z => (List.nodup_cons.mp c.nd).1 (z ▸ mp)
  refine ⟨c.ok.poke n0 n3 n1, c.g2, c.flat, c.flatO, c.noscr, c.s2, by rw [upd_ne hWp]; exact c.hW, c.nd, by simp [c.len], fun k q s h1 h2 => ?_, c.no0⟩
  by_cases e : k = j
  · subst e
    rw [hp] at h1; cases h1
    have hk : k < rows.length := by rw [← c.len]; exact (List.getElem?_eq_some_iff.mp hp).1
    rw [List.getElem?_set_self hk] at h2; cases h2
    exact upd_same
  · rw [List.getElem?_set_ne (Ne.symm e)] at h2
    have hq : q ≠ p := fun z => by
      subst z
      have hn := (List.nodup_cons.mp c.nd).2
      obtain ⟨a1, b1⟩ := List.getElem?_eq_some_iff.mp h1
      obtain ⟨a2, b2⟩ := List.getElem?_eq_some_iff.mp hp
      exact e ((List.getElem_inj hn).mp (b1.trans b2.symm))
    rw [upd_ne hq]
    exact c.row k q s h1 h2
end
end Mi
namespace Mi
open PySem PySem.Spec PyProof.Rows L2 Evl
section
variable {K : PySem.W.Frag} {B : Bg} {σ : L2.St} {Γ : Ga} {H0 H H01 H1 : Hp} {W : Addr} {ps : List Addr} {rows : List (List Int)}
theorem Cu.grow (c : Cu K B σ Γ H0 H W ps rows) (ok : EnvOk K B σ Γ H01 H1) (g : Grow (OwnOf σ Γ) H0 H H01 H1) : Cu K B σ Γ H01 H1 W ps rows :=
  ⟨ok, c.g2, c.flat, c.flatO, c.noscr, c.s2, g.keep _ _ c.hW (c.no0 W List.mem_cons_self).2.2.2, c.nd, c.len, fun j p r h1 h2 => g.keep _ _ (c.row j p r h1 h2) (c.no0 p (List.mem_cons_of_mem _ (List.mem_of_getElem? h1))).2.2.2,
    fun p hp => ⟨(g.old p (c.live hp) (c.no0 p hp).2.2.2).trans (c.no0 p hp).1, (c.no0 p hp).2⟩⟩
theorem Cu.drop (c : Cu K B σ Γ H0 H W ps rows) {i : Nat} (hi : i ≠ 2) : Cu K B σ (Γ.set i .un) H0 H W ps rows := by
  have bk : ∀ {j : Nat} {s : Sl}, (Γ.set i Sl.un)[j]? = some s → s ≠ .un → Γ[j]? = some s := fun {j s} h n => by
    rcases set_back h with ⟨_, e, _⟩ | ⟨_, h⟩
    · exact absurd e n
    · exact h
  exact ⟨c.ok.drop i, by rw [List.getElem?_set_ne hi]; exact c.g2, fun j x h => c.flat j x (bk h (nofun)), fun j b xs h => c.flatO j b xs (bk h (nofun)), fun j ns h => c.noscr j ns (bk h (nofun)), c.s2, c.hW, c.nd, c.len, c.row,
    fun p hp => ⟨(c.no0 p hp).1, (c.no0 p hp).2.1, (c.no0 p hp).2.2.1, fun ⟨j, b, xs, h, e⟩ => (c.no0 p hp).2.2.2 ⟨j, b, xs, bk h (nofun), e⟩⟩⟩
theorem Cu.setI (c : Cu K B σ Γ H0 H W ps rows) {i : Nat} {n : Int} (hi : i ≠ 2) : Cu K B (σ.set i (some (.int n))) (Γ.set i (.d (.int n))) H0 H W ps rows := by
  have bk : ∀ {j : Nat} {s : Sl}, (Γ.set i (Sl.d (.int n)))[j]? = some s → s ≠ .d (.int n) → Γ[j]? = some s ∧ j ≠ i := fun {j s} h n => by
    rcases set_back h with ⟨_, e, _⟩ | ⟨z, h⟩
    · exact absurd e n
    · exact ⟨h, z⟩
  refine ⟨c.ok.setD i (.int n), by rw [List.getElem?_set_ne hi]; exact c.g2, fun j x h => ?_, fun j b xs h => c.flatO j b xs (bk h (nofun)).1, fun j ns h => c.noscr j ns (bk h (nofun)).1, by rw [List.getElem?_set_ne hi]; exact c.s2, c.hW, c.nd, c.len, c.row,
    fun p hp => ⟨(c.no0 p hp).1, (c.no0 p hp).2.1, (c.no0 p hp).2.2.1, fun ⟨j, b, xs, h, e⟩ => ?_⟩⟩
  · rcases set_back h with ⟨_, e, _⟩ | ⟨_, h⟩
    · cases e; exact ⟨n, rfl⟩
    · exact c.flat j x h
  · obtain ⟨h, z⟩ := bk h (nofun)
    rw [List.getElem?_set_ne (Ne.symm z)] at e
    exact (c.no0 p hp).2.2.2 ⟨j, b, xs, h, e⟩
end
def cutRow (tot : List Int) (kinds i : Nat) : List Int := (List.range kinds).map fun j => if j < i then 1 + (tot.take j).sum else 0
theorem cutRow_len (tot : List Int) (kinds i : Nat) : (cutRow tot kinds i).length = kinds := by simp [cutRow]
theorem cutRow_set (tot : List Int) (kinds i : Nat) : (cutRow tot kinds i).set i (1 + (tot.take i).sum) = cutRow tot kinds (i + 1) := by
  apply List.ext_getElem?
  intro j
  unfold cutRow
  by_cases h : j = i
  · subst h
    by_cases hj : j < kinds
    · rw [List.getElem?_set_self (by simpa using hj), List.getElem?_map, List.getElem?_range hj]
      simp
    · rw [List.getElem?_eq_none (by simp; omega), List.getElem?_eq_none (by simp; omega)]
  · rw [List.getElem?_set_ne (Ne.symm h), List.getElem?_map, List.getElem?_map]
    by_cases hj : j < kinds
    · rw [List.getElem?_range hj]
      have e : (j < i) = (j < i + 1) := propext ⟨fun z => by omega, fun z => by omega⟩
      simp only [Option.map_some, e]
    · rw [List.getElem?_eq_none (by simp; omega)]
      rfl
theorem sItA_of {f : List D → Res (List D)} {s : Ga → Res (Ga × List D)} {Γ Γ' : Ga} {xs ys : List D} (h1 : s Γ = .ok (Γ', xs)) (h2 : f xs = .ok ys) : sItA f s Γ = .ok (Γ', ys) := by
  unfold sItA
  rw [h1]
  simp only [bind_ok, h2]
theorem fits_small {n : Int} (h0 : 0 ≤ n) (h1 : n ≤ 100) : fits62 n = true := by
  unfold fits62
  refine okB_of ⟨?_, ?_⟩
  · exact Int.le_trans (by decide) h0
  · exact Int.lt_of_le_of_lt h1 (by decide)
theorem fits_small' (k : Nat) (h : k ≤ 100) : fits62 (k : Int) = true := fits_small (by omega) (by omega)
theorem rng1_small {k : Nat} (h : k ≤ 100) : rng1 [.int (k : Int)] = .ok (rangeD 0 k) := by
  have f := fits_small' k h
  unfold rng1
  simp only [f, if_true, Int.toNat_natCast]
theorem rangeD_len (lo : Int) (n : Nat) : (rangeD lo n).length = n := by simp [rangeD]
theorem rangeD_get {lo : Int} {n i : Nat} (h : i < n) : (rangeD lo n)[i]? = some (.int (lo + i)) := by
  unfold rangeD
  rw [List.getElem?_map, List.getElem?_range h]
  rfl
theorem intsOf_map : ∀ ns : List Int, intsOf (ns.map PyData.int) = some ns
  | [] => rfl
  | n :: r => by
    rw [List.map_cons]
    unfold intsOf
    rw [intsOf_map r]
    rfl
theorem cut_take {xs : List D} {i : Nat} (h : i ≤ xs.length) : cutD xs none (some (i : Int)) = xs.take i := by
  unfold cutD
  rw [HT.sIx_none, HT.sIx_nat, List.drop_zero, Nat.sub_zero, Nat.min_eq_left h]
def slots (most kinds : Nat) (tot : List Int) (s4 s5 : Sl) : Ga := [.d (.int most), .d (.int kinds), .un, .own false (tot.map .int), s4, s5, .un, .un]
section
variable {X : Cx} {E : XK} {B : Bg} {W : Addr} {ps : List Addr} {most kinds steps : Nat} {tot : List Int} {wi4 : TI} {tv : TE}
noncomputable abbrev sV : Ga → Res (Ga × R) := sBin addG (sC (.int 1)) (sPub (sUn sumG (sPub (sSlN 3 sNoO (sSomeO (sName 5))))))
theorem fill_it {most kinds : Nat} {tot : List Int} {s4 s5 : Sl} (hk : kinds ≤ 20) : sItA rng1 (sCons (sName 1) sNil) (slots most kinds tot s4 s5) = .ok (slots most kinds tot s4 s5, rangeD 0 kinds) := by
  have e : sCons (sName 1) sNil (slots most kinds tot s4 s5) = .ok (slots most kinds tot s4 s5, [.int (kinds : Int)]) := rfl
  exact sItA_of e (rng1_small (by omega))
theorem fill_val {most kinds i : Nat} {tot : List Int} {s4 : Sl} (hi : i ≤ tot.length) : sV (slots most kinds tot s4 (.d (.int (i : Int)))) = .ok (slots most kinds tot s4 (.d (.int (i : Int))), .d (.int (1 + (tot.take i).sum))) := by
  have hz : i ≤ (tot.map PyData.int).length := by rw [List.length_map]; exact hi
  have e0 : sSomeO (sName 5) (slots most kinds tot s4 (.d (.int (i : Int)))) = .ok (slots most kinds tot s4 (.d (.int (i : Int))), some (i : Int)) := rfl
  have e1 : slD (slots most kinds tot s4 (.d (.int (i : Int)))) 3 = .ok (.list (tot.map .int)) := rfl
  have e2 : sumG (.list ((tot.take i).map .int)) = .ok (.d (.int (tot.take i).sum)) := by
    unfold sumG
    simp only [intsOf_map]
  unfold sV sBin sC sPub sUn sSlN sNoO
  simp only [e0, e1, bind_ok, slG, cut_take hz, ← List.map_take, pubR, e2, addG]
/-- for kind in range(kinds): ways[steps][kind] = 1 + sum(totals[:kind]) -/
theorem fill_row (hk : kinds ≤ 20) (ht : tot.length = kinds) (hs : steps ≤ 60)
    (h4 : ∀ B σ Γ H0 H R, EnvOk X.K B σ Γ H0 H → IW X B E σ Γ H0 H (sItA rng1 (sCons (sName 1) sNil) Γ) R → wi4 σ H R) (hv : ∀ B σ Γ H0 H Q, EnvOk X.K B σ Γ H0 H → EW X B E σ Γ H0 H (sV Γ) Q → tv σ H Q)
    {Dn : Ends} {σ : L2.St} {H0 H : Hp} {rows : List (List Int)} (c : Cu X.K B σ (slots most kinds tot (.d (.int steps)) .un) H0 H W ps rows) (hr : rows[steps]? = some (cutRow tot kinds 0))
    (fin : ∀ σ' H0' H', Ex H0 H0' → Cu X.K B σ' (slots most kinds tot (.d (.int steps)) .un) H0' H' W ps (rows.set steps (cutRow tot kinds kinds)) → Dn.nx σ' H') :
    tFor wi4 (gName 5) (tAsg tv (gSub (tOp (rIxL X.K) (tVar 2) (tVar 4)) (tVar 5) rSetL)) Dn σ H := by
  refine h4 B σ _ H0 H _ c.ok ?_
  rw [fill_it hk]
  intro J H01 H1 ok1 g1 l1 it
  have c1 := c.grow ok1 g1
  refine ⟨fun i m σi Hi => ∃ H0i, Cu X.K B σi (slots most kinds tot (.d (.int steps)) .un) H0i Hi W ps (rows.set steps (cutRow tot kinds i)) ∧ Ex H01 H0i ∧ m = kinds - i, ⟨kinds, H01, ?_, Ex.refl _, rfl⟩, ?_⟩
  · have z : rows.set steps (cutRow tot kinds 0) = rows := by
      apply List.ext_getElem?
      intro j
      by_cases h : j = steps
      · subst h
        rw [List.getElem?_set_self (List.getElem?_eq_some_iff.mp hr).1, hr]
      · rw [List.getElem?_set_ne (Ne.symm h)]
    rw [z]
    exact c1
  · rintro i m σi Hi ⟨H0i, ci, ei, rfl⟩
    have hl : (rangeD 0 kinds).length = kinds := rangeD_len _ _
    by_cases hlt : i < kinds
    · refine .inr ⟨it.go i H0i Hi ei ci.ok.sub (by rw [hl]; exact hlt), fun σ' H' => ∃ H0', Cu X.K B σ' (slots most kinds tot (.d (.int steps)) .un) H0' H' W ps (rows.set steps (cutRow tot kinds (i + 1))) ∧ Ex H01 H0', fun σ' H' ⟨H0', q, q'⟩ => ⟨kinds - (i + 1), by omega, H0', q, q', rfl⟩, fun v H' y => ?_⟩
      have hx : (rangeD 0 kinds)[i]? = some (.int (i : Int)) := by
        rw [rangeD_get hlt, Int.zero_add]
      obtain ⟨H0y, gy, sy, ry⟩ := it.yld i _ H0i Hi v H' ei ci.ok.sub hx y
      cases ry
      have cy := ci.grow (ci.ok.same gy sy) (gy.wide fun _ h => h.elim)
      have c5 := cy.setI (i := 5) (n := (i : Int)) (by decide)
      show tv _ _ _
      refine hv B _ _ H0y H' _ c5.ok ?_
      rw [show (slots most kinds tot (.d (.int steps)) .un).set 5 (.d (.int (i : Int))) = slots most kinds tot (.d (.int steps)) (.d (.int (i : Int))) from rfl, fill_val (by omega)]
      intro v H02 H2 ok2 g2 l2 r2
      cases r2 with
      | d r2 =>
        cases r2
        have c6 := c5.grow ok2 g2
        have hst : steps < rows.length := (List.getElem?_eq_some_iff.mp hr).1
        have hps : steps < ps.length := by rw [c6.len, List.length_set]; exact hst
        have hp : ps[steps]? = some ps[steps] := List.getElem?_eq_getElem hps
        have rowH := c6.row steps _ _ hp (List.getElem?_set_self hst)
        obtain ⟨v4, e4', r4⟩ := c6.ok.dat 4 (.int steps) rfl
        obtain ⟨v5, e5, r5⟩ := c6.ok.dat 5 (.int i) rfl
        cases r4
        cases r5
        refine ⟨_, c6.s2, _, e4', W, _, steps, .ref ps[steps], rfl, rfl, .inl (.inl c6.hW), atI_nat (j := steps) (by rw [List.getElem?_map, hp]; rfl), _, e5, ?_⟩
        refine ⟨ps[steps], _, i, i, rfl, rfl, rowH, ?_, H02, ?_, (ei.trans gy.ex0).trans g2.ex0⟩
        · have := atI_nat (xs := (List.range kinds)) (j := i) (List.getElem?_range hlt)
          unfold ixN
          rw [List.length_map, cutRow_len, if_pos (by omega), if_pos (by omega)]
          simp
        · have c7 := c6.put (j := steps) (r := (cutRow tot kinds i).set i (1 + (tot.take i).sum)) hp
          rw [cutRow_set, List.set_set] at c7
          have e8 : (List.map V.int (cutRow tot kinds i)).set i (V.int (1 + (tot.take i).sum)) = (cutRow tot kinds (i + 1)).map V.int := by rw [← cutRow_set, List.map_set]
          rw [e8]
          exact c7.drop (i := 5) (by decide)
    · refine .inl ⟨it.stop i H0i Hi ei ci.ok.sub (by rw [hl]; omega), fin σi H0i Hi (g1.ex0.trans ei) ?_⟩
      have e : cutRow tot kinds i = cutRow tot kinds kinds := by
        unfold cutRow
        apply List.map_congr_left
        intro j hj
        have hj := List.mem_range.mp hj
        rw [if_pos (by omega), if_pos (by omega)]
      rw [← e]
      exact ci
end
end Mi
namespace Mi
open PySem PySem.Spec PyProof.Rows L2 Evl
def cutTot (rows : List (List Int)) (tot : List Int) (steps : Nat) : List Int := if 3 ≤ steps then List.zipWith (· + ·) tot (rows.getD (steps - 3) []) else tot
def cutStep (kinds : Nat) (st : List (List Int) × List Int) (steps : Nat) : List (List Int) × List Int := (st.1.set steps (cutRow (cutTot st.1 st.2 steps) kinds kinds), cutTot st.1 st.2 steps)
def cutAt (most kinds : Nat) : Nat → List (List Int) × List Int
  | 0 => (List.replicate (most + 1) (List.replicate kinds 0), List.replicate kinds 0)
  | n + 1 => cutStep kinds (cutAt most kinds n) (2 + n)
structure CutOk (most kinds n : Nat) (st : List (List Int) × List Int) : Prop where
  rl : st.1.length = most + 1
  tl : st.2.length = kinds
  rw_ : ∀ r ∈ st.1, r.length = kinds
  new : ∀ j, 2 + n ≤ j → j < most + 1 → st.1[j]? = some (List.replicate kinds 0)
theorem cutRow0 (tot : List Int) (kinds : Nat) : cutRow tot kinds 0 = List.replicate kinds 0 := by
  unfold cutRow
  apply List.ext_getElem (by simp)
  intro i h1 h2
  simp
theorem cutTot_len {most kinds n steps : Nat} {st : List (List Int) × List Int} (o : CutOk most kinds n st) (h : steps ≤ most) : (cutTot st.1 st.2 steps).length = kinds := by
  unfold cutTot
  split
  · have hs : steps - 3 < st.1.length := by rw [o.rl]; omega
    rw [List.length_zipWith, o.tl, List.getD_eq_getElem?_getD, List.getElem?_eq_getElem hs, Option.getD_some, o.rw_ _ (List.getElem_mem hs), Nat.min_self]
  · exact o.tl
theorem cutAt_ok (most kinds : Nat) : ∀ n, n ≤ most - 1 → CutOk most kinds n (cutAt most kinds n)
  | 0, _ => ⟨by simp [cutAt], by simp [cutAt], fun r hr => by simp [cutAt] at hr; rw [hr]; simp, fun j h1 h2 => by simp [cutAt, List.getElem?_replicate, h2]⟩
  | n + 1, h => by
    have o := cutAt_ok most kinds n (by omega)
    refine ⟨by simp [cutAt, cutStep, o.rl], cutTot_len o (by omega), fun r hr => ?_, fun j h1 h2 => ?_⟩
    · rcases List.mem_or_eq_of_mem_set hr with h | h
      · exact o.rw_ r h
      · rw [h, cutRow_len]
    · show ((cutAt most kinds n).1.set (2 + n) _)[j]? = _
      rw [List.getElem?_set_ne (by omega)]
      exact o.new j (by omega) h2
def slotsV (most kinds : Nat) (rows : List (List Int)) (s3 s4 s5 : Sl) : Ga := [.d (.int most), .d (.int kinds), .d (.list (rowsD rows)), s3, s4, s5, .un, .un]
abbrev zG : D → Ga → Option Ga := gTup' (gCons' (gN 6) (gCons' (gN 7) gNil')) 2
abbrev zT : Ga → Res (Ga × D) := sPub (sBin addG (sName 6) (sName 7))
theorem zip_turn (a b : Int) {s0 s1 s2 s3 s4 s5 : Sl} : ∃ G1, zG (.tuple [.int a, .int b]) [s0, s1, s2, s3, s4, s5, .un, .un] = some G1 ∧ zT G1 = .ok (G1, .int (a + b)) ∧ wipeG G1 [6, 7] = [s0, s1, s2, s3, s4, s5, .un, .un] := ⟨_, rfl, rfl, rfl⟩
theorem zip_lc {s0 s1 s2 s3 s4 s5 : Sl} : ∀ xs ys : List Int, lcL zG sYes zT [6, 7] (pairUp (xs.map .int) (ys.map .int)) [s0, s1, s2, s3, s4, s5, .un, .un] = .ok ([s0, s1, s2, s3, s4, s5, .un, .un], (List.zipWith (· + ·) xs ys).map .int)
  | [], _ => by simp [pairUp, lcL]
  | _ :: _, [] => by simp [pairUp, lcL]
  | x :: xs, y :: ys => by
    obtain ⟨G1, h1, h2, h3⟩ := zip_turn x y (s0 := s0) (s1 := s1) (s2 := s2) (s3 := s3) (s4 := s4) (s5 := s5)
    have e : pairUp ((x :: xs).map .int) ((y :: ys).map .int) = .tuple [.int x, .int y] :: pairUp (xs.map .int) (ys.map .int) := rfl
    rw [e]
    unfold lcL
    rw [h1]
    simp only [sYes, noX, bind_ok, if_true, h2, h3, zip_lc xs ys, List.zipWith_cons_cons, List.map_cons]
noncomputable abbrev sZ : Ga → Res (Ga × R) := sLc (sItA (zipSL true) (sCons (sName 3) (sCons (sPub (sBin ixG (sName 2) (sPub (sBin subG (sName 4) (sC (.int 3)))))) sNil))) zG sYes zT [6, 7]
theorem sZ_ok {most kinds steps : Nat} {rows : List (List Int)} {tot row : List Int} {s5 : Sl} (hs : 3 ≤ steps) (hr : rows[steps - 3]? = some row) (hl : tot.length = row.length) (hz : tot.length ≤ sizeLine) :
    sZ (slotsV most kinds rows (.own false (tot.map .int)) (.d (.int steps)) s5) = .ok (slotsV most kinds rows (.d (.list (tot.map .int))) (.d (.int steps)) s5, .f ((List.zipWith (· + ·) tot row).map .int)) := by
  have e1 : atI (rowsD rows) ((steps : Int) - 3) = some (.list (row.map .int)) := by
    rw [show (steps : Int) - 3 = ((steps - 3 : Nat) : Int) by omega]
    refine atI_nat ?_
    unfold rowsD
    rw [List.getElem?_map, hr]
    rfl
  have e2 : sCons (sName 3) (sCons (sPub (sBin ixG (sName 2) (sPub (sBin subG (sName 4) (sC (.int 3)))))) sNil) (slotsV most kinds rows (.own false (tot.map .int)) (.d (.int steps)) s5) =
      .ok (slotsV most kinds rows (.d (.list (tot.map .int))) (.d (.int steps)) s5, [.list (tot.map .int), .list (row.map .int)]) := by
    simp [sCons, sName, slotsV, sPub, sBin, sC, sNil, Res.bind, subG, pubR, ixG, e1]
  have e3 : zipSL true [.list (tot.map .int), .list (row.map .int)] = .ok (pairUp (tot.map .int) (row.map .int)) := by
    unfold zipSL
    simp [hl]
  unfold sZ sLc
  rw [sItA_of e2 e3]
  have e4 : wipeG (slotsV most kinds rows (.d (.list (tot.map .int))) (.d (.int steps)) s5) [6, 7] = slotsV most kinds rows (.d (.list (tot.map .int))) (.d (.int steps)) s5 := rfl
  have e5 := zip_lc (s0 := .d (.int most)) (s1 := .d (.int kinds)) (s2 := .d (.list (rowsD rows))) (s3 := .d (.list (tot.map .int))) (s4 := .d (.int steps)) (s5 := s5) tot row
  have e6 : ((List.zipWith (· + ·) tot row).map PyData.int).length ≤ sizeLine := by
    rw [List.length_map, List.length_zipWith, ← hl, Nat.min_self]
    exact hz
  have e7 : unwipe (slotsV most kinds rows (.d (.list (tot.map .int))) (.d (.int steps)) s5) (slotsV most kinds rows (.d (.list (tot.map .int))) (.d (.int steps)) s5) [6, 7] = slotsV most kinds rows (.d (.list (tot.map .int))) (.d (.int steps)) s5 := rfl
  simp only [bind_ok, e4]
  unfold slotsV at e7 ⊢
  rw [e5]
  simp only [bind_ok, if_pos e6, e7]
end Mi
namespace Mi
open PySem PySem.Spec PyProof.Rows L2 Evl
section
variable {X : Cx} {E : XK} {B : Bg} {W : Addr} {ps : List Addr} {most kinds steps : Nat} {tot : List Int} {tz : TE} {tc : TT} {tn : TS}
theorem cut_if (hk : kinds ≤ 20) (hs : steps ≤ most) (hm : most ≤ 60) {n : Nat} {rows : List (List Int)} (o : CutOk most kinds n (rows, tot))
    (hc : ∀ B σ Γ H0 H Q, EnvOk X.K B σ Γ H0 H → TW X B E σ Γ H0 H (sTst (sBin geG (sName 4) (sC (.int 3))) Γ) Q → tc σ H Q) (hz : ∀ B σ Γ H0 H Q, EnvOk X.K B σ Γ H0 H → EW X B E σ Γ H0 H (sZ Γ) Q → tz σ H Q)
    {Dn : Ends} {σ : L2.St} {H0 H : Hp} (c : Cu X.K B σ (slots most kinds tot (.d (.int steps)) .un) H0 H W ps rows)
    (fin : ∀ σ' H0' H', Ex H0 H0' → Cu X.K B σ' (slots most kinds (cutTot rows tot steps) (.d (.int steps)) .un) H0' H' W ps rows → Dn.nx σ' H') (hn : ∀ D σ H, D.nx σ H → tn D σ H) :
    tIfS tc (tAsg tz (gName 3)) tn Dn σ H := by
  refine hc B σ _ H0 H _ c.ok ?_
  have e1 : sTst (sBin geG (sName 4) (sC (.int 3))) (slots most kinds tot (.d (.int steps)) .un) = .ok (slots most kinds tot (.d (.int steps)) .un, decide ((3 : Int) ≤ steps)) := rfl
  rw [e1]
  intro H01 H1 ok1 g1 l1
  have c1 := c.grow ok1 g1
  by_cases h3 : 3 ≤ steps
  · have h3' : decide ((3 : Int) ≤ steps) = true := decide_eq_true (by omega)
    rw [if_pos h3']
    have hrs : steps - 3 < rows.length := by rw [o.rl]; omega
    have hr : rows[steps - 3]? = some rows[steps - 3] := List.getElem?_eq_getElem hrs
    have hl : tot.length = rows[steps - 3].length := by rw [o.tl, o.rw_ _ (List.getElem_mem hrs)]
    have hsz : tot.length ≤ sizeLine := by rw [o.tl]; unfold sizeLine; omega
    have ez : cutTot rows tot steps = List.zipWith (· + ·) tot rows[steps - 3] := by
      unfold cutTot
      rw [if_pos h3, List.getD_eq_getElem?_getD, hr, Option.getD_some]
    have v := c1.view
    have ev : (slots most kinds tot (.d (.int steps)) .un).set 2 (.d (.list (rowsD rows))) = slotsV most kinds rows (.own false (tot.map .int)) (.d (.int steps)) .un := rfl
    rw [ev] at v
    refine hz B σ _ _ H1 _ v ?_
    rw [sZ_ok h3 hr hl hsz, ← ez]
    intro x H02 H2 ok2 g2 l2 r2
    show Dn.nx _ _
    have ok3 := set_ok 3 v ok2 l2 r2
    have e3 : (slotsV most kinds rows (.d (.list (tot.map .int))) (.d (.int steps)) .un).set 3 (slotOf (.f ((cutTot rows tot steps).map .int))) = slotsV most kinds rows (.own false ((cutTot rows tot steps).map .int)) (.d (.int steps)) .un := rfl
    rw [e3] at ok3
    have b := c1.back ok3 g2.ex0 (by rw [List.getElem?_set_ne (by decide)]; exact c1.s2) (show 2 < 8 by decide) (fun i y hi h => ?_) (fun i b' xs h => ?_) (fun i ns h => ?_)
    · refine fin _ _ _ (fun p o e => ?_) b
      have e1 := g1.ex0 _ _ e
      have np : p ∉ W :: ps := fun z => by rw [(c1.no0 p z).1] at e1; cases e1
      rw [minus_out np]
      exact g2.ex0 _ _ (plus_ex c1.ok.sub _ _ e1)
    · match i, h with
      | 0, h => cases h; exact ⟨_, rfl⟩
      | 1, h => cases h; exact ⟨_, rfl⟩
      | 2, h => exact absurd rfl hi
      | 3, h => cases h
      | 4, h => cases h; exact ⟨_, rfl⟩
      | 5, h => cases h
      | 6, h => cases h
      | 7, h => cases h
      | i + 8, h => simp [slotsV] at h
    · match i, h with
      | 0, h => cases h
      | 1, h => cases h
      | 2, h => cases h
      | 3, h => cases h; exact ⟨_, rfl⟩
      | 4, h => cases h
      | 5, h => cases h
      | 6, h => cases h
      | 7, h => cases h
      | i + 8, h => simp [slotsV] at h
    · match i, h with
      | 0, h => cases h
      | 1, h => cases h
      | 2, h => cases h
      | 3, h => cases h
      | 4, h => cases h
      | 5, h => cases h
      | 6, h => cases h
      | 7, h => cases h
      | i + 8, h => simp [slotsV] at h
  · have h3' : decide ((3 : Int) ≤ steps) = false := decide_eq_false (by omega)
    rw [if_neg (by rw [h3']; exact Bool.false_ne_true)]
    refine hn _ _ _ (fin σ H01 H1 g1.ex0 ?_)
    unfold cutTot
    rw [if_neg h3]
    exact c1

variable {wi1 wi3 wi4 : TI} {tv t2 : TE}
/-- for steps in range(2, most + 1): .. -/
theorem cut_loop (hk : kinds ≤ 20) (hm : most ≤ 60)
    (h3 : ∀ B σ Γ H0 H R, EnvOk X.K B σ Γ H0 H → IW X B E σ Γ H0 H (sItA rng2 (sCons (sC (.int 2)) (sCons (sPub (sBin addG (sName 0) (sC (.int 1)))) sNil)) Γ) R → wi3 σ H R)
    (hc : ∀ B σ Γ H0 H Q, EnvOk X.K B σ Γ H0 H → TW X B E σ Γ H0 H (sTst (sBin geG (sName 4) (sC (.int 3))) Γ) Q → tc σ H Q) (hz : ∀ B σ Γ H0 H Q, EnvOk X.K B σ Γ H0 H → EW X B E σ Γ H0 H (sZ Γ) Q → tz σ H Q)
    (h4 : ∀ B σ Γ H0 H R, EnvOk X.K B σ Γ H0 H → IW X B E σ Γ H0 H (sItA rng1 (sCons (sName 1) sNil) Γ) R → wi4 σ H R) (hv : ∀ B σ Γ H0 H Q, EnvOk X.K B σ Γ H0 H → EW X B E σ Γ H0 H (sV Γ) Q → tv σ H Q)
    (hn : ∀ D σ H, D.nx σ H → tn D σ H)
    {Dn : Ends} {σ : L2.St} {H0 H : Hp} (c : Cu X.K B σ (slots most kinds (cutAt most kinds 0).2 .un .un) H0 H W ps (cutAt most kinds 0).1)
    (fin : ∀ σ' H0' H' tot, Cu X.K B σ' (slots most kinds tot .un .un) H0' H' W ps (cutAt most kinds (most - 1)).1 → Dn.nx σ' H') :
    tFor wi3 (gName 4) (tSeq (tIfS tc (tAsg tz (gName 3)) tn) (tFor wi4 (gName 5) (tAsg tv (gSub (tOp (rIxL X.K) (tVar 2) (tVar 4)) (tVar 5) rSetL)))) Dn σ H := by
  refine h3 B σ _ H0 H _ c.ok ?_
  have e1 : sCons (sC (.int 2)) (sCons (sPub (sBin addG (sName 0) (sC (.int 1)))) sNil) (slots most kinds (cutAt most kinds 0).2 .un .un) = .ok (slots most kinds (cutAt most kinds 0).2 .un .un, [.int 2, .int ((most : Int) + 1)]) := rfl
  have e2 : rng2 [.int 2, .int ((most : Int) + 1)] = .ok (rangeD 2 (most - 1)) := by
    have a := fits_small (n := 2) (by decide) (by decide)
    have b := fits_small (n := (most : Int) + 1) (by omega) (by omega)
    have e : ((most : Int) + 1 - 2).toNat = most - 1 := by omega
    unfold rng2
    simp only [a, b, and_self, if_true, e]
  rw [sItA_of e1 e2]
  intro J H01 H1 ok1 g1 l1 it
  have c1 := c.grow ok1 g1
  refine ⟨fun i m σi Hi => ∃ H0i, Cu X.K B σi (slots most kinds (cutAt most kinds i).2 .un .un) H0i Hi W ps (cutAt most kinds i).1 ∧ Ex H01 H0i ∧ i ≤ most - 1 ∧ m = most - 1 - i, ⟨most - 1, H01, c1, Ex.refl _, Nat.zero_le _, rfl⟩, ?_⟩
  rintro i m σi Hi ⟨H0i, ci, ei, hi, rfl⟩
  have hl : (rangeD 2 (most - 1)).length = most - 1 := rangeD_len _ _
  by_cases hlt : i < most - 1
  · have o := cutAt_ok most kinds i hi
    refine .inr ⟨it.go i H0i Hi ei ci.ok.sub (by rw [hl]; exact hlt), fun σ' H' => ∃ H0', Cu X.K B σ' (slots most kinds (cutAt most kinds (i + 1)).2 .un .un) H0' H' W ps (cutAt most kinds (i + 1)).1 ∧ Ex H01 H0', fun σ' H' ⟨H0', q, q'⟩ => ⟨most - 1 - (i + 1), by omega, H0', q, q', by omega, rfl⟩, fun v H' y => ?_⟩
    obtain ⟨H0y, gy, sy, ry⟩ := it.yld i _ H0i Hi v H' ei ci.ok.sub (rangeD_get hlt) y
    cases ry
    have cy := ci.grow (ci.ok.same gy sy) (gy.wide fun _ h => h.elim)
    have c4 := cy.setI (i := 4) (n := (2 : Int) + i) (by decide)
    have es : (2 : Int) + (i : Int) = ((2 + i : Nat) : Int) := by omega
    rw [es] at c4
    have e5 : (slots most kinds (cutAt most kinds i).2 .un .un).set 4 (.d (.int ((2 + i : Nat) : Int))) = slots most kinds (cutAt most kinds i).2 (.d (.int ((2 + i : Nat) : Int))) .un := rfl
    rw [e5] at c4
    show tSeq _ _ _ _ _
    rw [es]
    refine cut_if (Dn := { nx := _, rt := _, bk := _, ct := _ }) hk (by omega) hm o hc hz c4 (fun σ2 H02 H2 e2 c2 => ?_) hn
    have hr : (cutAt most kinds i).1[2 + i]? = some (cutRow (cutTot (cutAt most kinds i).1 (cutAt most kinds i).2 (2 + i)) kinds 0) := by
      rw [cutRow0]
      exact o.new _ (Nat.le_refl _) (by omega)
    refine fill_row hk (cutTot_len o (by omega)) (by omega) h4 hv c2 hr fun σ3 H03 H3 e3 c3 => ?_
    exact ⟨H03, c3.drop (i := 4) (by decide), ((ei.trans gy.ex0).trans e2).trans e3⟩
  · refine .inl ⟨it.stop i H0i Hi ei ci.ok.sub (by rw [hl]; omega), ?_⟩
    have e : i = most - 1 := by omega
    subst e
    exact fin _ _ _ _ ci
end
end Mi
namespace Mi
open PySem PySem.Spec PyProof.Rows L2 Evl
def slots0 (most kinds : Nat) : Ga := [.d (.int most), .d (.int kinds), .un, .un, .un, .un, .un, .un]
noncomputable abbrev sRow : Ga → Res (Ga × R) := sBin mulG (sPub (sLst (sCons (sC (.int 0)) sNil))) (sName 1)
theorem sRow_ok {most kinds : Nat} (hk : kinds ≤ 20) {s2 s3 s4 s5 : Sl} : sRow [.d (.int most), .d (.int kinds), s2, s3, s4, s5, .un, .un] = .ok ([.d (.int most), .d (.int kinds), s2, s3, s4, s5, .un, .un], .f ((List.replicate kinds (0 : Int)).map .int)) := by
  have h1 : (1 : Nat) ≤ sizeLine := by unfold sizeLine; omega
  have h2 : 1 * kinds ≤ sizeLine := by unfold sizeLine; omega
  have h3 : -(2 ^ 63) ≤ (kinds : Int) ∧ (kinds : Int) < 2 ^ 63 := ⟨by omega, by omega⟩
  have e1 : sPub (sLst (sCons (sC (.int 0)) sNil)) [.d (.int most), .d (.int kinds), s2, s3, s4, s5, .un, .un] = .ok ([.d (.int most), .d (.int kinds), s2, s3, s4, s5, .un, .un], .list [.int 0]) := by
    simp [sPub, sLst, sCons, sC, sNil, Res.bind, h1, pubR]
  have e2 : mulG (.list [.int 0]) (.int kinds) = .ok (.f ((List.replicate kinds (0 : Int)).map .int)) := by
    unfold mulG
    have hc : [PyData.int 0].length * (kinds : Int).toNat ≤ sizeLine ∧ -(2 ^ 63) ≤ (kinds : Int) ∧ (kinds : Int) < 2 ^ 63 := ⟨by simpa using h2, h3⟩
    rw [Int.toNat_natCast] at hc
    simp only [Int.toNat_natCast, okB_of hc, if_true, List.flatten_replicate_singleton, List.map_replicate]
  show Res.bind (sPub (sLst (sCons (sC (.int 0)) sNil)) _) _ = _
  rw [e1]
  show Res.bind (mulG (.list [.int 0]) (.int kinds)) _ = _
  rw [e2]
  rfl
theorem noOwn0 {most kinds : Nat} {σ : L2.St} {p : Addr} {G : Ga} (hG : ∀ s ∈ G, ∀ b xs, s ≠ .own b xs) : ¬ OwnOf σ G p := fun ⟨i, b, xs, h, _⟩ => hG _ (List.mem_of_getElem? h) b xs rfl
theorem slots0_own {most kinds : Nat} : ∀ s ∈ slots0 most kinds, ∀ b xs, s ≠ .own b xs := by
  intro s hs b xs
  simp [slots0] at hs
  rcases hs with rfl | rfl | rfl <;> nofun
section
variable {X : Cx} {E : XK} {B : Bg} {most kinds : Nat} {wi1 : TI}
theorem cut_new (hk : kinds ≤ 20) (hm : most ≤ 60) (h1 : ∀ B σ Γ H0 H R, EnvOk X.K B σ Γ H0 H → IW X B E σ Γ H0 H (sItA rng1 (sCons (sPub (sBin addG (sName 0) (sC (.int 1)))) sNil) Γ) R → wi1 σ H R)
    {Dn : Ends} {σ : L2.St} {H0 H : Hp} (ok : EnvOk X.K B σ (slots0 most kinds) H0 H)
    (fin : ∀ σ' H0' H' W ps, Cu X.K B σ' (slots0 most kinds) H0' H' W ps (List.replicate (most + 1) (List.replicate kinds 0)) → Dn.nx σ' H') :
    tAsg (tLc wi1 (TGc X [4] (gN 4)) (TTc X E0 sYes) (TEc X E0 sRow) [4]) (gName 2) Dn σ H := by
  refine h1 B σ _ H0 H _ ok ?_
  have e1 : sCons (sPub (sBin addG (sName 0) (sC (.int 1)))) sNil (slots0 most kinds) = .ok (slots0 most kinds, [.int ((most + 1 : Nat) : Int)]) := rfl
  rw [sItA_of e1 (rng1_small (by omega))]
  intro J H01 H1 ok1 g1 l1 it D hD
  have hl : (rangeD 0 (most + 1)).length = most + 1 := rangeD_len _ _
  have w4 : ∀ τ : L2.St, wipe τ [4] = τ.set 4 none := fun _ => rfl
  have okw : EnvOk X.K B (wipe σ [4]) (slots0 most kinds) H01 H1 := ok1.wiped [4]
  have he0 : ∀ {H0i : Hp} {p : Addr}, Ex B.He0 H0i → H0i p = none → B.He0 p = none := fun {H0i p} e n => by
    cases q : B.He0 p with
    | none => rfl
    | some o => rw [e _ _ q] at n; cases n
  refine ⟨fun i m Hi => ∃ H0i ps, EnvOk X.K B (wipe σ [4]) (slots0 most kinds) H0i Hi ∧ Ex H01 H0i ∧ Hi D = some (.lst (ps.map V.ref)) ∧ ps.length = i ∧ (D :: ps).Nodup ∧ (∀ p ∈ ps, Hi p = some (.lst ((List.replicate kinds (0 : Int)).map V.int))) ∧ (∀ p ∈ D :: ps, H0i p = none ∧ B.He p = none) ∧ i ≤ most + 1 ∧ m = most + 1 - i,
    ⟨most + 1, H01, [], okw.poke (fresh_back ok1.sub hD) (noOwn0 (most := most) (kinds := kinds) slots0_own) (RV.he ok1 hD), Ex.refl _, upd_same, rfl, by simp, by simp, fun p hp => ?_, Nat.zero_le _, rfl⟩, ?_⟩
  · simp at hp
    subst hp
    exact ⟨fresh_back ok1.sub hD, RV.he ok1 hD⟩
  rintro i m Hi ⟨H0i, ps, oki, ei, hDi, hlen, nd, hz, hno, hi, rfl⟩
  by_cases hlt : i < most + 1
  · refine .inr ⟨it.go i H0i Hi ei oki.sub (by rw [hl]; exact hlt), fun H' => ∃ H0i ps, EnvOk X.K B (wipe σ [4]) (slots0 most kinds) H0i H' ∧ Ex H01 H0i ∧ H' D = some (.lst (ps.map V.ref)) ∧ ps.length = i + 1 ∧ (D :: ps).Nodup ∧ (∀ p ∈ ps, H' p = some (.lst ((List.replicate kinds (0 : Int)).map V.int))) ∧ (∀ p ∈ D :: ps, H0i p = none ∧ B.He p = none),
      fun H' ⟨H0i, ps, q1, q2, q3, q4, q5, q6, q7⟩ => ⟨most + 1 - (i + 1), by omega, H0i, ps, q1, q2, q3, q4, q5, q6, q7, by omega, rfl⟩, fun v H' y => ?_⟩
    obtain ⟨H0y, gy, sy, ry⟩ := it.yld i _ H0i Hi v H' ei oki.sub (rangeD_get hlt) y
    have oky := oki.same gy sy
    refine ⟨B, slots0 most kinds, H0y, _, _, oky, ry, rfl, fun σg okg wg lg og => ⟨by rw [wg]; rw [w4, w4, List.set_set], ?_⟩⟩
    refine ⟨B, _, H0y, okg, ?_⟩
    intro H0t Ht okt gt lt
    rw [if_pos rfl]
    refine ⟨B, _, H0t, okt, ?_⟩
    have er := sRow_ok (most := most) (kinds := kinds) hk (s2 := .un) (s3 := .un) (s4 := .d (.int (0 + (i : Int)))) (s5 := .un)
    rw [show (slots0 most kinds).set 4 (.d (.int (0 + (i : Int)))) = [.d (.int most), .d (.int kinds), .un, .un, .d (.int (0 + (i : Int))), .un, .un, .un] from rfl, er]
    intro x H0z Hz okz gz lz rz
    have no : ∀ {τ : L2.St} {p : Addr}, ¬ OwnOf τ [Sl.d (.int most), .d (.int kinds), .un, .un, .d (.int (0 + (i : Int))), .un, .un, .un] p := noOwn0 (most := most) (kinds := kinds) (by
      intro s hs b xs
      simp at hs
      rcases hs with rfl | rfl | rfl | rfl | rfl <;> nofun)
    have kp : ∀ p o, Hi p = some o → Hz p = some o := fun p o e => gz.keep _ _ (gt.keep _ _ (gy.keep _ _ e id) no) no
    have old : ∀ p, Hi p ≠ none → H0z p = H0i p := fun p e => ((gz.old p (gt.live p (gy.live p e)) no).trans (gt.old p (gy.live p e) no)).trans (gy.old p e id)
    cases rz with
    | @f _ a vs n n0 ea ra =>
      have ev := ofInts ra
      subst ev
      have live : ∀ p ∈ D :: ps, Hi p ≠ none := fun p hp => by
        rcases List.mem_cons.mp hp with rfl | h
        · rw [hDi]; simp
        · rw [hz p h]; simp
      have fresh : ∀ p ∈ D :: ps, p ≠ a := fun p hp e => by
        subst e
        exact gt.live p (gy.live p (live p hp)) n
      have okc : EnvOk X.K B (wipe σ [4]) (slots0 most kinds) H0z Hz := by
        have := okz.wiped [4]
        rw [wg] at this
        have e : wipe (wipe σ [4]) [4] = wipe σ [4] := by rw [w4, w4, List.set_set]
        rw [e] at this
        exact this
      refine ⟨ps.map V.ref, kp _ _ hDi, by rw [List.length_map, hlen]; unfold sizeLine; omega, H0z, ps ++ [a], okc.poke ((old D (live D List.mem_cons_self)).trans (hno D List.mem_cons_self).1) (noOwn0 (most := most) (kinds := kinds) slots0_own) (hno D List.mem_cons_self).2, ((ei.trans gy.ex0).trans gt.ex0).trans gz.ex0, by rw [upd_same, List.map_append]; rfl, by simp [hlen], ?_, fun p hp => ?_, fun p hp => ?_⟩
      · rw [← List.cons_append]
        refine List.nodup_append.mpr ⟨nd, by simp, fun p hp q hq e => ?_⟩
        simp at hq
        exact fresh p hp (e.trans hq)
      · rcases List.mem_append.mp hp with h | h
        · have nD : p ≠ D := fun e => (List.nodup_cons.mp nd).1 (e ▸ h)
          rw [upd_ne nD]
          exact kp _ _ (hz p h)
        · simp at h
          subst h
          rw [upd_ne (fun e => fresh D List.mem_cons_self e.symm)]
          exact ea
      · rw [← List.cons_append] at hp
        rcases List.mem_append.mp hp with h | h
        · exact ⟨(old p (live p h)).trans (hno p h).1, (hno p h).2⟩
        · simp at h
          subst h
          exact ⟨n0, RV.he okt n⟩
  · have e : i = most + 1 := by omega
    subst e
    refine .inl ⟨it.stop _ H0i Hi ei oki.sub (by rw [hl]; omega), ?_⟩
    show Dn.nx _ _
    obtain ⟨v0, a0, r0⟩ := ok1.dat 0 _ rfl
    obtain ⟨v1, a1, r1⟩ := ok1.dat 1 _ rfl
    have len8 : σ.length = 8 := ok1.len.symm
    have okf : EnvOk X.K B (σ.set 2 (some (.ref D))) (slots0 most kinds) H0i Hi := by
      refine ⟨oki.sub, by rw [List.length_set, len8]; rfl, fun j x h => ?_, fun j ns h => ?_, fun j b xs h => ?_, fun j k b c xs ys p _ h => ?_, oki.grow⟩
      · match j, h with
        | 0, h => cases h; exact ⟨v0, by rw [List.getElem?_set_ne (by decide)]; exact a0, by cases r0; exact .int _⟩
        | 1, h => cases h; exact ⟨v1, by rw [List.getElem?_set_ne (by decide)]; exact a1, by cases r1; exact .int _⟩
        | 2, h => cases h
        | 3, h => cases h
        | 4, h => cases h
        | 5, h => cases h
        | 6, h => cases h
        | 7, h => cases h
        | j + 8, h => simp [slots0] at h
      · exact absurd rfl ((by
          intro s hs ms
          simp [slots0] at hs
          rcases hs with rfl | rfl | rfl <;> nofun : ∀ s ∈ slots0 most kinds, ∀ ms, s ≠ Sl.scr ms) _ (List.mem_of_getElem? h) ns)
      · exact absurd rfl (slots0_own _ (List.mem_of_getElem? h) b xs)
      · exact absurd rfl (slots0_own _ (List.mem_of_getElem? h) b xs)
    refine fin _ H0i Hi D ps ⟨okf, rfl, fun j x h => ?_, fun j b xs h => absurd rfl (slots0_own _ (List.mem_of_getElem? h) b xs), fun j ns h => ?_, List.getElem?_set_self (by rw [len8]; decide), hDi, nd, by simp [hlen], fun j p r h1 h2 => ?_, fun p hp => ⟨(hno p hp).1, (hno p hp).2, he0 oki.grow.ex0 (hno p hp).1, noOwn0 (most := most) (kinds := kinds) slots0_own⟩⟩
    · match j, h with
      | 0, h => cases h; exact ⟨_, rfl⟩
      | 1, h => cases h; exact ⟨_, rfl⟩
      | 2, h => cases h
      | 3, h => cases h
      | 4, h => cases h
      | 5, h => cases h
      | 6, h => cases h
      | 7, h => cases h
      | j + 8, h => simp [slots0] at h
    · have := List.mem_of_getElem? h
      simp [slots0] at this
    · rw [List.getElem?_replicate] at h2
      split at h2
      · cases h2
        exact hz p (List.mem_of_getElem? h1)
      · cases h2
end
end Mi
namespace Mi
open PySem PySem.Spec PyProof.Rows L2 Evl
/-- what cuts_by_length computes -/
def cutsM : Ga → Res (Ga × R)
  | [.d (.int most), .d (.int kinds)] => if 0 ≤ most ∧ most ≤ 60 ∧ 0 ≤ kinds ∧ kinds ≤ 20 then .ok ([.d (.int most), .d (.int kinds)], .f (rowsD (cutAt most.toNat kinds.toNat (most.toNat - 1)).1)) else .stuck
  | _ => .stuck
theorem cutsM_shape (Γ Γ' : Ga) (r : R) (h : cutsM Γ = .ok (Γ', r)) : Shape Γ Γ' := by
  unfold cutsM at h
  split at h
  · split at h
    · cases h
      intro k b xs e
      exact ⟨xs, e⟩
    · cases h
  · cases h
theorem slots0_i {most kinds : Nat} {i : Nat} {s : Sl} (h : (slots0 most kinds)[i]? = some s) : (i = 0 ∧ s = .d (.int most)) ∨ (i = 1 ∧ s = .d (.int kinds)) ∨ s = .un := by
  match i, h with
  | 0, h => cases h; exact .inl ⟨rfl, rfl⟩
  | 1, h => cases h; exact .inr (.inl ⟨rfl, rfl⟩)
  | 2, h => cases h; exact .inr (.inr rfl)
  | 3, h => cases h; exact .inr (.inr rfl)
  | 4, h => cases h; exact .inr (.inr rfl)
  | 5, h => cases h; exact .inr (.inr rfl)
  | 6, h => cases h; exact .inr (.inr rfl)
  | 7, h => cases h; exact .inr (.inr rfl)
  | j + 8, h => simp [slots0] at h
section
variable {X : Cx} {E : XK} {wi1 wi3 wi4 : TI} {t2 tz tv : TE} {tc : TT} {tn : TS}
theorem cut_all (h1 : ∀ B σ Γ H0 H R, EnvOk X.K B σ Γ H0 H → IW X B E σ Γ H0 H (sItA rng1 (sCons (sPub (sBin addG (sName 0) (sC (.int 1)))) sNil) Γ) R → wi1 σ H R)
    (h2 : ∀ B σ Γ H0 H Q, EnvOk X.K B σ Γ H0 H → EW X B E σ Γ H0 H (sRow Γ) Q → t2 σ H Q)
    (h3 : ∀ B σ Γ H0 H R, EnvOk X.K B σ Γ H0 H → IW X B E σ Γ H0 H (sItA rng2 (sCons (sC (.int 2)) (sCons (sPub (sBin addG (sName 0) (sC (.int 1)))) sNil)) Γ) R → wi3 σ H R)
    (hc : ∀ B σ Γ H0 H Q, EnvOk X.K B σ Γ H0 H → TW X B E σ Γ H0 H (sTst (sBin geG (sName 4) (sC (.int 3))) Γ) Q → tc σ H Q) (hz : ∀ B σ Γ H0 H Q, EnvOk X.K B σ Γ H0 H → EW X B E σ Γ H0 H (sZ Γ) Q → tz σ H Q)
    (h4 : ∀ B σ Γ H0 H R, EnvOk X.K B σ Γ H0 H → IW X B E σ Γ H0 H (sItA rng1 (sCons (sName 1) sNil) Γ) R → wi4 σ H R) (hv : ∀ B σ Γ H0 H Q, EnvOk X.K B σ Γ H0 H → EW X B E σ Γ H0 H (sV Γ) Q → tv σ H Q)
    (hn : ∀ D σ H, D.nx σ H → tn D σ H)
    {mg : Str → Option Value} {vs : List V} {H : Hp} {Q : VK} {E' : XK} (h : spD X.K mg 2 cutsM vs H Q E') :
    tSeq (tAsg (tLc wi1 (TGc X [4] (gN 4)) (TTc X E0 sYes) (TEc X E0 sRow) [4]) (gName 2)) (tSeq (tAsg t2 (gName 3)) (tSeq (tFor wi3 (gName 4) (tSeq (tIfS tc (tAsg tz (gName 3)) tn) (tFor wi4 (gName 5) (tAsg tv (gSub (tOp (rIxL X.K) (tVar 2) (tVar 4)) (tVar 5) rSetL))))) (tRet (tVar 2))))
      { nx := fun _ H' => Q .non H', rt := Q } (vs.map some ++ List.replicate 6 none) H := by
  obtain ⟨hlen, H0, Γ, ok, w⟩ := h
  unfold cutsM at w
  split at w
  · rename_i most kinds
    split at w
    · rename_i hb
      obtain ⟨b1, b2, b3, b4⟩ := hb
      obtain ⟨most, rfl⟩ := Int.eq_ofNat_of_zero_le b1
      obtain ⟨kinds, rfl⟩ := Int.eq_ofNat_of_zero_le b3
      have hm : most ≤ 60 := by omega
      have hk : kinds ≤ 20 := by omega
      rw [Int.toNat_natCast, Int.toNat_natCast] at w
      obtain ⟨v0, a0, r0⟩ := ok.dat 0 _ rfl
      obtain ⟨v1, a1, r1⟩ := ok.dat 1 _ rfl
      cases r0
      cases r1
      have a0' : (vs.map some ++ List.replicate 6 none)[0]? = some (some (V.int (most : Int))) := by rw [List.getElem?_append_left (by simp [hlen])]; exact a0
      have a1' : (vs.map some ++ List.replicate 6 none)[1]? = some (some (V.int (kinds : Int))) := by rw [List.getElem?_append_left (by simp [hlen])]; exact a1
      have ok8 : EnvOk X.K (Bof H0 H vs [Sl.d (PyData.int (most : Int)), Sl.d (PyData.int (kinds : Int))]) (vs.map some ++ List.replicate 6 none) (slots0 most kinds) H0 H := by
        refine ⟨ok.sub, by simp [hlen, slots0], fun j x q => ?_, fun j ns q => ?_, fun j b xs q => ?_, fun j k b c xs ys p _ q => ?_, ok.grow⟩
        · rcases slots0_i q with ⟨rfl, e⟩ | ⟨rfl, e⟩ | e
          · cases e; exact ⟨_, a0', .int _⟩
          · cases e; exact ⟨_, a1', .int _⟩
          · cases e
        all_goals rcases slots0_i q with ⟨rfl, e⟩ | ⟨rfl, e⟩ | e <;> cases e
      refine cut_new (Dn := { nx := _, rt := _, bk := _, ct := _ }) hk hm h1 ok8 fun σ1 H01 H1 W ps c1 => ?_
      show t2 _ _ _
      refine h2 _ σ1 _ H01 H1 _ c1.ok ?_
      rw [show slots0 most kinds = [.d (.int most), .d (.int kinds), .un, .un, .un, .un, .un, .un] from rfl, sRow_ok hk]
      intro x H02 H2 ok2 g2 l2 r2
      have c2 := c1.grow ok2 g2
      have ok3 := set_ok 3 c1.ok ok2 l2 r2
      show tSeq _ _ _ _ _
      have c3 : Cu X.K (Bof H0 H vs [Sl.d (PyData.int (most : Int)), Sl.d (PyData.int (kinds : Int))]) (σ1.set 3 (some x)) (slots most kinds (cutAt most kinds 0).2 .un .un) H02 H2 W ps (cutAt most kinds 0).1 := by
        refine ⟨ok3, rfl, fun j y q => ?_, fun j b xs q => ?_, fun j ns q => ?_, by rw [List.getElem?_set_ne (by decide)]; exact c2.s2, c2.hW, c2.nd, c2.len, c2.row, fun p hp => ⟨(c2.no0 p hp).1, (c2.no0 p hp).2.1, (c2.no0 p hp).2.2.1, fun z => ?_⟩⟩
        · match j, q with
          | 0, q => cases q; exact ⟨_, rfl⟩
          | 1, q => cases q; exact ⟨_, rfl⟩
          | 2, q => cases q
          | 3, q => cases q
          | 4, q => cases q
          | 5, q => cases q
          | 6, q => cases q
          | 7, q => cases q
          | j + 8, q => simp [slots] at q
        · match j, q with
          | 0, q => cases q
          | 1, q => cases q
          | 2, q => cases q
          | 3, q => cases q; exact ⟨_, rfl⟩
          | 4, q => cases q
          | 5, q => cases q
          | 6, q => cases q
          | 7, q => cases q
          | j + 8, q => simp [slots] at q
        · match j, q with
          | 0, q => cases q
          | 1, q => cases q
          | 2, q => cases q
          | 3, q => cases q
          | 4, q => cases q
          | 5, q => cases q
          | 6, q => cases q
          | 7, q => cases q
          | j + 8, q => simp [slots] at q
        · -- the new list is none of them
          obtain ⟨j, b, xs, q, e⟩ := z
          match j, q with
          | 0, q => cases q
          | 1, q => cases q
          | 2, q => cases q
          | 3, q =>
            cases r2 with
            | @f _ a us n n0 ea ra =>
              have hl3 : 3 < σ1.length := by rw [← c1.ok.len]; show 3 < 8; decide
              rw [List.getElem?_set_self hl3] at e
              cases e
              exact c1.live hp n
          | 4, q => cases q
          | 5, q => cases q
          | 6, q => cases q
          | 7, q => cases q
          | j + 8, q => simp [slots] at q
      refine cut_loop (Dn := { nx := _, rt := _, bk := _, ct := _ }) hk hm h3 hc hz h4 hv hn c3 fun σ4 H04 H4 tot c4 => ?_
      refine ⟨_, c4.s2, ?_⟩
      have o := cutAt_ok most kinds (most - 1) (Nat.le_refl _)
      have hWps : W ∉ ps := (List.nodup_cons.mp c4.nd).1
      have ex := plus_ex (ps := ps) c4.ok.sub
      have sub := plus_sub (ps := ps) c4.ok.sub
      obtain ⟨n0, nHe, _, _⟩ := c4.no0 W List.mem_cons_self
      refine w (.ref W) (plus H04 H4 ps) H4 ⟨sub, ok.len, fun j y q => ?_, fun j ns q => ?_, fun j b xs q => ?_, fun j k b c xs ys p _ q => ?_, ⟨c4.ok.grow.ex0.trans ex, c4.ok.grow.keep, fun p e n => ?_, c4.ok.grow.live⟩⟩ (.f nHe (by rw [plus_out hWps]; exact n0) c4.hW (c4.rows_rp fun p hp => plus_in hp))
      · match j, q with
        | 0, q => cases q; exact ⟨_, a0, .int _⟩
        | 1, q => cases q; exact ⟨_, a1, .int _⟩
        | j + 2, q => simp at q
      · match j, q with
        | 0, q => cases q
        | 1, q => cases q
        | j + 2, q => simp at q
      · match j, q with
        | 0, q => cases q
        | 1, q => cases q
        | j + 2, q => simp at q
      · match j, q with
        | 0, q => cases q
        | 1, q => cases q
        | j + 2, q => simp at q
      · rw [plus_out fun z => e (c4.no0 p (List.mem_cons_of_mem _ z)).2.1]
        exact c4.ok.grow.old p e n
    · exact w.elim
  · exact w.elim

theorem cut_rule {st1 : Stmt} {e2 it3 it4 ec ev eo1 eo2 ek er tg4 tg5 : Expr} {n3 : Str} {sz : Stmt} {p1 p2 p3 p4 p5 p6 p7 p8 p9 : Pos} (hN : X.N.Nodup) (hp : PassesOwn (model X.prog X.w) X.A X.env X.xe) (hcalm : X.calm = true)
    (i3 : X.N[3]? = some n3) (l3 : Loc X.env.scope n3) (f3 : X.fn n3 = true ∨ X.env.scope.names.lookup n3 = some .local) (sw : swapsWith e2 (some (.Name n3 p1)) p2.line X.env = pure false)
    (j1 : ∃ wi, PS X st1 (tAsg (tLc wi (TGc X [4] (gN 4)) (TTc X E0 sYes) (TEc X E0 sRow) [4]) (gName 2)) ∧ ∀ B σ Γ H0 H R, EnvOk X.K B σ Γ H0 H → IW X B E σ Γ H0 H (sItA rng1 (sCons (sPub (sBin addG (sName 0) (sC (.int 1)))) sNil) Γ) R → wi σ H R)
    (j2 : JE X E e2 sRow) (j3 : JI X E tg4 it3 (sItA rng2 (sCons (sC (.int 2)) (sCons (sPub (sBin addG (sName 0) (sC (.int 1)))) sNil)))) (jc : JT X E ec (sTst (sBin geG (sName 4) (sC (.int 3)))))
    (jz : ∃ t, PS X sz (tAsg t (gName 3)) ∧ ∀ B σ Γ H0 H Q, EnvOk X.K B σ Γ H0 H → EW X B E σ Γ H0 H (sZ Γ) Q → t σ H Q)
    (j4 : JI X E tg5 it4 (sItA rng1 (sCons (sName 1) sNil))) (jv : JE X E ev sV) (g4 : PG X tg4 (gName 4)) (g5 : PG X tg5 (gName 5)) (o1 : PE X eo1 (tVar 2)) (o2 : PE X eo2 (tVar 4)) (ok : PE X ek (tVar 5)) (or' : PE X er (tVar 2)) (px : PlainIx eo2)
    (fs3 : ∀ x, foldedSetIterable it3 X.env x = pure x) (fs4 : ∀ x, foldedSetIterable it4 X.env x = pure x)
    (ha : ∀ v, assign (.Subscript (.Subscript eo1 eo2 p3) ek p4) X.env v = (do
      let ov ← holding [v] (eval (.Subscript eo1 eo2 p3) X.env)
      let iv ← holding [v, ov] (eval ek X.env)
      standAt p4
      holding [v, ov, iv] (setItem ov iv v)
      release [v, ov, iv] []))
    (hs : swapsWithSole [.Subscript (.Subscript eo1 eo2 p3) ek p4] ev p5.line X.env = pure false) (hw : swappedStores [.Subscript (.Subscript eo1 eo2 p3) ek p4] ev X.env = pure none)
    (h1 : (assignEach [.Subscript (.Subscript eo1 eo2 p3) ek p4] X.env).map (·.2) = [assign (.Subscript (.Subscript eo1 eo2 p3) ek p4) X.env])
    {mg : Str → Option Value} {vs : List V} {H : Hp} {Q : VK} {E' : XK} (h : spD X.K mg 2 cutsM vs H Q E') :
    ∃ t, PSs X [st1, .Assign [.Name n3 p1] e2 p2, .For tg4 it3 [.If ec [sz] [] p6, .For tg5 it4 [.Assign [.Subscript (.Subscript eo1 eo2 p3) ek p4] ev p5] [] p7] [] p8, .Return (some er) p9] t ∧
      t { nx := fun _ H' => Q .non H', rt := Q } (vs.map some ++ List.replicate 6 none) H := by
  obtain ⟨wi1, q1, r1⟩ := j1
  obtain ⟨t2, q2, r2⟩ := j2.ex
  obtain ⟨wi3, q3, r3⟩ := j3.ex
  obtain ⟨tc, qc, rc⟩ := jc.ex
  obtain ⟨tz, qz, rz⟩ := jz
  obtain ⟨wi4, q4, r4⟩ := j4.ex
  obtain ⟨tv, qv, rv⟩ := jv.ex
  exact ⟨_, pss_cons q1 (pss_cons (ps_set (i := 3) hN i3 l3 q2 sw f3) (pss_cons (ps_for hp hcalm q3 g4 (pss_cons (ps_if qc (pss_one qz) pss_nil) (pss_one (ps_for hp hcalm q4 g5 (pss_one (ps_asg qv (pg_sub (pe_ix ix_list o1 o2 px) ok set_list ha) hs hw h1)) fs4))) fs3) (pss_one (ps_ret or')))), cut_all (X := X) (E := E) r1 r2 r3 rc rz r4 rv (fun _ _ _ h => h) h⟩
end
end Mi
namespace Lk40
open PySem PySem.Spec PyProof.Rows L2 Evl Mi
def topS (i : Nat) : Stmt := PySem.Challenge.pw_skylineeffect_k40_count_effects.main.body.getD i (.Pass ⟨0, 0, 0, 0⟩)
abbrev st_is_integer : Stmt := topS 4
theorem sc_is_integer : FnScope ["value"] ["value"] (defScope st_is_integer) := ⟨rfl, rfl, rfl, by decide +kernel, rfl, by decide +kernel, by decide +kernel⟩
noncomputable def b_is_integer : Ga → Res (Ga × Fl) :=
 (sRet (sVal (sAnd (sTst (sUn (isiG "int") (sName 0))) (sTst (sVal (sNot (sTst (sUn (isiG "bool") (sName 0)))))))))
noncomputable def m_is_integer : Ga → Res (Ga × R) := defS 1 0 b_is_integer
theorem has_is_integer {P : Program} {w : World} {K : PySem.W.Frag} {mg : Str → Option Value} {base : Heap} {f : Addr} {fd : FuncData} (D : Def K mg "is_integer" st_is_integer ["value"] f fd) (z_bool : mg "bool" = none) (z_int : mg "int" = none) (z_isinstance : mg "isinstance" = none) : Has P w K mg base "is_integer" 1 ["value"] m_is_integer :=
 has_of D sc_is_integer fun cdv A outer s H E hr hq => by
  have hu := hr.units
  have hN := sc_is_integer.nd
  exact (jss_one (js_ret (je_and (je_isi (T := "int") (by decide) rfl z_isinstance rfl rfl z_int rfl (JD.toB (jd_name 0 (pv 0) rfl))) (je_one (je_not (je_isi (T := "bool") (by decide) rfl z_isinstance rfl rfl z_bool rfl (JD.toB (jd_name 0 (pv 0) rfl))))))))
abbrev st_stacks_by_size : Stmt := topS 10
theorem sc_stacks_by_size : FnScope ["most", "kinds", "found", "kind", "many"] ["most", "kinds"] (defScope st_stacks_by_size) := ⟨rfl, rfl, rfl, by decide +kernel, rfl, by decide +kernel, by decide +kernel⟩
noncomputable def b_stacks_by_size : Ga → Res (Ga × Fl) :=
 (sSeq (sSet 2 (sBin addG (sPub (sLst (sCons (sC (.int 1)) sNil))) (sPub (sBin mulG (sPub (sLst (sCons (sC (.int 0)) sNil))) (sName 0)))))
 (sSeq (sFor (sItA rng1 (sCons (sName 1) sNil)) (gN 3)
 (sFor (sItA rng2 (sCons (sC (.int 1)) (sCons (sPub (sBin addG (sName 0) (sC (.int 1)))) sNil))) (gN 4)
 (sAugAt (· + ·) 2 (sName 4) (sPub (sBinN ixG 2 (sPub (sBin subG (sName 4) (sC (.int 1)))))))))
 (sRetN 2)))
noncomputable def m_stacks_by_size : Ga → Res (Ga × R) := defS 2 3 b_stacks_by_size
theorem has_stacks_by_size {P : Program} {w : World} {K : PySem.W.Frag} {mg : Str → Option Value} {base : Heap} {f : Addr} {fd : FuncData} (D : Def K mg "stacks_by_size" st_stacks_by_size ["most", "kinds"] f fd) (z_range : mg "range" = none) : Has P w K mg base "stacks_by_size" 1 ["most", "kinds"] m_stacks_by_size :=
 has_of D sc_stacks_by_size fun cdv A outer s H E hr hq => by
  have hu := hr.units
  have hN := sc_stacks_by_size.nd
  exact (jss_cons (js_set (i := 2) hN rfl (.inl rfl) (je_bin opd_add (JE.toD (je_lst (ja_cons jd_int ja_nil))) (JD.toB (JE.toD (je_bin opd_mul (JE.toD (je_lst (ja_cons jd_int ja_nil))) (JD.toB (jd_name 0 (pv 0) rfl)))))))
 (jss_cons (js_for (passes_of rfl) rfl (ji_range1 rfl z_range (ja_cons (jd_name 1 (pv 1) rfl) ja_nil)) (jg_name (i := 3) hN rfl (.inl rfl))
 (jss_one (js_for (passes_of rfl) rfl (ji_range2 rfl z_range (ja_cons jd_int (ja_cons (JE.toD (je_bin opd_add (jd_name 0 (pv 0) rfl) (JD.toB jd_int))) ja_nil))) (jg_name (i := 4) hN rfl (.inl rfl))
 (jss_one (js_augAt (i := 2) (pv 2) (jd_name 4 (pv 4) rfl) (JE.toD (je_ixN (i := 2) (pv 2) (JE.toD (je_bin opd_sub (jd_name 4 (pv 4) rfl) (JD.toB jd_int))))) ip_add)))))
 (jss_one (js_retName (i := 2) (pv 2)))))
abbrev st_cuts_by_length : Stmt := topS 11
theorem sc_cuts_by_length : FnScope ["most", "kinds", "ways", "totals", "steps", "kind", "total", "more"] ["most", "kinds"] (defScope st_cuts_by_length) := ⟨rfl, rfl, rfl, by decide +kernel, rfl, by decide +kernel, by decide +kernel⟩
noncomputable def m_cuts_by_length : Ga → Res (Ga × R) := cutsM
theorem has_cuts_by_length {P : Program} {w : World} {K : PySem.W.Frag} {mg : Str → Option Value} {base : Heap} {f : Addr} {fd : FuncData} (D : Def K mg "cuts_by_length" st_cuts_by_length ["most", "kinds"] f fd) (z_range : mg "range" = none) (z_sum : mg "sum" = none) (z_zip : mg "zip" = none) : Has P w K mg base "cuts_by_length" 1 ["most", "kinds"] m_cuts_by_length := by
  refine ⟨f, fd, ⟨fnG_of D.fn sc_cuts_by_length (fun vs H Q E h => h.1) fun cdv A outer s H vs Q E hr hq h => ?_, cutsM_shape⟩, D.at_, D.fn.kp, D.bd⟩
  have hu := hr.units
  have hN := sc_cuts_by_length.nd
  have hst : L2.start ["most", "kinds", "ways", "totals", "steps", "kind", "total", "more"] vs = vs.map some ++ List.replicate 6 none := by
    unfold L2.start
    rw [h.1]
    rfl
  rw [hst]
  refine cut_rule (E := E) (mg := mg) (E' := E) hN ?_ ?_ ?_ ?_ ?_ ?_ ?_ ?_ ?_ ?_ ?_ ?_ ?_ ?_ ?_ ?_ ?_ ?_ ?_ ?_ ?_ ?_ ?_ ?_ ?_ ?_ ?_
  · exact (passes_of rfl)
  · exact rfl
  · exact rfl
  · exact (.inl rfl)
  · exact (.inr rfl)
  · exact rfl
  · exact setLcE_t (te := sRow) (i := 2) rfl hN rfl rfl (sw_true rfl rfl rfl (by decide +kernel)) (ji_range1 rfl z_range (ja_cons (JE.toD (je_bin opd_add (jd_name 0 (pv 0) rfl) (JD.toB jd_int))) ja_nil)) (own := [(("steps" : Str), 4)]) (blkOk_by (by kernel_rfl)) (fun _ _ _ _ _ => (jgw_name (i := 4) (by decide) hN rfl (.inl rfl))) (fun _ _ _ _ _ => (je_bin opd_mul (JE.toD (je_lst (ja_cons jd_int ja_nil))) (JD.toB (jd_name 1 (pv 1) rfl))))
  · exact (je_bin opd_mul (JE.toD (je_lst (ja_cons jd_int ja_nil))) (JD.toB (jd_name 1 (pv 1) rfl)))
  · exact (ji_range2 rfl z_range (ja_cons jd_int (ja_cons (JE.toD (je_bin opd_add (jd_name 0 (pv 0) rfl) (JD.toB jd_int))) ja_nil)))
  · exact (jt_cmp opd_ge (jd_name 4 (pv 4) rfl) (JD.toB jd_int) (nomark _))
  · exact setLc_t (i := 3) rfl hN rfl rfl (sw_true rfl rfl rfl (by decide +kernel)) (ji_zipB (bb := true) rfl z_zip (ja_cons (jd_name 3 (pv 3) rfl) (ja_cons (JE.toD (je_ix (jd_name 2 (pv 2) rfl) (JE.toD (je_bin opd_sub (jd_name 4 (pv 4) rfl) (JD.toB jd_int))))) ja_nil)) fun _ _ h => wpAny_pure h) (own := [(("total" : Str), 6), (("more" : Str), 7)]) (blkOk_by (by kernel_rfl)) (fun _ _ _ _ _ => (jgw_tup rfl (jgsw_cons (jgw_name (i := 6) (by decide) hN rfl (.inl rfl)) (jgsw_cons (jgw_name (i := 7) (by decide) hN rfl (.inl rfl)) jgsw_nil)))) (fun _ _ _ _ _ => jts_nil) (fun _ _ _ _ _ => (JE.toD (je_bin opd_add (jd_name 6 (pv 6) rfl) (JD.toB (jd_name 7 (pv 7) rfl)))))
  · exact (ji_range1 rfl z_range (ja_cons (jd_name 1 (pv 1) rfl) ja_nil))
  · exact (je_bin opd_add jd_int (JD.toB (JE.toD (je_call1 (cd_sum rfl) rfl z_sum rfl (JD.toB (JE.toD (je_slN (i := 3) (pv 3) jo_none (jo_some (jd_name 5 (pv 5) rfl)))))))))
  · exact (pg_name (i := 4) hN rfl (.inl rfl))
  · exact (pg_name (i := 5) hN rfl (.inl rfl))
  · exact (pv 2)
  · exact (pv 4)
  · exact (pv 5)
  · exact (pv 2)
  · exact (fun _ _ => rfl)
  · exact (fun _ => rfl)
  · exact (fun _ => rfl)
  · exact (fun _ => rfl)
  · exact rfl
  · exact rfl
  · exact rfl
  · exact h
abbrev st__law_pool : Stmt := topS 14
theorem sc__law_pool : FnScope ["_law_script", "_law_k", "_law_cell", "_law_blend"] ["_law_script", "_law_k"] (defScope st__law_pool) := ⟨rfl, rfl, rfl, by decide +kernel, rfl, by decide +kernel, by decide +kernel⟩
noncomputable def b__law_pool : Ga → Res (Ga × Fl) :=
 (sSeq (sSet 2 (sDat (sC (.int 0))))
 (sSeq (sCond (sTst (sBin ltG (sName 1) (sPub (sLenScr 0))))
 (sSet 2 (sUn absG (sPub (sIxScr 0 (sName 1)))))
 sSkip)
 (sSeq (sSet 3 (sBin modG (sPub (sBin mulG (sPub (sBin addG (sPub (sBin addG (sPub (sBin addG (sPub (sBin modG (sName 2) (sC (.int 2147483629)))) (sPub (sBin mulG (sPub (sBin mulG (sC (.int 7919)) (sName 1))) (sName 1))))) (sPub (sBin mulG (sC (.int 31)) (sName 1))))) (sC (.int 17)))) (sC (.int 48271)))) (sC (.int 2147483647))))
 (sRet (sLst (sCons (sPub (sBin mulG (sName 2) (sPub (sUn intG (sPub (sBin geG (sName 2) (sPub (sBin powG (sC (.int 10)) (sC (.int 18)))))))))) (sCons (sPub (sBin modG (sPub (sBin mulG (sName 3) (sName 3))) (sC (.int 2147483629)))) sNil)))))))
noncomputable def m__law_pool : Ga → Res (Ga × R) := defS 2 2 b__law_pool
theorem has__law_pool {P : Program} {w : World} {K : PySem.W.Frag} {mg : Str → Option Value} {base : Heap} {f : Addr} {fd : FuncData} (D : Def K mg "_law_pool" st__law_pool ["_law_script", "_law_k"] f fd) (z_abs : mg "abs" = none) (z_int : mg "int" = none) (z_len : mg "len" = none) : Has P w K mg base "_law_pool" 1 ["_law_script", "_law_k"] m__law_pool :=
 has_of D sc__law_pool fun cdv A outer s H E hr hq => by
  have hu := hr.units
  have hN := sc__law_pool.nd
  exact (jss_cons (js_set (i := 2) hN rfl (.inl rfl) (JD.toE jd_int))
 (jss_cons (js_if (jt_cmp opd_lt (jd_name 1 (pv 1) rfl) (JD.toB (JE.toD (je_lenScr (i := 0) rfl z_len rfl (pv 0)))) (nomark _))
 (jss_one (js_set (i := 2) hN rfl (.inl rfl) (je_call1 cd_abs rfl z_abs rfl (JD.toB (JE.toD (je_ixScr (i := 0) (pv 0) (jd_name 1 (pv 1) rfl)))))))
 jss_nil)
 (jss_cons (js_set (i := 3) hN rfl (.inl rfl) (je_bin opd_mod (JE.toD (je_bin opd_mul (JE.toD (je_bin opd_add (JE.toD (je_bin opd_add (JE.toD (je_bin opd_add (JE.toD (je_bin opd_mod (jd_name 2 (pv 2) rfl) (JD.toB jd_int))) (JD.toB (JE.toD (je_bin opd_mul (JE.toD (je_bin opd_mul jd_int (JD.toB (jd_name 1 (pv 1) rfl)))) (JD.toB (jd_name 1 (pv 1) rfl))))))) (JD.toB (JE.toD (je_bin opd_mul jd_int (JD.toB (jd_name 1 (pv 1) rfl))))))) (JD.toB jd_int))) (JD.toB jd_int))) (JD.toB jd_int)))
 (jss_one (js_ret (je_lst (ja_cons (JE.toD (je_bin opd_mul (jd_name 2 (pv 2) rfl) (JD.toB (JE.toD (je_callT1 cd_int rfl z_int rfl (JD.toB (JE.toD (je_cmp opd_ge (jd_name 2 (pv 2) rfl) (JD.toB (JE.toD (je_bin opd_pow jd_int (JD.toB jd_int)))) (nomark _))))))))) (ja_cons (JE.toD (je_bin opd_mod (JE.toD (je_bin opd_mul (jd_name 3 (pv 3) rfl) (JD.toB (jd_name 3 (pv 3) rfl)))) (JD.toB jd_int))) ja_nil))))))))
abbrev st__law_take : Stmt := topS 15
theorem sc__law_take : FnScope ["_law_pool_here", "_law_sides", "_law_found"] ["_law_pool_here", "_law_sides"] (defScope st__law_take) := ⟨rfl, rfl, rfl, by decide +kernel, rfl, by decide +kernel, by decide +kernel⟩
noncomputable def b__law_take : Ga → Res (Ga × Fl) :=
 (sSeq (sCond (sTst (sBin gtG (sPub (sBinN ixG 0 (sC (.int 0)))) (sC (.int 0))))
 (sSeq (sSet 2 (sBin modG (sPub (sBinN ixG 0 (sC (.int 0)))) (sName 1)))
 (sSeq (sPut 0 (sC (.int 0)) (sPub (sBin fdivG (sPub (sBinN ixG 0 (sC (.int 0)))) (sName 1))))
 (sRetN 2)))
 sSkip)
 (sSeq (sPut 0 (sC (.int 1)) (sPub (sBin modG (sPub (sBin addG (sPub (sBin mulG (sPub (sBinN ixG 0 (sC (.int 1)))) (sC (.int 48271)))) (sC (.int 12345)))) (sC (.int 2147483647)))))
 (sRet (sBin modG (sPub (sBin fdivG (sPub (sBin modG (sPub (sBin mulG (sPub (sBinN ixG 0 (sC (.int 1)))) (sPub (sBinN ixG 0 (sC (.int 1)))))) (sC (.int 2147483629)))) (sC (.int 64)))) (sName 1)))))
noncomputable def m__law_take : Ga → Res (Ga × R) := defS 2 1 b__law_take
theorem has__law_take {P : Program} {w : World} {K : PySem.W.Frag} {mg : Str → Option Value} {base : Heap} {f : Addr} {fd : FuncData} (D : Def K mg "_law_take" st__law_take ["_law_pool_here", "_law_sides"] f fd)  : Has P w K mg base "_law_take" 1 ["_law_pool_here", "_law_sides"] m__law_take :=
 has_of D sc__law_take fun cdv A outer s H E hr hq => by
  have hu := hr.units
  have hN := sc__law_take.nd
  exact (jss_cons (js_if (jt_cmp opd_gt (JE.toD (je_ixN (i := 0) (pv 0) jd_int)) (JD.toB jd_int) (nomark _))
 (jss_cons (js_set (i := 2) hN rfl (.inl rfl) (je_bin opd_mod (JE.toD (je_ixN (i := 0) (pv 0) jd_int)) (JD.toB (jd_name 1 (pv 1) rfl))))
 (jss_cons (js_put (i := 0) (pv 0) jd_int (JE.toD (je_bin opd_fdiv (JE.toD (je_ixN (i := 0) (pv 0) jd_int)) (JD.toB (jd_name 1 (pv 1) rfl)))))
 (jss_one (js_retName (i := 2) (pv 2)))))
 jss_nil)
 (jss_cons (js_put (i := 0) (pv 0) jd_int (JE.toD (je_bin opd_mod (JE.toD (je_bin opd_add (JE.toD (je_bin opd_mul (JE.toD (je_ixN (i := 0) (pv 0) jd_int)) (JD.toB jd_int))) (JD.toB jd_int))) (JD.toB jd_int))))
 (jss_one (js_ret (je_bin opd_mod (JE.toD (je_bin opd_fdiv (JE.toD (je_bin opd_mod (JE.toD (je_bin opd_mul (JE.toD (je_ixN (i := 0) (pv 0) jd_int)) (JD.toB (JE.toD (je_ixN (i := 0) (pv 0) jd_int))))) (JD.toB jd_int))) (JD.toB jd_int))) (JD.toB (jd_name 1 (pv 1) rfl)))))))
abbrev st__law_words : Stmt := topS 17
theorem sc__law_words : FnScope ["_law_numbers_here", "_law_long", "_law_letters", "_law_found", "_law_turn", "_law_later", "_law_word", "_law_number", "_law_letter"] ["_law_numbers_here", "_law_long"] (defScope st__law_words) := ⟨rfl, rfl, rfl, by decide +kernel, rfl, by decide +kernel, by decide +kernel⟩
noncomputable def b__law_words : Ga → Res (Ga × Fl) :=
 (sSeq (sSet 2 (sBin addG (sPub (sLst (sCons (sPub (sTup (sCons (sC (.str ("pop" : Str))) (sCons (sC (.int 1)) sNil)))) sNil))) (sPub (sLc (sIt iterA (sName 0)) (gN 7) sYes (sPub (sTup (sCons (sC (.str ("push" : Str))) (sCons (sName 7) (sCons (sC (.int 1)) sNil))))) [7]))))
 (sSeq (sSet 3 (sLst (sCons (sPub (sLst sNil)) sNil)))
 (sSeq (sFor (sItA rng1 (sCons (sName 1) sNil)) (gN 4)
 (sSeq (sSet 5 (sLst sNil))
 (sSeq (sFor (sIt iterA (sName 3)) (gN 6)
 (sSet 5 (sBin addG (sName 5) (sPub (sLc (sIt iterA (sName 2)) (gN 8) sYes (sPub (sBin addG (sName 6) (sPub (sLst (sCons (sName 8) sNil))))) [8])))))
 (sSet 3 (sDat (sName 5))))))
 (sRetN 3))))
noncomputable def m__law_words : Ga → Res (Ga × R) := defS 2 7 b__law_words
theorem has__law_words {P : Program} {w : World} {K : PySem.W.Frag} {mg : Str → Option Value} {base : Heap} {f : Addr} {fd : FuncData} (D : Def K mg "_law_words" st__law_words ["_law_numbers_here", "_law_long"] f fd) (z_range : mg "range" = none) : Has P w K mg base "_law_words" 1 ["_law_numbers_here", "_law_long"] m__law_words :=
 has_of D sc__law_words fun cdv A outer s H E hr hq => by
  have hu := hr.units
  have hN := sc__law_words.nd
  exact (jss_cons (js_set (i := 2) hN rfl (.inl rfl) (je_bin opd_add (JE.toD (je_lst (ja_cons (JE.toD (je_tup (ja_cons jd_str (ja_cons jd_int ja_nil)))) ja_nil))) (JD.toB (JE.toD (je_lc rfl hN (ji_any (jd_name 0 (pv 0) rfl)) (own := [(("_law_number" : Str), 7)]) (blkOk_by (by kernel_rfl)) (fun _ _ _ _ _ => (jgw_name (i := 7) (by decide) hN rfl (.inl rfl))) (fun _ _ _ _ _ => jts_nil) (fun _ _ _ _ _ => (JE.toD (je_tup (ja_cons jd_str (ja_cons (jd_name 7 (pv 7) rfl) (ja_cons jd_int ja_nil)))))))))))
 (jss_cons (js_set (i := 3) hN rfl (.inl rfl) (je_lst (ja_cons (JE.toD (je_lst ja_nil)) ja_nil)))
 (jss_cons (js_for (passes_of rfl) rfl (ji_range1 rfl z_range (ja_cons (jd_name 1 (pv 1) rfl) ja_nil)) (jg_name (i := 4) hN rfl (.inl rfl))
 (jss_cons (js_set (i := 5) hN rfl (.inl rfl) (je_lst ja_nil))
 (jss_cons (js_for (passes_of rfl) rfl (ji_any (jd_name 3 (pv 3) rfl)) (jg_name (i := 6) hN rfl (.inr rfl))
 (jss_one (js_set (i := 5) hN rfl (.inl rfl) (je_bin opd_add (jd_name 5 (pv 5) rfl) (JD.toB (JE.toD (je_lc rfl hN (ji_any (jd_name 2 (pv 2) rfl)) (own := [(("_law_letter" : Str), 8)]) (blkOk_by (by kernel_rfl)) (fun _ _ _ _ _ => (jgw_name (i := 8) (by decide) hN rfl (.inl rfl))) (fun _ _ _ _ _ => jts_nil) (fun _ _ _ _ _ => (JE.toD (je_bin opd_add (jd_name 6 (pv 6) rfl) (JD.toB (JE.toD (je_lst (ja_cons (jd_name 8 (pv 8) rfl) ja_nil))))))))))))))
 (jss_one (js_set (i := 3) hN rfl (.inl rfl) (JD.toE (jd_name 5 (pv 5) rfl)))))))
 (jss_one (js_retName (i := 3) (pv 3))))))
abbrev st__law_shortens : Stmt := topS 18
theorem sc__law_shortens : FnScope ["_law_word", "_law_at", "_law_one", "_law_spot"] ["_law_word", "_law_at"] (defScope st__law_shortens) := ⟨rfl, rfl, rfl, by decide +kernel, rfl, by decide +kernel, by decide +kernel⟩
noncomputable def b__law_shortens : Ga → Res (Ga × Fl) :=
 (sSeq (sSet 2 (sBin ixG (sName 0) (sName 1)))
 (sSeq (sCond (sOr (sTst (sBin neG (sPub (sBin ixG (sName 2) (sC (.int 0)))) (sC (.str ("push" : Str))))) (sTst (sBin geG (sPub (sBin addG (sName 1) (sC (.int 1)))) (sPub (sUn lenG (sName 0))))))
 (sRet (sDat (sC (.bool false))))
 sSkip)
 (sSeq (sCond (sTst (sBin eqG (sPub (sBin ixG (sPub (sBin ixG (sName 0) (sPub (sBin addG (sName 1) (sC (.int 1)))))) (sC (.int 0)))) (sC (.str ("push" : Str)))))
 (sSeq (sCond (sTst (sBin ltG (sPub (sBin ixG (sName 2) (sC (.int 1)))) (sPub (sBin ixG (sPub (sBin ixG (sName 0) (sPub (sBin addG (sName 1) (sC (.int 1)))))) (sC (.int 1))))))
 (sRet (sDat (sC (.bool true))))
 sSkip)
 (sRet (sVal (sAnd (sTst (sBin ltG (sPub (sBin addG (sName 1) (sC (.int 2)))) (sPub (sUn lenG (sName 0))))) (sTst (sBin eqG (sPub (sBin ixG (sPub (sBin ixG (sName 0) (sPub (sBin addG (sName 1) (sC (.int 2)))))) (sC (.int 0)))) (sC (.str ("pop" : Str)))))))))
 sSkip)
 (sSeq (sSet 3 (sBin addG (sName 1) (sC (.int 1))))
 (sSeq (sWhile (sAnd (sTst (sBin ltG (sName 3) (sPub (sUn lenG (sName 0))))) (sTst (sBin eqG (sPub (sBin ixG (sPub (sBin ixG (sName 0) (sName 3))) (sC (.int 0)))) (sC (.str ("pop" : Str))))))
 (sSet 3 (sBin addG (sName 3) (sC (.int 1)))))
 (sSeq (sCond (sTst (sBin eqG (sName 3) (sPub (sUn lenG (sName 0)))))
 (sRet (sDat (sC (.bool false))))
 sSkip)
 (sSeq (sCond (sAnd (sTst (sBin eqG (sName 3) (sPub (sBin addG (sName 1) (sC (.int 2)))))) (sTst (sBin leG (sPub (sBin ixG (sName 2) (sC (.int 1)))) (sPub (sBin ixG (sPub (sBin ixG (sName 0) (sName 3))) (sC (.int 1)))))))
 (sRet (sDat (sC (.bool true))))
 sSkip)
 (sRet (sVal (sAnd (sTst (sBin leG (sPub (sBin ixG (sPub (sBin ixG (sName 0) (sName 3))) (sC (.int 1)))) (sPub (sBin ixG (sName 2) (sC (.int 1)))))) (sAnd (sTst (sBin ltG (sPub (sBin addG (sName 3) (sC (.int 1)))) (sPub (sUn lenG (sName 0))))) (sTst (sBin eqG (sPub (sBin ixG (sPub (sBin ixG (sName 0) (sPub (sBin addG (sName 3) (sC (.int 1)))))) (sC (.int 0)))) (sC (.str ("pop" : Str))))))))))))))))
noncomputable def m__law_shortens : Ga → Res (Ga × R) := defS 2 2 b__law_shortens
theorem has__law_shortens {P : Program} {w : World} {K : PySem.W.Frag} {mg : Str → Option Value} {base : Heap} {f : Addr} {fd : FuncData} (D : Def K mg "_law_shortens" st__law_shortens ["_law_word", "_law_at"] f fd) (z_len : mg "len" = none) : Has P w K mg base "_law_shortens" 1 ["_law_word", "_law_at"] m__law_shortens :=
 has_of D sc__law_shortens fun cdv A outer s H E hr hq => by
  have hu := hr.units
  have hN := sc__law_shortens.nd
  exact (jss_cons (js_set (i := 2) hN rfl (.inl rfl) (je_ix (jd_name 0 (pv 0) rfl) (jd_name 1 (pv 1) rfl)))
 (jss_cons (js_if (JW.t (jw_or (jt_cmp (opd_ne hu) (JE.toD (je_ix (jd_name 2 (pv 2) rfl) jd_int)) (JD.toB jd_str) (nomark _)) (jw_or1 (jt_cmp opd_ge (JE.toD (je_bin opd_add (jd_name 1 (pv 1) rfl) (JD.toB jd_int))) (JD.toB (JE.toD (je_call1 cd_len rfl z_len rfl (JD.toB (jd_name 0 (pv 0) rfl))))) (nomark _)))))
 (jss_one (js_ret (JD.toE jd_bl)))
 jss_nil)
 (jss_cons (js_if (jt_cmp (opd_eq hu) (JE.toD (je_ix (JE.toD (je_ix (jd_name 0 (pv 0) rfl) (JE.toD (je_bin opd_add (jd_name 1 (pv 1) rfl) (JD.toB jd_int))))) jd_int)) (JD.toB jd_str) (nomark _))
 (jss_cons (js_if (jt_cmp opd_lt (JE.toD (je_ix (jd_name 2 (pv 2) rfl) jd_int)) (JD.toB (JE.toD (je_ix (JE.toD (je_ix (jd_name 0 (pv 0) rfl) (JE.toD (je_bin opd_add (jd_name 1 (pv 1) rfl) (JD.toB jd_int))))) jd_int))) (nomark _))
 (jss_one (js_ret (JD.toE jd_bl)))
 jss_nil)
 (jss_one (js_ret (je_and (je_cmp opd_lt (JE.toD (je_bin opd_add (jd_name 1 (pv 1) rfl) (JD.toB jd_int))) (JD.toB (JE.toD (je_call1 cd_len rfl z_len rfl (JD.toB (jd_name 0 (pv 0) rfl))))) (nomark _)) (je_one (je_cmp (opd_eq hu) (JE.toD (je_ix (JE.toD (je_ix (jd_name 0 (pv 0) rfl) (JE.toD (je_bin opd_add (jd_name 1 (pv 1) rfl) (JD.toB jd_int))))) jd_int)) (JD.toB jd_str) (nomark _)))))))
 jss_nil)
 (jss_cons (js_set (i := 3) hN rfl (.inl rfl) (je_bin opd_add (jd_name 1 (pv 1) rfl) (JD.toB jd_int)))
 (jss_cons (js_while (passes_of rfl) (JW.t (jw_and (jt_cmp opd_lt (jd_name 3 (pv 3) rfl) (JD.toB (JE.toD (je_call1 cd_len rfl z_len rfl (JD.toB (jd_name 0 (pv 0) rfl))))) (nomark _)) (jw_and1 (jt_cmp (opd_eq hu) (JE.toD (je_ix (JE.toD (je_ix (jd_name 0 (pv 0) rfl) (jd_name 3 (pv 3) rfl))) jd_int)) (JD.toB jd_str) (nomark _)))))
 (jss_one (js_set (i := 3) hN rfl (.inl rfl) (je_bin opd_add (jd_name 3 (pv 3) rfl) (JD.toB jd_int)))))
 (jss_cons (js_if (jt_cmp (opd_eq hu) (jd_name 3 (pv 3) rfl) (JD.toB (JE.toD (je_call1 cd_len rfl z_len rfl (JD.toB (jd_name 0 (pv 0) rfl))))) (nomark _))
 (jss_one (js_ret (JD.toE jd_bl)))
 jss_nil)
 (jss_cons (js_if (JW.t (jw_and (jt_cmp (opd_eq hu) (jd_name 3 (pv 3) rfl) (JD.toB (JE.toD (je_bin opd_add (jd_name 1 (pv 1) rfl) (JD.toB jd_int)))) (nomark _)) (jw_and1 (jt_cmp opd_le (JE.toD (je_ix (jd_name 2 (pv 2) rfl) jd_int)) (JD.toB (JE.toD (je_ix (JE.toD (je_ix (jd_name 0 (pv 0) rfl) (jd_name 3 (pv 3) rfl))) jd_int))) (nomark _)))))
 (jss_one (js_ret (JD.toE jd_bl)))
 jss_nil)
 (jss_one (js_ret (je_and (je_cmp opd_le (JE.toD (je_ix (JE.toD (je_ix (jd_name 0 (pv 0) rfl) (jd_name 3 (pv 3) rfl))) jd_int)) (JD.toB (JE.toD (je_ix (jd_name 2 (pv 2) rfl) jd_int))) (nomark _)) (je_and (je_cmp opd_lt (JE.toD (je_bin opd_add (jd_name 3 (pv 3) rfl) (JD.toB jd_int))) (JD.toB (JE.toD (je_call1 cd_len rfl z_len rfl (JD.toB (jd_name 0 (pv 0) rfl))))) (nomark _)) (je_one (je_cmp (opd_eq hu) (JE.toD (je_ix (JE.toD (je_ix (jd_name 0 (pv 0) rfl) (JE.toD (je_bin opd_add (jd_name 3 (pv 3) rfl) (JD.toB jd_int))))) jd_int)) (JD.toB jd_str) (nomark _))))))))))))))
abbrev st_are_numbers : Stmt := topS 8
theorem sc_are_numbers : FnScope ["value", "most", "number", "one", "other"] ["value", "most"] (defScope st_are_numbers) := ⟨rfl, rfl, rfl, by decide +kernel, rfl, by decide +kernel, by decide +kernel⟩
noncomputable def b_are_numbers : Ga → Res (Ga × Fl) :=
 (sSeq (sCond (sOr (sNot (sTst (sUn (isiG "tuple") (sName 0)))) (sOr (sTst (sBin gtG (sPub (sUn lenG (sName 0))) (sName 1))) (sNot (sTst (sUn allG (sPub (sLc (sIt iterA (sName 0)) (gN 2) sYes (sPub (callS m_is_integer [none] (sCons (sName 2) sNil))) [2])))))))
 (sRet (sDat (sC (.bool false))))
 sSkip)
 (sRet (sUn allG (sPub (sLc (sItA (zipSL false) (sCons (sName 0) (sCons (sPub (sSl (sName 0) (sSomeO (sC (.int 1))) sNoO)) sNil))) (gTup' (gCons' (gN 3) (gCons' (gN 4) gNil')) 2) sYes (sPub (sBin ltG (sName 3) (sName 4))) [3, 4])))))
noncomputable def m_are_numbers : Ga → Res (Ga × R) := defS 2 3 b_are_numbers
theorem has_are_numbers {P : Program} {w : World} {K : PySem.W.Frag} {mg : Str → Option Value} {base : Heap} {f : Addr} {fd : FuncData} (D : Def K mg "are_numbers" st_are_numbers ["value", "most"] f fd) (H_is_integer : Has P w K mg base "is_integer" 1 ["value"] m_is_integer) (z_all : mg "all" = none) (z_isinstance : mg "isinstance" = none) (z_len : mg "len" = none) (z_tuple : mg "tuple" = none) (z_zip : mg "zip" = none) : Has P w K mg base "are_numbers" 2 ["value", "most"] m_are_numbers :=
 has_of D sc_are_numbers fun cdv A outer s H E hr hq => by
  have hu := hr.units
  have hN := sc_are_numbers.nd
  exact (jss_cons (js_if (JW.t (jw_or (jt_not (jt_val (je_isi (T := "tuple") (by decide) rfl z_isinstance rfl rfl z_tuple rfl (JD.toB (jd_name 0 (pv 0) rfl))))) (jw_or (jt_cmp opd_gt (JE.toD (je_call1 cd_len rfl z_len rfl (JD.toB (jd_name 0 (pv 0) rfl)))) (JD.toB (jd_name 1 (pv 1) rfl)) (nomark _)) (jw_or1 (jt_not (jt_val (je_call1 (cd_all rfl) rfl z_all rfl (JD.toB (JE.toD (je_lc rfl hN (ji_any (jd_name 0 (pv 0) rfl)) (own := [(("number" : Str), 2)]) (blkOk_by (by kernel_rfl)) (fun _ _ _ _ _ => (jgw_name (i := 2) (by decide) hN rfl (.inl rfl))) (fun _ _ _ _ _ => jts_nil) (fun _ _ _ _ _ => (JE.toD (je_callH (ks := [none]) H_is_integer hr (by decide) hq rfl takes0 (jp_d (jd_name 2 (pv 2) rfl) jp_nil) (by decide) rfl)))))))))))))
 (jss_one (js_ret (JD.toE jd_bl)))
 jss_nil)
 (jss_one (js_ret (je_call1 (cd_all rfl) rfl z_all rfl (JD.toB (JE.toD (je_lc rfl hN (ji_zipB (bb := false) rfl z_zip (ja_cons (jd_name 0 (pv 0) rfl) (ja_cons (JE.toD (je_sl (jd_name 0 (pv 0) rfl) (jo_some jd_int) jo_none)) ja_nil)) fun _ _ h => wpAny_pure h) (own := [(("one" : Str), 3), (("other" : Str), 4)]) (blkOk_by (by kernel_rfl)) (fun _ _ _ _ _ => (jgw_tup rfl (jgsw_cons (jgw_name (i := 3) (by decide) hN rfl (.inl rfl)) (jgsw_cons (jgw_name (i := 4) (by decide) hN rfl (.inl rfl)) jgsw_nil)))) (fun _ _ _ _ _ => jts_nil) (fun _ _ _ _ _ => (JE.toD (je_cmp opd_lt (jd_name 3 (pv 3) rfl) (JD.toB (jd_name 4 (pv 4) rfl)) (nomark _)))))))))))
abbrev st__law_numbers : Stmt := topS 16
theorem sc__law_numbers : FnScope ["_law_pool_here", "_law_many", "_law_number", "_law_found", "_law_turn"] ["_law_pool_here", "_law_many"] (defScope st__law_numbers) := ⟨rfl, rfl, rfl, by decide +kernel, rfl, by decide +kernel, by decide +kernel⟩
noncomputable def b__law_numbers : Ga → Res (Ga × Fl) :=
 (sSeq (sSet 2 (sBin ixG (sPub (sLst (sCons (sPub (sUn negG (sPub (sBin powG (sC (.int 10)) (sC (.int 30)))))) (sCons (sPub (sUn negG (sC (.int 50)))) (sCons (sPub (sUn negG (sC (.int 3)))) (sCons (sC (.int 0)) (sCons (sC (.int 7)) (sCons (sPub (sBin powG (sC (.int 10)) (sC (.int 18)))) sNil)))))))) (sPub (callS m__law_take [some 0, none] (sRef 0 (sCons (sC (.int 6)) sNil))))))
 (sSeq (sSet 3 (sLst sNil))
 (sSeq (sFor (sItA rng1 (sCons (sName 1) sNil)) (gN 4)
 (sSeq (sSet 2 (sBin addG (sPub (sBin addG (sName 2) (sC (.int 1)))) (sPub (callS m__law_take [some 0, none] (sRef 0 (sCons (sPub (sBin ixG (sPub (sLst (sCons (sC (.int 1)) (sCons (sC (.int 2)) (sCons (sC (.int 9)) sNil))))) (sPub (callS m__law_take [some 0, none] (sRef 0 (sCons (sC (.int 3)) sNil)))))) sNil))))))
 (sDrop (sAppend 3 (sName 2)))))
 (sRetN 3))))
noncomputable def m__law_numbers : Ga → Res (Ga × R) := defS 2 3 b__law_numbers
theorem has__law_numbers {P : Program} {w : World} {K : PySem.W.Frag} {mg : Str → Option Value} {base : Heap} {f : Addr} {fd : FuncData} (D : Def K mg "_law_numbers" st__law_numbers ["_law_pool_here", "_law_many"] f fd) (H__law_take : Has P w K mg base "_law_take" 1 ["_law_pool_here", "_law_sides"] m__law_take) (z_range : mg "range" = none) : Has P w K mg base "_law_numbers" 2 ["_law_pool_here", "_law_many"] m__law_numbers :=
 has_of D sc__law_numbers fun cdv A outer s H E hr hq => by
  have hu := hr.units
  have hN := sc__law_numbers.nd
  exact (jss_cons (js_set (i := 2) hN rfl (.inl rfl) (je_ix (JE.toD (je_lst (ja_cons (JE.toD (je_neg (JE.toD (je_bin opd_pow jd_int (JD.toB jd_int))))) (ja_cons (JE.toD (je_neg jd_int)) (ja_cons (JE.toD (je_neg jd_int)) (ja_cons jd_int (ja_cons jd_int (ja_cons (JE.toD (je_bin opd_pow jd_int (JD.toB jd_int))) ja_nil)))))))) (JE.toD (je_callH (ks := [some 0, none]) H__law_take hr (by decide) hq rfl (takes_of rfl rfl rfl rfl) (jp_ref (pv 0) (jp_d jd_int jp_nil)) (by decide) rfl))))
 (jss_cons (js_set (i := 3) hN rfl (.inl rfl) (je_lst ja_nil))
 (jss_cons (js_for (passes_of rfl) rfl (ji_range1 rfl z_range (ja_cons (jd_name 1 (pv 1) rfl) ja_nil)) (jg_name (i := 4) hN rfl (.inl rfl))
 (jss_cons (js_set (i := 2) hN rfl (.inl rfl) (je_bin opd_add (JE.toD (je_bin opd_add (jd_name 2 (pv 2) rfl) (JD.toB jd_int))) (JD.toB (JE.toD (je_callH (ks := [some 0, none]) H__law_take hr (by decide) hq rfl (takes_of rfl rfl rfl rfl) (jp_ref (pv 0) (jp_d (JE.toD (je_ix (JE.toD (je_lst (ja_cons jd_int (ja_cons jd_int (ja_cons jd_int ja_nil))))) (JE.toD (je_callH (ks := [some 0, none]) H__law_take hr (by decide) hq rfl (takes_of rfl rfl rfl rfl) (jp_ref (pv 0) (jp_d jd_int jp_nil)) (by decide) rfl)))) jp_nil)) (by decide) rfl)))))
 (jss_one (js_expr (je_append (i := 3) (pv 3) (jd_name 2 (pv 2) rfl))))))
 (jss_one (js_retName (i := 3) (pv 3))))))
abbrev st__law_is_shortest : Stmt := topS 19
theorem sc__law_is_shortest : FnScope ["_law_word", "_law_at"] ["_law_word"] (defScope st__law_is_shortest) := ⟨rfl, rfl, rfl, by decide +kernel, rfl, by decide +kernel, by decide +kernel⟩
noncomputable def b__law_is_shortest : Ga → Res (Ga × Fl) :=
 (sRet (sBin eqG (sPub (sLc (sItA rng1 (sCons (sPub (sUn lenG (sName 0))) sNil)) (gN 1) (sTst (callS m__law_shortens [none, none] (sCons (sName 0) (sCons (sName 1) sNil)))) (sName 1) [1])) (sPub (sLst sNil))))
noncomputable def m__law_is_shortest : Ga → Res (Ga × R) := defS 1 1 b__law_is_shortest
theorem has__law_is_shortest {P : Program} {w : World} {K : PySem.W.Frag} {mg : Str → Option Value} {base : Heap} {f : Addr} {fd : FuncData} (D : Def K mg "_law_is_shortest" st__law_is_shortest ["_law_word"] f fd) (H__law_shortens : Has P w K mg base "_law_shortens" 1 ["_law_word", "_law_at"] m__law_shortens) (z_len : mg "len" = none) (z_range : mg "range" = none) : Has P w K mg base "_law_is_shortest" 2 ["_law_word"] m__law_is_shortest :=
 has_of D sc__law_is_shortest fun cdv A outer s H E hr hq => by
  have hu := hr.units
  have hN := sc__law_is_shortest.nd
  exact (jss_one (js_ret (je_cmp (opd_eq hu) (JE.toD (je_lc rfl hN (ji_range1 rfl z_range (ja_cons (JE.toD (je_call1 cd_len rfl z_len rfl (JD.toB (jd_name 0 (pv 0) rfl)))) ja_nil)) (own := [(("_law_at" : Str), 1)]) (blkOk_by (by kernel_rfl)) (fun _ _ _ _ _ => (jgw_name (i := 1) (by decide) hN rfl (.inl rfl))) (fun _ _ _ _ _ => (jts_one (jt_val (je_callH (ks := [none, none]) H__law_shortens hr (by decide) hq rfl takes0 (jp_d (jd_name 0 (pv 0) rfl) (jp_d (jd_name 1 (pv 1) rfl) jp_nil)) (by decide) rfl)))) (fun _ _ _ _ _ => (jd_name 1 (pv 1) rfl)))) (JD.toB (JE.toD (je_lst ja_nil))) (nomark _))))
abbrev st_check_sizes : Stmt := topS 9
theorem sc_check_sizes : FnScope ["length", "most_length", "numbers", "most_numbers"] ["length", "most_length", "numbers", "most_numbers"] (defScope st_check_sizes) := ⟨rfl, rfl, rfl, by decide +kernel, rfl, by decide +kernel, by decide +kernel⟩
noncomputable def b_check_sizes : Ga → Res (Ga × Fl) :=
 (sSeq (sCond (sOr (sNot (sTst (callS m_is_integer [none] (sCons (sName 0) sNil)))) (sNot (sTst (sChain leG leG (sC (.int 0)) (sName 0) (sName 1)))))
 sNever
 sSkip)
 (sCond (sNot (sTst (callS m_are_numbers [none, none] (sCons (sName 2) (sCons (sName 3) sNil)))))
 sNever
 sSkip))
noncomputable def m_check_sizes : Ga → Res (Ga × R) := defS 4 0 b_check_sizes
theorem has_check_sizes {P : Program} {w : World} {K : PySem.W.Frag} {mg : Str → Option Value} {base : Heap} {f : Addr} {fd : FuncData} (D : Def K mg "check_sizes" st_check_sizes ["length", "most_length", "numbers", "most_numbers"] f fd) (H_is_integer : Has P w K mg base "is_integer" 1 ["value"] m_is_integer) (H_are_numbers : Has P w K mg base "are_numbers" 2 ["value", "most"] m_are_numbers) : Has P w K mg base "check_sizes" 3 ["length", "most_length", "numbers", "most_numbers"] m_check_sizes :=
 has_of D sc_check_sizes fun cdv A outer s H E hr hq => by
  have hu := hr.units
  have hN := sc_check_sizes.nd
  exact (jss_cons (js_if (JW.t (jw_or (jt_not (jt_val (je_callH (ks := [none]) H_is_integer hr (by decide) hq rfl (takes_of rfl rfl rfl rfl) (jp_d (jd_name 0 (pv 0) rfl) jp_nil) (by decide) rfl))) (jw_or1 (jt_not (jt_chain opd_le opd_le jd_int (jd_name 0 (pv 0) rfl) (JD.toB (jd_name 1 (pv 1) rfl)))))))
 (jss_one js_never)
 jss_nil)
 (jss_one (js_if (jt_not (jt_val (je_callH (ks := [none, none]) H_are_numbers hr (by decide) hq rfl (takes_of rfl rfl rfl rfl) (jp_d (jd_name 2 (pv 2) rfl) (jp_d (jd_name 3 (pv 3) rfl) jp_nil)) (by decide) rfl)))
 (jss_one js_never)
 jss_nil)))
abbrev st_count_effects : Stmt := topS 12
theorem sc_count_effects : FnScope ["length", "numbers", "kinds", "every", "found", "cuts", "kind", "smaller", "steps", "rest"] ["length", "numbers"] (defScope st_count_effects) := ⟨rfl, rfl, rfl, by decide +kernel, rfl, by decide +kernel, by decide +kernel⟩
noncomputable def b_count_effects : Ga → Res (Ga × Fl) :=
 (sSeq (sDrop (callS m_check_sizes [none, none, none, none] (sCons (sName 0) (sCons (sC (.int 60)) (sCons (sName 1) (sCons (sC (.int 20)) sNil))))))
 (sSeq (sSet 2 (sUn lenG (sName 1)))
 (sSeq (sSet 3 (callS m_stacks_by_size [none, none] (sCons (sName 0) (sCons (sName 2) sNil))))
 (sSeq (sSet 4 (sUn sumG (sName 3)))
 (sSeq (sSet 5 (callS m_cuts_by_length [none, none] (sCons (sName 0) (sCons (sName 2) sNil))))
 (sSeq (sFor (sItA rng1 (sCons (sName 2) sNil)) (gN 6)
 (sSeq (sSet 7 (callS m_stacks_by_size [none, none] (sCons (sName 0) (sCons (sName 6) sNil))))
 (sFor (sItA rng2 (sCons (sC (.int 2)) (sCons (sPub (sBin addG (sName 0) (sC (.int 1)))) sNil))) (gN 8)
 (sSeq (sSet 9 (sBin subG (sName 0) (sName 8)))
 (sAug (· + ·) 4 (sPub (sBin mulG (sPub (sBin ixG (sPub (sBin ixG (sName 5) (sName 8))) (sName 6))) (sPub (sBin addG (sPub (sBin ixG (sName 7) (sName 9))) (sPub (sUn sumG (sPub (sSl (sName 3) sNoO (sSomeO (sName 9)))))))))))))))
 (sRetN 4)))))))
noncomputable def m_count_effects : Ga → Res (Ga × R) := defS 2 8 b_count_effects
theorem has_count_effects {P : Program} {w : World} {K : PySem.W.Frag} {mg : Str → Option Value} {base : Heap} {f : Addr} {fd : FuncData} (D : Def K mg "count_effects" st_count_effects ["length", "numbers"] f fd) (H_check_sizes : Has P w K mg base "check_sizes" 3 ["length", "most_length", "numbers", "most_numbers"] m_check_sizes) (H_stacks_by_size : Has P w K mg base "stacks_by_size" 1 ["most", "kinds"] m_stacks_by_size) (H_cuts_by_length : Has P w K mg base "cuts_by_length" 1 ["most", "kinds"] m_cuts_by_length) (z_len : mg "len" = none) (z_range : mg "range" = none) (z_sum : mg "sum" = none) {t_MOST_LENGTH : Tok} (g_MOST_LENGTH : mg "MOST_LENGTH" = some (.int 60 t_MOST_LENGTH)) {t_MOST_NUMBERS : Tok} (g_MOST_NUMBERS : mg "MOST_NUMBERS" = some (.int 20 t_MOST_NUMBERS)) : Has P w K mg base "count_effects" 4 ["length", "numbers"] m_count_effects :=
 has_of D sc_count_effects fun cdv A outer s H E hr hq => by
  have hu := hr.units
  have hN := sc_count_effects.nd
  exact (jss_cons (js_expr (je_callH (ks := [none, none, none, none]) H_check_sizes hr (by decide) hq rfl (takes_of rfl rfl rfl rfl) (jp_d (jd_name 0 (pv 0) rfl) (jp_d (jd_gint rfl g_MOST_LENGTH) (jp_d (jd_name 1 (pv 1) rfl) (jp_d (jd_gint rfl g_MOST_NUMBERS) jp_nil)))) (by decide) rfl))
 (jss_cons (js_set (i := 2) hN rfl (.inl rfl) (je_call1 cd_len rfl z_len rfl (JD.toB (jd_name 1 (pv 1) rfl))))
 (jss_cons (js_set (i := 3) hN rfl (.inl rfl) (je_callH (ks := [none, none]) H_stacks_by_size hr (by decide) hq rfl (takes_of rfl rfl rfl rfl) (jp_d (jd_name 0 (pv 0) rfl) (jp_d (jd_name 2 (pv 2) rfl) jp_nil)) (by decide) rfl))
 (jss_cons (js_set (i := 4) hN rfl (.inl rfl) (je_call1 (cd_sum rfl) rfl z_sum rfl (JD.toB (jd_name 3 (pv 3) rfl))))
 (jss_cons (js_set (i := 5) hN rfl (.inl rfl) (je_callH (ks := [none, none]) H_cuts_by_length hr (by decide) hq rfl (takes_of rfl rfl rfl rfl) (jp_d (jd_name 0 (pv 0) rfl) (jp_d (jd_name 2 (pv 2) rfl) jp_nil)) (by decide) rfl))
 (jss_cons (js_for (passes_of rfl) rfl (ji_range1 rfl z_range (ja_cons (jd_name 2 (pv 2) rfl) ja_nil)) (jg_name (i := 6) hN rfl (.inl rfl))
 (jss_cons (js_set (i := 7) hN rfl (.inl rfl) (je_callH (ks := [none, none]) H_stacks_by_size hr (by decide) hq rfl (takes_of rfl rfl rfl rfl) (jp_d (jd_name 0 (pv 0) rfl) (jp_d (jd_name 6 (pv 6) rfl) jp_nil)) (by decide) rfl))
 (jss_one (js_for (passes_of rfl) rfl (ji_range2 rfl z_range (ja_cons jd_int (ja_cons (JE.toD (je_bin opd_add (jd_name 0 (pv 0) rfl) (JD.toB jd_int))) ja_nil))) (jg_name (i := 8) hN rfl (.inl rfl))
 (jss_cons (js_set (i := 9) hN rfl (.inl rfl) (je_bin opd_sub (jd_name 0 (pv 0) rfl) (JD.toB (jd_name 8 (pv 8) rfl))))
 (jss_one (js_aug (i := 4) ip_add hN rfl (.inl rfl) (JE.toD (je_bin opd_mul (JE.toD (je_ix (JE.toD (je_ix (jd_name 5 (pv 5) rfl) (jd_name 8 (pv 8) rfl))) (jd_name 6 (pv 6) rfl))) (JD.toB (JE.toD (je_bin opd_add (JE.toD (je_ix (jd_name 7 (pv 7) rfl) (jd_name 9 (pv 9) rfl))) (JD.toB (JE.toD (je_call1 (cd_sum rfl) rfl z_sum rfl (JD.toB (JE.toD (je_sl (jd_name 3 (pv 3) rfl) jo_none (jo_some (jd_name 9 (pv 9) rfl))))))))))))))))))))
 (jss_one (js_retName (i := 4) (pv 4)))))))))
abbrev st_law : Stmt := topS 20
theorem sc_law : FnScope ["_law_script", "_law_k", "_law_pool_here", "_law_numbers_here", "_law_long", "_law_due", "_law_word"] ["_law_script"] (defScope st_law) := ⟨rfl, rfl, rfl, by decide +kernel, rfl, by decide +kernel, by decide +kernel⟩
noncomputable def b_law : Ga → Res (Ga × Fl) :=
 (sSeq (sFor (sItA rng1 (sCons (sPub (sCallB max2G (sCons (sC (.int 1)) (sCons (sPub (sCallB min2G (sCons (sPub (sLenScr 0)) (sCons (sC (.int 4)) sNil)))) sNil)))) sNil)) (gN 1)
 (sSeq (sSet 2 (callS m__law_pool [some 0, none] (sRef 0 (sCons (sName 1) sNil))))
 (sSeq (sSet 3 (callS m__law_numbers [some 2, none] (sRef 2 (sCons (sPub (callS m__law_take [some 2, none] (sRef 2 (sCons (sC (.int 4)) sNil)))) sNil))))
 (sFor (sItA rng1 (sCons (sPub (sBin subG (sC (.int 6)) (sPub (sUn intG (sPub (sBin gtG (sPub (sUn lenG (sName 3))) (sC (.int 2)))))))) sNil)) (gN 4)
 (sSeq (sSet 5 (sUn lenG (sPub (sLc (sIt iterA (sPub (callS m__law_words [none, none] (sCons (sName 3) (sCons (sName 4) sNil))))) (gN 6) (sTst (callS m__law_is_shortest [none] (sCons (sName 6) sNil))) (sName 6) [6]))))
 (sCond (sTst (sBin neG (sPub (callS m_count_effects [none, none] (sCons (sName 4) (sCons (sPub (sUn tupleG (sName 3))) sNil)))) (sName 5)))
 (sRet (sDat (sC (.bool false))))
 sSkip))))))
 (sRet (sDat (sC (.bool true)))))
noncomputable def m_law : Ga → Res (Ga × R) := defS 1 6 b_law
theorem fd_law {P : Program} {w : World} {K : PySem.W.Frag} {mg : Str → Option Value} {base : Heap} {f : Addr} {fd : FuncData} (D : Def K mg "law" st_law ["_law_script"] f fd) (H__law_pool : Has P w K mg base "_law_pool" 1 ["_law_script", "_law_k"] m__law_pool) (H__law_numbers : Has P w K mg base "_law_numbers" 2 ["_law_pool_here", "_law_many"] m__law_numbers) (H__law_take : Has P w K mg base "_law_take" 1 ["_law_pool_here", "_law_sides"] m__law_take) (H__law_words : Has P w K mg base "_law_words" 1 ["_law_numbers_here", "_law_long"] m__law_words) (H__law_is_shortest : Has P w K mg base "_law_is_shortest" 2 ["_law_word"] m__law_is_shortest) (H_count_effects : Has P w K mg base "count_effects" 4 ["length", "numbers"] m_count_effects) (z_int : mg "int" = none) (z_len : mg "len" = none) (z_max : mg "max" = none) (z_min : mg "min" = none) (z_range : mg "range" = none) (z_tuple : mg "tuple" = none) : FD P w K mg base 5 f fd ["_law_script"] m_law :=
 fd_of D.fn sc_law fun cdv A outer s H E hr hq => by
  have hu := hr.units
  have hN := sc_law.nd
  exact (jss_cons (js_for (passes_of rfl) rfl (ji_range1 rfl z_range (ja_cons (JE.toD (je_callB (cd_max2 rfl) rfl z_max rfl (ja_cons jd_int (ja_cons (JE.toD (je_callB (cd_min2 rfl) rfl z_min rfl (ja_cons (JE.toD (je_lenScr (i := 0) rfl z_len rfl (pv 0))) (ja_cons jd_int ja_nil)))) ja_nil)))) ja_nil)) (jg_name (i := 1) hN rfl (.inl rfl))
 (jss_cons (js_set (i := 2) hN rfl (.inl rfl) (je_callH (ks := [some 0, none]) H__law_pool hr (by decide) hq rfl (takes_of rfl rfl rfl rfl) (jp_ref (pv 0) (jp_d (jd_name 1 (pv 1) rfl) jp_nil)) (by decide) rfl))
 (jss_cons (js_set (i := 3) hN rfl (.inl rfl) (je_callH (ks := [some 2, none]) H__law_numbers hr (by decide) hq rfl (takes_of rfl rfl rfl rfl) (jp_ref (pv 2) (jp_d (JE.toD (je_callH (ks := [some 2, none]) H__law_take hr (by decide) hq rfl (takes_of rfl rfl rfl rfl) (jp_ref (pv 2) (jp_d jd_int jp_nil)) (by decide) rfl)) jp_nil)) (by decide) rfl))
 (jss_one (js_for (passes_of rfl) rfl (ji_range1 rfl z_range (ja_cons (JE.toD (je_bin opd_sub jd_int (JD.toB (JE.toD (je_callT1 cd_int rfl z_int rfl (JD.toB (JE.toD (je_cmp opd_gt (JE.toD (je_call1 cd_len rfl z_len rfl (JD.toB (jd_name 3 (pv 3) rfl)))) (JD.toB jd_int) (nomark _))))))))) ja_nil)) (jg_name (i := 4) hN rfl (.inl rfl))
 (jss_cons (js_set (i := 5) hN rfl (.inl rfl) (je_call1 cd_len rfl z_len rfl (JD.toB (JE.toD (je_lc rfl hN (ji_any (JE.toD (je_callH (ks := [none, none]) H__law_words hr (by decide) hq rfl (takes_of rfl rfl rfl rfl) (jp_d (jd_name 3 (pv 3) rfl) (jp_d (jd_name 4 (pv 4) rfl) jp_nil)) (by decide) rfl))) (own := [(("_law_word" : Str), 6)]) (blkOk_by (by kernel_rfl)) (fun _ _ _ _ _ => (jgw_name (i := 6) (by decide) hN rfl (.inl rfl))) (fun _ _ _ _ _ => (jts_one (jt_val (je_callH (ks := [none]) H__law_is_shortest hr (by decide) hq rfl takes0 (jp_d (jd_name 6 (pv 6) rfl) jp_nil) (by decide) rfl)))) (fun _ _ _ _ _ => (jd_name 6 (pv 6) rfl)))))))
 (jss_one (js_if (jt_cmp (opd_ne hu) (JE.toD (je_callH (ks := [none, none]) H_count_effects hr (by decide) hq rfl (takes_of rfl rfl rfl rfl) (jp_d (jd_name 4 (pv 4) rfl) (jp_d (JE.toD (je_callT1 cd_tuple rfl z_tuple rfl (JD.toB (jd_name 3 (pv 3) rfl)))) jp_nil)) (by decide) rfl)) (JD.toB (jd_name 5 (pv 5) rfl)) (nomark _))
 (jss_one (js_ret (JD.toE jd_bl)))
 jss_nil))))))))
 (jss_one (js_ret (JD.toE jd_bl))))
theorem all_mk {w : World} {K : PySem.W.Frag} {h : Heap} {mg : Str → Option Value} {fa : Addr} (X : K.In h) (G : h.Ns mainGlobals mg) (hfa : mg "law" = some (.ref fa))
 {f_is_integer : Addr} {od_is_integer an_is_integer : Option Addr} {sl_is_integer : Array (Option Value)} {oc_is_integer kV_is_integer dc_is_integer pm_is_integer cd_is_integer ct_is_integer : Value} (a_is_integer : PySem.W.nsIn K mainGlobals "is_integer" = some (some (.ref f_is_integer))) (l_is_integer : K.lookup f_is_integer = some ⟨oc_is_integer, od_is_integer, .func (PySem.W.fnOf "is_integer" "is_integer" (defArgs st_is_integer) (defBody st_is_integer) (defScope st_is_integer) .none kV_is_integer dc_is_integer pm_is_integer an_is_integer cd_is_integer ct_is_integer), sl_is_integer⟩) (c_is_integer : PySem.W.codeIn K cd_is_integer "is_integer" = true) (k_is_integer : PySem.W.keepIn K (.ref f_is_integer) = true)
 {f_stacks_by_size : Addr} {od_stacks_by_size an_stacks_by_size : Option Addr} {sl_stacks_by_size : Array (Option Value)} {oc_stacks_by_size kV_stacks_by_size dc_stacks_by_size pm_stacks_by_size cd_stacks_by_size ct_stacks_by_size : Value} (a_stacks_by_size : PySem.W.nsIn K mainGlobals "stacks_by_size" = some (some (.ref f_stacks_by_size))) (l_stacks_by_size : K.lookup f_stacks_by_size = some ⟨oc_stacks_by_size, od_stacks_by_size, .func (PySem.W.fnOf "stacks_by_size" "stacks_by_size" (defArgs st_stacks_by_size) (defBody st_stacks_by_size) (defScope st_stacks_by_size) .none kV_stacks_by_size dc_stacks_by_size pm_stacks_by_size an_stacks_by_size cd_stacks_by_size ct_stacks_by_size), sl_stacks_by_size⟩) (c_stacks_by_size : PySem.W.codeIn K cd_stacks_by_size "stacks_by_size" = true) (k_stacks_by_size : PySem.W.keepIn K (.ref f_stacks_by_size) = true)
 {f_cuts_by_length : Addr} {od_cuts_by_length an_cuts_by_length : Option Addr} {sl_cuts_by_length : Array (Option Value)} {oc_cuts_by_length kV_cuts_by_length dc_cuts_by_length pm_cuts_by_length cd_cuts_by_length ct_cuts_by_length : Value} (a_cuts_by_length : PySem.W.nsIn K mainGlobals "cuts_by_length" = some (some (.ref f_cuts_by_length))) (l_cuts_by_length : K.lookup f_cuts_by_length = some ⟨oc_cuts_by_length, od_cuts_by_length, .func (PySem.W.fnOf "cuts_by_length" "cuts_by_length" (defArgs st_cuts_by_length) (defBody st_cuts_by_length) (defScope st_cuts_by_length) .none kV_cuts_by_length dc_cuts_by_length pm_cuts_by_length an_cuts_by_length cd_cuts_by_length ct_cuts_by_length), sl_cuts_by_length⟩) (c_cuts_by_length : PySem.W.codeIn K cd_cuts_by_length "cuts_by_length" = true) (k_cuts_by_length : PySem.W.keepIn K (.ref f_cuts_by_length) = true)
 {f__law_pool : Addr} {od__law_pool an__law_pool : Option Addr} {sl__law_pool : Array (Option Value)} {oc__law_pool kV__law_pool dc__law_pool pm__law_pool cd__law_pool ct__law_pool : Value} (a__law_pool : PySem.W.nsIn K mainGlobals "_law_pool" = some (some (.ref f__law_pool))) (l__law_pool : K.lookup f__law_pool = some ⟨oc__law_pool, od__law_pool, .func (PySem.W.fnOf "_law_pool" "_law_pool" (defArgs st__law_pool) (defBody st__law_pool) (defScope st__law_pool) .none kV__law_pool dc__law_pool pm__law_pool an__law_pool cd__law_pool ct__law_pool), sl__law_pool⟩) (c__law_pool : PySem.W.codeIn K cd__law_pool "_law_pool" = true) (k__law_pool : PySem.W.keepIn K (.ref f__law_pool) = true)
 {f__law_take : Addr} {od__law_take an__law_take : Option Addr} {sl__law_take : Array (Option Value)} {oc__law_take kV__law_take dc__law_take pm__law_take cd__law_take ct__law_take : Value} (a__law_take : PySem.W.nsIn K mainGlobals "_law_take" = some (some (.ref f__law_take))) (l__law_take : K.lookup f__law_take = some ⟨oc__law_take, od__law_take, .func (PySem.W.fnOf "_law_take" "_law_take" (defArgs st__law_take) (defBody st__law_take) (defScope st__law_take) .none kV__law_take dc__law_take pm__law_take an__law_take cd__law_take ct__law_take), sl__law_take⟩) (c__law_take : PySem.W.codeIn K cd__law_take "_law_take" = true) (k__law_take : PySem.W.keepIn K (.ref f__law_take) = true)
 {f__law_words : Addr} {od__law_words an__law_words : Option Addr} {sl__law_words : Array (Option Value)} {oc__law_words kV__law_words dc__law_words pm__law_words cd__law_words ct__law_words : Value} (a__law_words : PySem.W.nsIn K mainGlobals "_law_words" = some (some (.ref f__law_words))) (l__law_words : K.lookup f__law_words = some ⟨oc__law_words, od__law_words, .func (PySem.W.fnOf "_law_words" "_law_words" (defArgs st__law_words) (defBody st__law_words) (defScope st__law_words) .none kV__law_words dc__law_words pm__law_words an__law_words cd__law_words ct__law_words), sl__law_words⟩) (c__law_words : PySem.W.codeIn K cd__law_words "_law_words" = true) (k__law_words : PySem.W.keepIn K (.ref f__law_words) = true)
 {f__law_shortens : Addr} {od__law_shortens an__law_shortens : Option Addr} {sl__law_shortens : Array (Option Value)} {oc__law_shortens kV__law_shortens dc__law_shortens pm__law_shortens cd__law_shortens ct__law_shortens : Value} (a__law_shortens : PySem.W.nsIn K mainGlobals "_law_shortens" = some (some (.ref f__law_shortens))) (l__law_shortens : K.lookup f__law_shortens = some ⟨oc__law_shortens, od__law_shortens, .func (PySem.W.fnOf "_law_shortens" "_law_shortens" (defArgs st__law_shortens) (defBody st__law_shortens) (defScope st__law_shortens) .none kV__law_shortens dc__law_shortens pm__law_shortens an__law_shortens cd__law_shortens ct__law_shortens), sl__law_shortens⟩) (c__law_shortens : PySem.W.codeIn K cd__law_shortens "_law_shortens" = true) (k__law_shortens : PySem.W.keepIn K (.ref f__law_shortens) = true)
 {f_are_numbers : Addr} {od_are_numbers an_are_numbers : Option Addr} {sl_are_numbers : Array (Option Value)} {oc_are_numbers kV_are_numbers dc_are_numbers pm_are_numbers cd_are_numbers ct_are_numbers : Value} (a_are_numbers : PySem.W.nsIn K mainGlobals "are_numbers" = some (some (.ref f_are_numbers))) (l_are_numbers : K.lookup f_are_numbers = some ⟨oc_are_numbers, od_are_numbers, .func (PySem.W.fnOf "are_numbers" "are_numbers" (defArgs st_are_numbers) (defBody st_are_numbers) (defScope st_are_numbers) .none kV_are_numbers dc_are_numbers pm_are_numbers an_are_numbers cd_are_numbers ct_are_numbers), sl_are_numbers⟩) (c_are_numbers : PySem.W.codeIn K cd_are_numbers "are_numbers" = true) (k_are_numbers : PySem.W.keepIn K (.ref f_are_numbers) = true)
 {f__law_numbers : Addr} {od__law_numbers an__law_numbers : Option Addr} {sl__law_numbers : Array (Option Value)} {oc__law_numbers kV__law_numbers dc__law_numbers pm__law_numbers cd__law_numbers ct__law_numbers : Value} (a__law_numbers : PySem.W.nsIn K mainGlobals "_law_numbers" = some (some (.ref f__law_numbers))) (l__law_numbers : K.lookup f__law_numbers = some ⟨oc__law_numbers, od__law_numbers, .func (PySem.W.fnOf "_law_numbers" "_law_numbers" (defArgs st__law_numbers) (defBody st__law_numbers) (defScope st__law_numbers) .none kV__law_numbers dc__law_numbers pm__law_numbers an__law_numbers cd__law_numbers ct__law_numbers), sl__law_numbers⟩) (c__law_numbers : PySem.W.codeIn K cd__law_numbers "_law_numbers" = true) (k__law_numbers : PySem.W.keepIn K (.ref f__law_numbers) = true)
 {f__law_is_shortest : Addr} {od__law_is_shortest an__law_is_shortest : Option Addr} {sl__law_is_shortest : Array (Option Value)} {oc__law_is_shortest kV__law_is_shortest dc__law_is_shortest pm__law_is_shortest cd__law_is_shortest ct__law_is_shortest : Value} (a__law_is_shortest : PySem.W.nsIn K mainGlobals "_law_is_shortest" = some (some (.ref f__law_is_shortest))) (l__law_is_shortest : K.lookup f__law_is_shortest = some ⟨oc__law_is_shortest, od__law_is_shortest, .func (PySem.W.fnOf "_law_is_shortest" "_law_is_shortest" (defArgs st__law_is_shortest) (defBody st__law_is_shortest) (defScope st__law_is_shortest) .none kV__law_is_shortest dc__law_is_shortest pm__law_is_shortest an__law_is_shortest cd__law_is_shortest ct__law_is_shortest), sl__law_is_shortest⟩) (c__law_is_shortest : PySem.W.codeIn K cd__law_is_shortest "_law_is_shortest" = true) (k__law_is_shortest : PySem.W.keepIn K (.ref f__law_is_shortest) = true)
 {f_check_sizes : Addr} {od_check_sizes an_check_sizes : Option Addr} {sl_check_sizes : Array (Option Value)} {oc_check_sizes kV_check_sizes dc_check_sizes pm_check_sizes cd_check_sizes ct_check_sizes : Value} (a_check_sizes : PySem.W.nsIn K mainGlobals "check_sizes" = some (some (.ref f_check_sizes))) (l_check_sizes : K.lookup f_check_sizes = some ⟨oc_check_sizes, od_check_sizes, .func (PySem.W.fnOf "check_sizes" "check_sizes" (defArgs st_check_sizes) (defBody st_check_sizes) (defScope st_check_sizes) .none kV_check_sizes dc_check_sizes pm_check_sizes an_check_sizes cd_check_sizes ct_check_sizes), sl_check_sizes⟩) (c_check_sizes : PySem.W.codeIn K cd_check_sizes "check_sizes" = true) (k_check_sizes : PySem.W.keepIn K (.ref f_check_sizes) = true)
 {f_count_effects : Addr} {od_count_effects an_count_effects : Option Addr} {sl_count_effects : Array (Option Value)} {oc_count_effects kV_count_effects dc_count_effects pm_count_effects cd_count_effects ct_count_effects : Value} (a_count_effects : PySem.W.nsIn K mainGlobals "count_effects" = some (some (.ref f_count_effects))) (l_count_effects : K.lookup f_count_effects = some ⟨oc_count_effects, od_count_effects, .func (PySem.W.fnOf "count_effects" "count_effects" (defArgs st_count_effects) (defBody st_count_effects) (defScope st_count_effects) .none kV_count_effects dc_count_effects pm_count_effects an_count_effects cd_count_effects ct_count_effects), sl_count_effects⟩) (c_count_effects : PySem.W.codeIn K cd_count_effects "count_effects" = true) (k_count_effects : PySem.W.keepIn K (.ref f_count_effects) = true)
 {f_law : Addr} {od_law an_law : Option Addr} {sl_law : Array (Option Value)} {oc_law kV_law dc_law pm_law cd_law ct_law : Value} (a_law : PySem.W.nsIn K mainGlobals "law" = some (some (.ref f_law))) (l_law : K.lookup f_law = some ⟨oc_law, od_law, .func (PySem.W.fnOf "law" "law" (defArgs st_law) (defBody st_law) (defScope st_law) .none kV_law dc_law pm_law an_law cd_law ct_law), sl_law⟩) (c_law : PySem.W.codeIn K cd_law "law" = true) (k_law : PySem.W.keepIn K (.ref f_law) = true)
 (z_abs : PySem.W.nsIn K mainGlobals "abs" = some none)
 (z_all : PySem.W.nsIn K mainGlobals "all" = some none)
 (z_bool : PySem.W.nsIn K mainGlobals "bool" = some none)
 (z_int : PySem.W.nsIn K mainGlobals "int" = some none)
 (z_isinstance : PySem.W.nsIn K mainGlobals "isinstance" = some none)
 (z_len : PySem.W.nsIn K mainGlobals "len" = some none)
 (z_max : PySem.W.nsIn K mainGlobals "max" = some none)
 (z_min : PySem.W.nsIn K mainGlobals "min" = some none)
 (z_range : PySem.W.nsIn K mainGlobals "range" = some none)
 (z_sum : PySem.W.nsIn K mainGlobals "sum" = some none)
 (z_tuple : PySem.W.nsIn K mainGlobals "tuple" = some none)
 (z_zip : PySem.W.nsIn K mainGlobals "zip" = some none)
 {t_MOST_LENGTH : Tok} (g_MOST_LENGTH : PySem.W.nsIn K mainGlobals "MOST_LENGTH" = some (some (.int 60 t_MOST_LENGTH)))
 {t_MOST_NUMBERS : Tok} (g_MOST_NUMBERS : PySem.W.nsIn K mainGlobals "MOST_NUMBERS" = some (some (.int 20 t_MOST_NUMBERS))) :
 ∃ fd : FuncData, (∀ (s : Shared) (v : Value), BindsTo s fd ⟨[v], []⟩ [("_law_script", v)]) ∧ ∀ base : Heap, K.In base → base.Ns mainGlobals mg → FD PySem.Challenge.rw_skylineeffect_k40_count_effects.prog w K mg base 5 fa fd ["_law_script"] m_law := by
  have e := hfa.symm.trans (PySem.W.mg_of X G a_law)
  cases e
  refine ⟨PySem.W.fnOf "law" "law" (defArgs st_law) (defBody st_law) (defScope st_law) .none kV_law dc_law pm_law an_law cd_law ct_law, fun s v => .of_eq rfl, fun base _ _ => ?_⟩
  have z_abs := PySem.W.mg_none_of X G z_abs
  have z_all := PySem.W.mg_none_of X G z_all
  have z_bool := PySem.W.mg_none_of X G z_bool
  have z_int := PySem.W.mg_none_of X G z_int
  have z_isinstance := PySem.W.mg_none_of X G z_isinstance
  have z_len := PySem.W.mg_none_of X G z_len
  have z_max := PySem.W.mg_none_of X G z_max
  have z_min := PySem.W.mg_none_of X G z_min
  have z_range := PySem.W.mg_none_of X G z_range
  have z_sum := PySem.W.mg_none_of X G z_sum
  have z_tuple := PySem.W.mg_none_of X G z_tuple
  have z_zip := PySem.W.mg_none_of X G z_zip
  have g_MOST_LENGTH := PySem.W.mg_of X G g_MOST_LENGTH
  have g_MOST_NUMBERS := PySem.W.mg_of X G g_MOST_NUMBERS
  have F_is_integer := fun_mk (st := st_is_integer) l_is_integer c_is_integer k_is_integer
  have D_is_integer : Def K mg "is_integer" st_is_integer ["value"] _ _ := ⟨F_is_integer, PySem.W.mg_of X G a_is_integer, F_is_integer.binds (ps := ["value"]) fun _ _ _ _ _ _ us hl => match us, hl with | [_], _ => rfl⟩
  have H_is_integer := has_is_integer (P := PySem.Challenge.rw_skylineeffect_k40_count_effects.prog) (w := w) (base := base) D_is_integer z_bool z_int z_isinstance
  have F_stacks_by_size := fun_mk (st := st_stacks_by_size) l_stacks_by_size c_stacks_by_size k_stacks_by_size
  have D_stacks_by_size : Def K mg "stacks_by_size" st_stacks_by_size ["most", "kinds"] _ _ := ⟨F_stacks_by_size, PySem.W.mg_of X G a_stacks_by_size, F_stacks_by_size.binds (ps := ["most", "kinds"]) fun _ _ _ _ _ _ us hl => match us, hl with | [_, _], _ => rfl⟩
  have H_stacks_by_size := has_stacks_by_size (P := PySem.Challenge.rw_skylineeffect_k40_count_effects.prog) (w := w) (base := base) D_stacks_by_size z_range
  have F_cuts_by_length := fun_mk (st := st_cuts_by_length) l_cuts_by_length c_cuts_by_length k_cuts_by_length
  have D_cuts_by_length : Def K mg "cuts_by_length" st_cuts_by_length ["most", "kinds"] _ _ := ⟨F_cuts_by_length, PySem.W.mg_of X G a_cuts_by_length, F_cuts_by_length.binds (ps := ["most", "kinds"]) fun _ _ _ _ _ _ us hl => match us, hl with | [_, _], _ => rfl⟩
  have H_cuts_by_length := has_cuts_by_length (P := PySem.Challenge.rw_skylineeffect_k40_count_effects.prog) (w := w) (base := base) D_cuts_by_length z_range z_sum z_zip
  have F__law_pool := fun_mk (st := st__law_pool) l__law_pool c__law_pool k__law_pool
  have D__law_pool : Def K mg "_law_pool" st__law_pool ["_law_script", "_law_k"] _ _ := ⟨F__law_pool, PySem.W.mg_of X G a__law_pool, F__law_pool.binds (ps := ["_law_script", "_law_k"]) fun _ _ _ _ _ _ us hl => match us, hl with | [_, _], _ => rfl⟩
  have H__law_pool := has__law_pool (P := PySem.Challenge.rw_skylineeffect_k40_count_effects.prog) (w := w) (base := base) D__law_pool z_abs z_int z_len
  have F__law_take := fun_mk (st := st__law_take) l__law_take c__law_take k__law_take
  have D__law_take : Def K mg "_law_take" st__law_take ["_law_pool_here", "_law_sides"] _ _ := ⟨F__law_take, PySem.W.mg_of X G a__law_take, F__law_take.binds (ps := ["_law_pool_here", "_law_sides"]) fun _ _ _ _ _ _ us hl => match us, hl with | [_, _], _ => rfl⟩
  have H__law_take := has__law_take (P := PySem.Challenge.rw_skylineeffect_k40_count_effects.prog) (w := w) (base := base) D__law_take 
  have F__law_words := fun_mk (st := st__law_words) l__law_words c__law_words k__law_words
  have D__law_words : Def K mg "_law_words" st__law_words ["_law_numbers_here", "_law_long"] _ _ := ⟨F__law_words, PySem.W.mg_of X G a__law_words, F__law_words.binds (ps := ["_law_numbers_here", "_law_long"]) fun _ _ _ _ _ _ us hl => match us, hl with | [_, _], _ => rfl⟩
  have H__law_words := has__law_words (P := PySem.Challenge.rw_skylineeffect_k40_count_effects.prog) (w := w) (base := base) D__law_words z_range
  have F__law_shortens := fun_mk (st := st__law_shortens) l__law_shortens c__law_shortens k__law_shortens
  have D__law_shortens : Def K mg "_law_shortens" st__law_shortens ["_law_word", "_law_at"] _ _ := ⟨F__law_shortens, PySem.W.mg_of X G a__law_shortens, F__law_shortens.binds (ps := ["_law_word", "_law_at"]) fun _ _ _ _ _ _ us hl => match us, hl with | [_, _], _ => rfl⟩
  have H__law_shortens := has__law_shortens (P := PySem.Challenge.rw_skylineeffect_k40_count_effects.prog) (w := w) (base := base) D__law_shortens z_len
  have F_are_numbers := fun_mk (st := st_are_numbers) l_are_numbers c_are_numbers k_are_numbers
  have D_are_numbers : Def K mg "are_numbers" st_are_numbers ["value", "most"] _ _ := ⟨F_are_numbers, PySem.W.mg_of X G a_are_numbers, F_are_numbers.binds (ps := ["value", "most"]) fun _ _ _ _ _ _ us hl => match us, hl with | [_, _], _ => rfl⟩
  have H_are_numbers := has_are_numbers (P := PySem.Challenge.rw_skylineeffect_k40_count_effects.prog) (w := w) (base := base) D_are_numbers H_is_integer z_all z_isinstance z_len z_tuple z_zip
  have F__law_numbers := fun_mk (st := st__law_numbers) l__law_numbers c__law_numbers k__law_numbers
  have D__law_numbers : Def K mg "_law_numbers" st__law_numbers ["_law_pool_here", "_law_many"] _ _ := ⟨F__law_numbers, PySem.W.mg_of X G a__law_numbers, F__law_numbers.binds (ps := ["_law_pool_here", "_law_many"]) fun _ _ _ _ _ _ us hl => match us, hl with | [_, _], _ => rfl⟩
  have H__law_numbers := has__law_numbers (P := PySem.Challenge.rw_skylineeffect_k40_count_effects.prog) (w := w) (base := base) D__law_numbers H__law_take z_range
  have F__law_is_shortest := fun_mk (st := st__law_is_shortest) l__law_is_shortest c__law_is_shortest k__law_is_shortest
  have D__law_is_shortest : Def K mg "_law_is_shortest" st__law_is_shortest ["_law_word"] _ _ := ⟨F__law_is_shortest, PySem.W.mg_of X G a__law_is_shortest, F__law_is_shortest.binds (ps := ["_law_word"]) fun _ _ _ _ _ _ us hl => match us, hl with | [_], _ => rfl⟩
  have H__law_is_shortest := has__law_is_shortest (P := PySem.Challenge.rw_skylineeffect_k40_count_effects.prog) (w := w) (base := base) D__law_is_shortest H__law_shortens z_len z_range
  have F_check_sizes := fun_mk (st := st_check_sizes) l_check_sizes c_check_sizes k_check_sizes
  have D_check_sizes : Def K mg "check_sizes" st_check_sizes ["length", "most_length", "numbers", "most_numbers"] _ _ := ⟨F_check_sizes, PySem.W.mg_of X G a_check_sizes, F_check_sizes.binds (ps := ["length", "most_length", "numbers", "most_numbers"]) fun _ _ _ _ _ _ us hl => match us, hl with | [_, _, _, _], _ => rfl⟩
  have H_check_sizes := has_check_sizes (P := PySem.Challenge.rw_skylineeffect_k40_count_effects.prog) (w := w) (base := base) D_check_sizes H_is_integer H_are_numbers
  have F_count_effects := fun_mk (st := st_count_effects) l_count_effects c_count_effects k_count_effects
  have D_count_effects : Def K mg "count_effects" st_count_effects ["length", "numbers"] _ _ := ⟨F_count_effects, PySem.W.mg_of X G a_count_effects, F_count_effects.binds (ps := ["length", "numbers"]) fun _ _ _ _ _ _ us hl => match us, hl with | [_, _], _ => rfl⟩
  have H_count_effects := has_count_effects (P := PySem.Challenge.rw_skylineeffect_k40_count_effects.prog) (w := w) (base := base) D_count_effects H_check_sizes H_stacks_by_size H_cuts_by_length z_len z_range z_sum g_MOST_LENGTH g_MOST_NUMBERS
  have F_law := fun_mk (st := st_law) l_law c_law k_law
  have D_law : Def K mg "law" st_law ["_law_script"] _ _ := ⟨F_law, PySem.W.mg_of X G a_law, F_law.binds (ps := ["_law_script"]) fun _ _ _ _ _ _ us hl => match us, hl with | [_], _ => rfl⟩
  exact fd_law (P := PySem.Challenge.rw_skylineeffect_k40_count_effects.prog) (w := w) (base := base) D_law H__law_pool H__law_numbers H__law_take H__law_words H__law_is_shortest H_count_effects z_int z_len z_max z_min z_range z_tuple
end Lk40
namespace Lk40
open PySem PySem.Spec PyProof.Rows L2 Evl Mi
theorem mul_small {i j : Int} (h1 : -(2 ^ 64) < j) (h2 : j < 2 ^ 64) : mulOk i j = true := by
  unfold mulOk
  exact okB_of (.inr (.inl ⟨h1, h2⟩))
theorem atI0 {α : Type} {x : α} {xs : List α} : atI (x :: xs) 0 = some x := atI_nat (j := 0) rfl
theorem atI1 {α : Type} {x y : α} {xs : List α} : atI (x :: y :: xs) 1 = some y := atI_nat (j := 1) rfl
theorem ixN0 {n : Nat} : ixN (n + 1) 0 = some 0 := by unfold ixN; simp
theorem ixN1 {n : Nat} : ixN (n + 2) 1 = some 1 := by unfold ixN; simp; omega
theorem log2_small {n : Int} (h0 : 0 < n) (h : n < 2 ^ 64) : n.natAbs.log2 < 9000 := by
  have h1 : n.natAbs < 2 ^ 64 := by omega
  have h2 : n.natAbs ≠ 0 := by omega
  have := (Nat.log2_lt h2).mpr h1
  omega
theorem forL_nx {g : D → Ga → Option Ga} {b : Ga → Res (Ga × Fl)} {x : D} {xs : List D} {Γ Γ1 Γ2 : Ga} (h1 : g x Γ = some Γ1) (h2 : b Γ1 = .ok (Γ2, .nx)) : forL g b (x :: xs) Γ = forL g b xs Γ2 := by
  rw [forL]
  simp only [h1, h2, bind_ok]
theorem sIt_of {f : D → Res (List D)} {s : Ga → Res (Ga × D)} {Γ Γ' : Ga} {x : D} {ys : List D} (h1 : s Γ = .ok (Γ', x)) (h2 : f x = .ok ys) : sIt f s Γ = .ok (Γ', ys) := by
  unfold sIt
  rw [h1]
  simp only [bind_ok, h2]
theorem sLn {n : Nat} (h : n ≤ 100000) : n ≤ sizeLine := by unfold sizeLine; omega

/-! ### the drawing of numbers -/
def nextS (s : Int) : Int := (s * 48271 + 12345) % 2147483647
def takeV (h s n : Int) : Int := if 0 < h then h % n else nextS s * nextS s % 2147483629 / 64 % n
def takeH (h n : Int) : Int := if 0 < h then h / n else h
def takeS (h s : Int) : Int := if 0 < h then s else nextS s
theorem nextS_lt (s : Int) : 0 ≤ nextS s ∧ nextS s < 2147483647 := ⟨Int.emod_nonneg _ (by decide), Int.emod_lt_of_pos _ (by decide)⟩
theorem takeV_lt {h s n : Int} (hn : 0 < n) : 0 ≤ takeV h s n ∧ takeV h s n < n := by
  unfold takeV
  split
  · exact ⟨Int.emod_nonneg _ (by omega), Int.emod_lt_of_pos _ hn⟩
  · exact ⟨Int.emod_nonneg _ (by omega), Int.emod_lt_of_pos _ hn⟩
theorem take_ok {h s n : Int} (hn : 0 < n) (hn2 : n < 2 ^ 64) : m__law_take [.own true [.int h, .int s], .d (.int n)] = .ok ([.own true [.int (takeH h n), .int (takeS h s)], .d (.int n)], .d (.int (takeV h s n))) := by
  have hl : n.natAbs.log2 < 9000 := log2_small hn hn2
  have l64 : Nat.log2 64 < 9000 := by decide +kernel
  unfold m__law_take b__law_take
  by_cases hh : 0 < h
  · simp [Res.bind, sPub, sDat, pubR, sName, slD, sBor, sC, sBin, sBinN, sTst, asB, sAnd, sOr, sNot, sVal, sIf, sUn, sNil, sCons, starD, sStar, sTup, sLst, sNoO, sSomeO, sSl, sSlN, slG, sRev, sCallB, sLenScr, sIxScr, sChain, sSkip, sSeq, sCond, sSet, slotOf, sRet, sRetN, sDrop, gN, gNil', gCons', gTup', sAsg, sBrk, sCnt, sNever, ownAt, sAppend, sPop, sPopAt, sPut, sAug, sAugAt, sExt, sRNil, sRCons, sPar2, sPar3, callS, sRef, refSl, argSl, putBack, putB, refAt, outs, endF, defS, addG, subG, mulG, modG, fdivG, powG, ltG, leG, gtG, geG, isG, isnotG, okB_iff, negG, ixG, lenG, listG, tupleG, intG, absG, isNonD, atI0, atI1, hh, hn, hl, ixN0, ixN1, takeV, takeH, takeS]
  · have m1 := fun i => mul_small (i := i) (j := 48271) (by decide) (by decide)
    have m2 : mulOk (nextS s) (nextS s) = true := by
      obtain ⟨a, b⟩ := nextS_lt s
      exact mul_small (by omega) (by omega)
    have e : (s * 48271 + 12345) % 2147483647 = nextS s := rfl
    simp [Res.bind, sPub, sDat, pubR, sName, slD, sBor, sC, sBin, sBinN, sTst, asB, sAnd, sOr, sNot, sVal, sIf, sUn, sNil, sCons, starD, sStar, sTup, sLst, sNoO, sSomeO, sSl, sSlN, slG, sRev, sCallB, sLenScr, sIxScr, sChain, sSkip, sSeq, sCond, sSet, slotOf, sRet, sRetN, sDrop, gN, gNil', gCons', gTup', sAsg, sBrk, sCnt, sNever, ownAt, sAppend, sPop, sPopAt, sPut, sAug, sAugAt, sExt, sRNil, sRCons, sPar2, sPar3, callS, sRef, refSl, argSl, putBack, putB, refAt, outs, endF, defS, addG, subG, mulG, modG, fdivG, powG, ltG, leG, gtG, geG, isG, isnotG, okB_iff, negG, ixG, lenG, listG, tupleG, intG, absG, isNonD, atI0, atI1, hh, hn, l64, ixN0, ixN1, takeV, takeH, takeS, m1, e, m2]
theorem p18 : powG (.int 10) (.int 18) = .ok (.d (.int 1000000000000000000)) := by
  have h := okB_of (p := 0 ≤ (18 : Int) ∧ (18 : Int) ≤ 1000000 ∧ (10 : Int).natAbs < 2 ^ 64) (by decide)
  unfold powG
  simp only [h, if_true]
  rfl
theorem p30 : powG (.int 10) (.int 30) = .ok (.d (.int 1000000000000000000000000000000)) := by
  have h := okB_of (p := 0 ≤ (30 : Int) ∧ (30 : Int) ≤ 1000000 ∧ (10 : Int).natAbs < 2 ^ 64) (by decide)
  unfold powG
  simp only [h, if_true]
  rfl
/-- a pool stands: whatever numbers it holds -/
theorem pool_blend (ns : List Int) (k : Nat) (hk : k < 64) (c : Int) : ∃ b : Int, sSet 3 (sBin modG (sPub (sBin mulG (sPub (sBin addG (sPub (sBin addG (sPub (sBin addG (sPub (sBin modG (sName 2) (sC (.int 2147483629)))) (sPub (sBin mulG (sPub (sBin mulG (sC (.int 7919)) (sName 1))) (sName 1))))) (sPub (sBin mulG (sC (.int 31)) (sName 1))))) (sC (.int 17)))) (sC (.int 48271)))) (sC (.int 2147483647)))
    [.scr ns, .d (.int k), .d (.int c), .un] = .ok ([.scr ns, .d (.int k), .d (.int c), .d (.int b)], .nx) ∧ 0 ≤ b ∧ b < 2147483647 := by
  have m1 := fun i => mul_small (i := i) (j := 48271) (by decide) (by decide)
  have mk := fun i => mul_small (i := i) (j := (k : Int)) (by omega) (by omega)
  refine ⟨(c % 2147483629 + 7919 * k * k + 31 * k + 17) * 48271 % 2147483647, ?_, Int.emod_nonneg _ (by decide), Int.emod_lt_of_pos _ (by decide)⟩
  simp [Res.bind, sPub, sDat, pubR, sName, slD, sBor, sC, sBin, sBinN, sTst, asB, sAnd, sOr, sNot, sVal, sIf, sUn, sNil, sCons, starD, sStar, sTup, sLst, sNoO, sSomeO, sSl, sSlN, slG, sRev, sCallB, sLenScr, sIxScr, sChain, sSkip, sSeq, sCond, sSet, slotOf, sRet, sRetN, sDrop, gN, gNil', gCons', gTup', sAsg, sBrk, sCnt, sNever, ownAt, sAppend, sPop, sPopAt, sPut, sAug, sAugAt, sExt, sRNil, sRCons, sPar2, sPar3, callS, sRef, refSl, argSl, putBack, putB, refAt, outs, endF, defS, addG, subG, mulG, modG, fdivG, powG, ltG, leG, gtG, geG, isG, isnotG, okB_iff, negG, ixG, lenG, listG, tupleG, intG, absG, isNonD, m1, mk]
theorem pool_end (ns : List Int) (k : Nat) (c b : Int) (b0 : 0 ≤ b) (b1 : b < 2147483647) : ∃ h s : Int, sRet (sLst (sCons (sPub (sBin mulG (sName 2) (sPub (sUn intG (sPub (sBin geG (sName 2) (sPub (sBin powG (sC (.int 10)) (sC (.int 18)))))))))) (sCons (sPub (sBin modG (sPub (sBin mulG (sName 3) (sName 3))) (sC (.int 2147483629)))) sNil)))
    [.scr ns, .d (.int k), .d (.int c), .d (.int b)] = .ok ([.scr ns, .d (.int k), .d (.int c), .d (.int b)], .rt (.f [.int h, .int s])) := by
  have l2 : (2 : Nat) ≤ sizeLine := sLn (by decide)
  have m01 : ∀ (i : Int) (p : Bool), mulG (.int i) (.int (if p = true then 1 else 0)) = .ok (.d (.int (i * (if p = true then 1 else 0)))) := fun i p => by
    have : mulOk i (if p = true then 1 else 0) = true := by split <;> exact mul_small (by decide) (by decide)
    unfold mulG
    simp only [this, if_true]
  have mm : mulOk b b = true := mul_small (by omega) (by omega)
  have e2 : mulG (.int b) (.int b) = .ok (.d (.int (b * b))) := by
    unfold mulG
    simp only [mm, if_true]
  generalize hq : decide ((1000000000000000000 : Int) ≤ c) = q
  have e1 : geG (.int c) (.int 1000000000000000000) = .ok (.d (.bool q)) := by rw [← hq]; rfl
  have e3 : intG (.bool q) = .ok (.d (.int (if q = true then 1 else 0))) := rfl
  refine ⟨c * (if q = true then 1 else 0), b * b % 2147483629, ?_⟩
  simp [sRet, sLst, sCons, sPub, sBin, sName, sUn, sC, sNil, Res.bind, pubR, p18, e1, e2, e3, m01, modG, l2, okB_iff]
theorem pool_ok (ns : List Int) (k : Nat) (hk : k < 64) : ∃ h s : Int, m__law_pool [.scr ns, .d (.int k)] = .ok ([.scr ns, .d (.int k)], .f [.int h, .int s]) := by
  unfold m__law_pool b__law_pool
  by_cases hl : k < ns.length
  · have hl' : (k : Int) < (ns.length : Int) := by omega
    have e : atI ns (k : Int) = some ns[k] := atI_nat (List.getElem?_eq_getElem hl)
    obtain ⟨b, e1, b0, b1⟩ := pool_blend ns k hk (if ns[k] < 0 then -ns[k] else ns[k])
    obtain ⟨h, s, e2⟩ := pool_end ns k (if ns[k] < 0 then -ns[k] else ns[k]) b b0 b1
    refine ⟨h, s, ?_⟩
    generalize sSet 3 (sBin modG _ _) = S3 at e1 ⊢
    generalize sRet _ = S4 at e2 ⊢
    simp [Res.bind, sPub, sDat, pubR, sName, slD, sBor, sC, sBin, sBinN, sTst, asB, sAnd, sOr, sNot, sVal, sIf, sUn, sNil, sCons, starD, sStar, sTup, sLst, sNoO, sSomeO, sSl, sSlN, slG, sRev, sCallB, sLenScr, sIxScr, sChain, sSkip, sSeq, sCond, sSet, slotOf, sRet, sRetN, sDrop, gN, gNil', gCons', gTup', sAsg, sBrk, sCnt, sNever, ownAt, sAppend, sPop, sPopAt, sPut, sAug, sAugAt, sExt, sRNil, sRCons, sPar2, sPar3, callS, sRef, refSl, argSl, putBack, putB, refAt, outs, endF, defS, addG, subG, mulG, modG, fdivG, powG, ltG, leG, gtG, geG, isG, isnotG, okB_iff, negG, ixG, lenG, listG, tupleG, intG, absG, isNonD, hl', e, e1, e2]
  · have hl' : ¬ (k : Int) < (ns.length : Int) := by omega
    obtain ⟨b, e1, b0, b1⟩ := pool_blend ns k hk 0
    obtain ⟨h, s, e2⟩ := pool_end ns k 0 b b0 b1
    refine ⟨h, s, ?_⟩
    generalize sSet 3 (sBin modG _ _) = S3 at e1 ⊢
    generalize sRet _ = S4 at e2 ⊢
    simp [Res.bind, sPub, sDat, pubR, sName, slD, sBor, sC, sBin, sBinN, sTst, asB, sAnd, sOr, sNot, sVal, sIf, sUn, sNil, sCons, starD, sStar, sTup, sLst, sNoO, sSomeO, sSl, sSlN, slG, sRev, sCallB, sLenScr, sIxScr, sChain, sSkip, sSeq, sCond, sSet, slotOf, sRet, sRetN, sDrop, gN, gNil', gCons', gTup', sAsg, sBrk, sCnt, sNever, ownAt, sAppend, sPop, sPopAt, sPut, sAug, sAugAt, sExt, sRNil, sRCons, sPar2, sPar3, callS, sRef, refSl, argSl, putBack, putB, refAt, outs, endF, defS, addG, subG, mulG, modG, fdivG, powG, ltG, leG, gtG, geG, isG, isnotG, okB_iff, negG, ixG, lenG, listG, tupleG, intG, absG, isNonD, hl', e1, e2]
/-! ### numbers that rise -/
theorem nine (v : Int) (h0 : 0 ≤ v) (h3 : v < 3) : ∃ n : Int, atI [PyData.int 1, .int 2, .int 9] v = some (.int n) ∧ 0 < n ∧ n < 2 ^ 64 := by
  obtain ⟨k, rfl⟩ := Int.eq_ofNat_of_zero_le h0
  match k, h3 with
  | 0, _ => exact ⟨1, rfl, by decide, by decide⟩
  | 1, _ => exact ⟨2, rfl, by decide, by decide⟩
  | 2, _ => exact ⟨9, rfl, by decide, by decide⟩
  | k + 3, h => omega
theorem six (v : Int) (h0 : 0 ≤ v) (h3 : v < 6) : ∃ n : Int, atI [PyData.int (-1000000000000000000000000000000), .int (-50), .int (-3), .int 0, .int 7, .int 1000000000000000000] v = some (.int n) := by
  obtain ⟨k, rfl⟩ := Int.eq_ofNat_of_zero_le h0
  match k, h3 with
  | 0, _ => exact ⟨_, rfl⟩
  | 1, _ => exact ⟨_, rfl⟩
  | 2, _ => exact ⟨_, rfl⟩
  | 3, _ => exact ⟨_, rfl⟩
  | 4, _ => exact ⟨_, rfl⟩
  | 5, _ => exact ⟨_, rfl⟩
  | k + 6, h => omega
noncomputable abbrev nB : Ga → Res (Ga × Fl) := (sSeq (sSet 2 (sBin addG (sPub (sBin addG (sName 2) (sC (.int 1)))) (sPub (callS m__law_take [some 0, none] (sRef 0 (sCons (sPub (sBin ixG (sPub (sLst (sCons (sC (.int 1)) (sCons (sC (.int 2)) (sCons (sC (.int 9)) sNil))))) (sPub (callS m__law_take [some 0, none] (sRef 0 (sCons (sC (.int 3)) sNil)))))) sNil))))))
 (sDrop (sAppend 3 (sName 2))))
theorem nB_ok (h s many x : Int) (l : List Int) (y : D) (hl : l.length < 100) : ∃ h' s' d, 0 ≤ d ∧ nB [.own true [.int h, .int s], .d (.int many), .d (.int x), .own false (l.map .int), .d y] =
    .ok ([.own true [.int h', .int s'], .d (.int many), .d (.int (x + 1 + d)), .own false ((l ++ [x + 1 + d]).map .int), .d y], .nx) := by
  obtain ⟨a0, a1⟩ := takeV_lt (h := h) (s := s) (n := 3) (by decide)
  obtain ⟨n, e9, n0, n1⟩ := nine _ a0 a1
  obtain ⟨b0, b1⟩ := takeV_lt (h := takeH h 3) (s := takeS h s) (n := n) n0
  have t1 := take_ok (h := h) (s := s) (n := 3) (by decide) (by decide)
  have t2 := take_ok (h := takeH h 3) (s := takeS h s) (n := n) n0 n1
  have l3 : (3 : Nat) ≤ sizeLine := sLn (by decide)
  have ll : l.length < sizeLine := by unfold sizeLine; omega
  refine ⟨takeH (takeH h 3) n, takeS (takeH h 3) (takeS h s), takeV (takeH h 3) (takeS h s) n, b0, ?_⟩
  simp [nB, Res.bind, sPub, sDat, pubR, sName, slD, sBor, sC, sBin, sBinN, sTst, asB, sAnd, sOr, sNot, sVal, sIf, sUn, sNil, sCons, starD, sStar, sTup, sLst, sNoO, sSomeO, sSl, sSlN, slG, sRev, sCallB, sLenScr, sIxScr, sChain, sSkip, sSeq, sCond, sSet, slotOf, sRet, sRetN, sDrop, gN, gNil', gCons', gTup', sAsg, sBrk, sCnt, sNever, ownAt, sAppend, sPop, sPopAt, sPut, sAug, sAugAt, sExt, sRNil, sRCons, sPar2, sPar3, callS, sRef, refSl, argSl, putBack, putB, refAt, outs, endF, defS, addG, subG, mulG, modG, fdivG, powG, ltG, leG, gtG, geG, isG, isnotG, okB_iff, negG, ixG, lenG, listG, tupleG, intG, absG, isNonD, t1, t2, e9, l3, ll]
theorem nums_loop : ∀ (k : Nat) (xs : List D), xs.length = k → ∀ (h s many x : Int) (l : List Int) (s4 : Sl), l.length + k < 100 → (∀ y ∈ l, y ≤ x) → l.Pairwise (· < ·) →
    ∃ (h' s' x' : Int) (l' : List Int) (s4' : Sl), forL (gN 4) nB xs [.own true [.int h, .int s], .d (.int many), .d (.int x), .own false (l.map .int), s4] = .ok ([.own true [.int h', .int s'], .d (.int many), .d (.int x'), .own false (l'.map .int), s4'], .nx) ∧ l'.length = l.length + k ∧ l'.Pairwise (· < ·)
  | 0, [], _, h, s, many, x, l, s4, _, _, p => ⟨h, s, x, l, s4, rfl, rfl, p⟩
  | k + 1, y :: ys, e, h, s, many, x, l, s4, hl, le, p => by
    obtain ⟨h1, s1, d, d0, e1⟩ := nB_ok h s many x l y (by omega)
    obtain ⟨h2, s2, x2, l2, t4, e2, e3, p2⟩ := nums_loop k ys (by simpa using e) h1 s1 many (x + 1 + d) (l ++ [x + 1 + d]) (.d y) (by simp; omega) (fun z hz => by
      rcases List.mem_append.mp hz with q | q
      · have := le z q; omega
      · simp at q; omega) (List.pairwise_append.mpr ⟨p, by simp, fun a ha b hb => by
        simp at hb
        have := le a ha
        omega⟩)
    refine ⟨h2, s2, x2, l2, t4, ?_, by rw [e3]; simp; omega, p2⟩
    rw [forL_nx (g := gN 4) (Γ1 := [.own true [.int h, .int s], .d (.int many), .d (.int x), .own false (l.map .int), .d y]) rfl e1]
    exact e2
theorem nums_ok (h s : Int) (many : Nat) (hm : many < 60) : ∃ (h' s' : Int) (l : List Int), m__law_numbers [.own true [.int h, .int s], .d (.int many)] = .ok ([.own true [.int h', .int s'], .d (.int many)], .f (l.map .int)) ∧ l.length = many ∧ l.Pairwise (· < ·) := by
  obtain ⟨a0, a1⟩ := takeV_lt (h := h) (s := s) (n := 6) (by decide)
  obtain ⟨x, e6⟩ := six _ a0 a1
  have t1 := take_ok (h := h) (s := s) (n := 6) (by decide) (by decide)
  have l6 : (6 : Nat) ≤ sizeLine := sLn (by decide)
  obtain ⟨h', s', x', l', s4', e, el, p⟩ := nums_loop many (rangeD 0 many) (rangeD_len _ _) (takeH h 6) (takeS h s) many x [] .un (by simp; omega) (by simp) .nil
  have r1 := rng1_small (k := many) (by omega)
  refine ⟨h', s', l', ?_, by simpa using el, p⟩
  have e : forL (gN 4) nB (rangeD 0 many) [.own true [.int (takeH h 6), .int (takeS h s)], .d (.int many), .d (.int x), .own false [], .un] = .ok ([.own true [.int h', .int s'], .d (.int many), .d (.int x'), .own false (l'.map .int), s4'], .nx) := e
  unfold m__law_numbers b__law_numbers
  have hf : sFor (sItA rng1 (sCons (sName 1) sNil)) (gN 4) nB [.own true [.int (takeH h 6), .int (takeS h s)], .d (.int many), .d (.int x), .own false [], .un] = .ok ([.own true [.int h', .int s'], .d (.int many), .d (.int x'), .own false (l'.map .int), s4'], .nx) := by
    unfold sFor
    rw [sItA_of (Γ' := [.own true [.int (takeH h 6), .int (takeS h s)], .d (.int many), .d (.int x), .own false [], .un]) (xs := [.int many]) rfl r1]
    exact e
  simp [Res.bind, sPub, sDat, pubR, sName, slD, sBor, sC, sBin, sBinN, sTst, asB, sAnd, sOr, sNot, sVal, sIf, sUn, sNil, sCons, starD, sStar, sTup, sLst, sNoO, sSomeO, sSl, sSlN, slG, sRev, sCallB, sLenScr, sIxScr, sChain, sSkip, sSeq, sCond, sSet, slotOf, sRet, sRetN, sDrop, gN, gNil', gCons', gTup', sAsg, sBrk, sCnt, sNever, ownAt, sAppend, sPop, sPopAt, sPut, sAug, sAugAt, sExt, sRNil, sRCons, sPar2, sPar3, callS, sRef, refSl, argSl, putBack, putB, refAt, outs, endF, defS, addG, subG, mulG, modG, fdivG, powG, ltG, leG, gtG, geG, isG, isnotG, okB_iff, negG, ixG, lenG, listG, tupleG, intG, absG, isNonD, t1, e6, l6, hf]
end Lk40
namespace Lk40
open PySem PySem.Spec PyProof.Rows L2 Evl Mi

/-! ### a comprehension over one name -/
theorem lcL_map {g : D → Ga → Option Ga} {te : Ga → Res (Ga × D)} {vs : List Nat} {F : D → D} {Γ : Ga} : ∀ xs : List D, (∀ x ∈ xs, ∃ Γ1, g x Γ = some Γ1 ∧ te Γ1 = .ok (Γ1, F x) ∧ wipeG Γ1 vs = Γ) → lcL g sYes te vs xs Γ = .ok (Γ, xs.map F)
  | [], _ => rfl
  | x :: xs, h => by
    obtain ⟨Γ1, h1, h2, h3⟩ := h x List.mem_cons_self
    rw [lcL]
    simp only [h1, sYes, noX, bind_ok, if_true, h2, h3, lcL_map xs fun y hy => h y (List.mem_cons_of_mem _ hy), List.map_cons]
theorem lcL_filter {g : D → Ga → Option Ga} {tt : Ga → Res (Ga × Bool)} {te : Ga → Res (Ga × D)} {vs : List Nat} {P : D → Bool} {F : D → D} {Γ : Ga} : ∀ xs : List D, (∀ x ∈ xs, ∃ Γ1, g x Γ = some Γ1 ∧ tt Γ1 = .ok (Γ1, P x) ∧ te Γ1 = .ok (Γ1, F x) ∧ wipeG Γ1 vs = Γ) → lcL g tt te vs xs Γ = .ok (Γ, (xs.filter P).map F)
  | [], _ => rfl
  | x :: xs, h => by
    obtain ⟨Γ1, h1, ht, h2, h3⟩ := h x List.mem_cons_self
    have ih := lcL_filter xs fun y hy => h y (List.mem_cons_of_mem _ hy)
    rw [lcL]
    cases hp : P x with
    | true => simp only [h1, ht, hp, noX, bind_ok, if_true, h2, h3, ih, List.filter_cons_of_pos, List.map_cons]
    | false =>
      rw [hp] at ht
      simp [h1, ht, hp, noX, bind_ok, h3, ih]

/-! ### the words -/
def num (nums : List Int) (i : Nat) : Int := nums.getD i 0
def letD (nums : List Int) : Option Nat → D
  | none => .tuple [.str "pop", .int 1]
  | some i => .tuple [.str "push", .int (num nums i), .int 1]
def letters (m : Nat) : List (Option Nat) := none :: (List.range m).map some
def wordsN (m : Nat) : Nat → List (List (Option Nat))
  | 0 => [[]]
  | n + 1 => (wordsN m n).flatMap fun w => (letters m).map fun a => w ++ [a]
def wD (nums : List Int) (w : List (Option Nat)) : D := .list (w.map (letD nums))
theorem letters_map (nums : List Int) : (letters nums.length).map (letD nums) = .tuple [.str "pop", .int 1] :: (nums.map PyData.int).map fun x => .tuple [.str "push", x, .int 1] := by
  unfold letters
  rw [List.map_cons]
  congr 1
  rw [List.map_map, List.map_map]
  apply List.ext_getElem (by simp)
  intro i h1 h2
  simp only [List.length_map, List.length_range] at h1
  simp [letD, num, List.getD_eq_getElem?_getD, List.getElem?_eq_getElem h1]
theorem words_len (m : Nat) : ∀ n, (wordsN m n).length = (m + 1) ^ n
  | 0 => rfl
  | n + 1 => by
    rw [wordsN, List.length_flatMap]
    have : (fun w => ((letters m).map fun a => w ++ [a]).length) = fun (_ : List (Option Nat)) => m + 1 := by
      funext w
      simp [letters]
    rw [this, List.map_const', List.sum_replicate_nat, words_len m n, Nat.pow_succ]
theorem words_mem {m : Nat} : ∀ {n : Nat} {w : List (Option Nat)}, w ∈ wordsN m n → w.length = n ∧ ∀ i, some i ∈ w → i < m
  | 0, w, h => by
    simp [wordsN] at h
    subst h
    exact ⟨rfl, fun i hi => by cases hi⟩
  | n + 1, w, h => by
    rw [wordsN, List.mem_flatMap] at h
    obtain ⟨v, hv, h⟩ := h
    obtain ⟨a, ha, rfl⟩ := List.mem_map.mp h
    obtain ⟨e, f⟩ := words_mem hv
    refine ⟨by simp [e], fun i hi => ?_⟩
    rcases List.mem_append.mp hi with q | q
    · exact f i q
    · simp at q
      subst q
      simpa [letters] using ha
noncomputable abbrev wI : Ga → Res (Ga × Fl) := sSet 5 (sBin addG (sName 5) (sPub (sLc (sIt iterA (sName 2)) (gN 8) sYes (sPub (sBin addG (sName 6) (sPub (sLst (sCons (sName 8) sNil))))) [8])))
noncomputable abbrev wO : Ga → Res (Ga × Fl) := (sSeq (sSet 5 (sLst sNil))
 (sSeq (sFor (sIt iterA (sName 3)) (gN 6) wI) (sSet 3 (sDat (sName 5)))))
theorem pow_le5 {m n : Nat} (hm : m ≤ 3) (hn : n ≤ 5) : (m + 1) ^ n ≤ 1024 :=
  Nat.le_trans (Nat.pow_le_pow_left (Nat.succ_le_succ hm) n) (Nat.le_trans (Nat.pow_le_pow_right (by decide) hn) (by decide))
/-- one word is made longer by each letter -/
theorem wI_ok (nums : List Int) (n t : D) (ls : List D) (s3 : D) (acc : List D) (b b2 : Bool) (w : List D) (h1 : acc.length + ls.length ≤ 100000) (h2 : w.length ≤ 1000) :
    wI [.d (.list (nums.map .int)), .d n, (if b2 = true then .own false ls else .d (.list ls)), .d s3, .d t, (if b = true then .own false acc else .d (.list acc)), .d (.list w), .un, .un] =
      .ok ([.d (.list (nums.map .int)), .d n, .d (.list ls), .d s3, .d t, .own false (acc ++ ls.map fun a => .list (w ++ [a])), .d (.list w), .un, .un], .nx) := by
  have l1 : (1 : Nat) ≤ sizeLine := sLn (by decide)
  have l2 : w.length + 1 ≤ sizeLine := sLn (by omega)
  have l3 : acc.length + ls.length ≤ sizeLine := sLn h1
  have l4 : ls.length ≤ sizeLine := sLn (by omega)
  have key := lcL_map (g := gN 8) (te := sPub (sBin addG (sName 6) (sPub (sLst (sCons (sName 8) sNil))))) (vs := [8]) (F := fun a => .list (w ++ [a])) (Γ := [.d (.list (nums.map .int)), .d n, .d (.list ls), .d s3, .d t, .d (.list acc), .d (.list w), .un, .un]) ls (fun x _ =>
    ⟨[.d (.list (nums.map .int)), .d n, .d (.list ls), .d s3, .d t, .d (.list acc), .d (.list w), .un, .d x], rfl, by simp [Res.bind, sPub, sDat, pubR, sName, slD, sBor, sC, sBin, sBinN, sTst, asB, sAnd, sOr, sNot, sVal, sIf, sUn, sNil, sCons, starD, sStar, sTup, sLst, sNoO, sSomeO, sSl, sSlN, slG, sRev, sCallB, sLenScr, sIxScr, sChain, sSkip, sSeq, sCond, sSet, slotOf, sRet, sRetN, sDrop, gN, gNil', gCons', gTup', sAsg, sBrk, sCnt, sNever, ownAt, sAppend, sPop, sPopAt, sPut, sAug, sAugAt, sExt, sRNil, sRCons, sPar2, sPar3, callS, sRef, refSl, argSl, putBack, putB, refAt, outs, endF, defS, addG, subG, mulG, modG, fdivG, powG, ltG, leG, gtG, geG, isG, isnotG, okB_iff, negG, ixG, lenG, listG, tupleG, intG, absG, isNonD, l1, l2], rfl⟩)
  cases b <;> cases b2
  all_goals
    simp [wI, Res.bind, sPub, sDat, pubR, sName, slD, sBor, sC, sBin, sBinN, sTst, asB, sAnd, sOr, sNot, sVal, sIf, sUn, sNil, sCons, starD, sStar, sTup, sLst, sNoO, sSomeO, sSl, sSlN, slG, sRev, sCallB, sLenScr, sIxScr, sChain, sSkip, sSeq, sCond, sSet, slotOf, sRet, sRetN, sDrop, gN, gNil', gCons', gTup', sAsg, sBrk, sCnt, sNever, ownAt, sAppend, sPop, sPopAt, sPut, sAug, sAugAt, sExt, sRNil, sRCons, sPar2, sPar3, callS, sRef, refSl, argSl, putBack, putB, refAt, outs, endF, defS, addG, subG, mulG, modG, fdivG, powG, ltG, leG, gtG, geG, isG, isnotG, okB_iff, negG, ixG, lenG, listG, tupleG, intG, absG, isNonD, sLc, sIt, iterA, wipeG, key, l3, l4, unwipe, List.range_succ_eq_map]

theorem wI_loop (nums : List Int) (n t : D) (ls : List D) (s3 : D) : ∀ (ws : List (List D)) (acc : List D) (b b2 : Bool) (s6 : Sl), acc.length + ws.length * ls.length ≤ 100000 → (∀ w ∈ ws, w.length ≤ 1000) → (s6 = .un ∨ ∃ x, s6 = .d x) →
    ∃ b' b2' s6', (s6' = .un ∨ ∃ x, s6' = .d x) ∧ forL (gN 6) wI (ws.map .list) [.d (.list (nums.map .int)), .d n, (if b2 = true then .own false ls else .d (.list ls)), .d s3, .d t, (if b = true then .own false acc else .d (.list acc)), s6, .un, .un] =
      .ok ([.d (.list (nums.map .int)), .d n, (if b2' = true then .own false ls else .d (.list ls)), .d s3, .d t, (if b' = true then .own false (acc ++ ws.flatMap fun w => ls.map fun a => .list (w ++ [a])) else .d (.list (acc ++ ws.flatMap fun w => ls.map fun a => .list (w ++ [a])))), s6', .un, .un], .nx)
  | [], acc, b, b2, s6, _, _, hs => ⟨b, b2, s6, hs, by simp [forL]⟩
  | w :: ws, acc, b, b2, s6, hl, hw, _ => by
    have e1 := wI_ok nums n t ls s3 acc b b2 w (by simp [Nat.add_mul] at hl; omega) (hw w List.mem_cons_self)
    obtain ⟨b', b2', s6', hs', e2⟩ := wI_loop nums n t ls s3 ws (acc ++ ls.map fun a => .list (w ++ [a])) true false (.d (.list w)) (by simp [Nat.add_mul] at hl ⊢; omega) (fun v hv => hw v (List.mem_cons_of_mem _ hv)) (.inr ⟨_, rfl⟩)
    refine ⟨b', b2', s6', hs', ?_⟩
    rw [List.map_cons, forL_nx (g := gN 6) (Γ1 := [.d (.list (nums.map .int)), .d n, (if b2 = true then .own false ls else .d (.list ls)), .d s3, .d t, (if b = true then .own false acc else .d (.list acc)), .d (.list w), .un, .un]) rfl e1]
    rw [if_pos rfl, if_neg (by decide)] at e2
    rw [e2, List.flatMap_cons, List.append_assoc]
theorem words_step (nums : List Int) {m k : Nat} (hm : nums.length = m) : ((wordsN m k).map fun w => w.map (letD nums)).flatMap (fun w => ((letters m).map (letD nums)).map fun a => PyData.list (w ++ [a])) = ((wordsN m (k + 1)).map fun w => w.map (letD nums)).map .list := by
  rw [wordsN, List.flatMap_map, List.map_flatMap, List.map_flatMap]
  congr 1
  funext w
  rw [List.map_map, List.map_map, List.map_map]
  congr 1
  funext a
  simp
theorem wO_ok (nums : List Int) {m k : Nat} (hm : nums.length = m) (hm3 : m ≤ 3) (hk : k < 5) (n t : D) (b b2 : Bool) (s5 s6 : Sl) (h5 : s5 = .un ∨ ∃ x, s5 = .d x) (h6 : s6 = .un ∨ ∃ x, s6 = .d x) :
    ∃ b2' s5' s6', (s5' = .un ∨ ∃ x, s5' = .d x) ∧ (s6' = .un ∨ ∃ x, s6' = .d x) ∧ wO [.d (.list (nums.map .int)), .d n, (if b2 = true then .own false ((letters m).map (letD nums)) else .d (.list ((letters m).map (letD nums)))), (if b = true then .own false (((wordsN m k).map fun w => w.map (letD nums)).map .list) else .d (.list (((wordsN m k).map fun w => w.map (letD nums)).map .list))), .d t, s5, s6, .un, .un] =
      .ok ([.d (.list (nums.map .int)), .d n, (if b2' = true then .own false ((letters m).map (letD nums)) else .d (.list ((letters m).map (letD nums)))), .d (.list (((wordsN m (k + 1)).map fun w => w.map (letD nums)).map .list)), .d t, s5', s6', .un, .un], .nx) := by
  have l0 : (0 : Nat) ≤ sizeLine := Nat.zero_le _
  obtain ⟨b', b2', s6', hs', e⟩ := wI_loop nums n t ((letters m).map (letD nums)) (.list (((wordsN m k).map fun w => w.map (letD nums)).map .list)) ((wordsN m k).map fun w => w.map (letD nums)) [] true b2 s6 (by
    have h1 := words_len m k
    have h2 := pow_le5 (m := m) (n := k) hm3 (by omega)
    simp only [List.length_nil, List.length_map, h1, letters, List.length_cons, List.length_range, Nat.zero_add]
    have : (m + 1) ^ k * (m + 1) ≤ 1024 * 4 := Nat.mul_le_mul h2 (by omega)
    omega) (fun w hw => by
      obtain ⟨v, hv, rfl⟩ := List.mem_map.mp hw
      rw [List.length_map, (words_mem hv).1]
      omega) h6
  rw [List.nil_append, words_step nums hm, if_pos rfl] at e
  refine ⟨b2', .d (.list (((wordsN m (k + 1)).map fun w => w.map (letD nums)).map .list)), s6', .inr ⟨_, rfl⟩, hs', ?_⟩
  have hf : ∀ b : Bool, sFor (sIt iterA (sName 3)) (gN 6) wI [.d (.list (nums.map .int)), .d n, (if b2 = true then .own false ((letters m).map (letD nums)) else .d (.list ((letters m).map (letD nums)))), (if b = true then .own false (((wordsN m k).map fun w => w.map (letD nums)).map .list) else .d (.list (((wordsN m k).map fun w => w.map (letD nums)).map .list))), .d t, .own false [], s6, .un, .un] =
      .ok ([.d (.list (nums.map .int)), .d n, (if b2' = true then .own false ((letters m).map (letD nums)) else .d (.list ((letters m).map (letD nums)))), .d (.list (((wordsN m k).map fun w => w.map (letD nums)).map .list)), .d t, (if b' = true then .own false (((wordsN m (k + 1)).map fun w => w.map (letD nums)).map .list) else .d (.list (((wordsN m (k + 1)).map fun w => w.map (letD nums)).map .list))), s6', .un, .un], .nx) := fun b => by
    unfold sFor
    rw [sIt_of (f := iterA) (Γ' := [.d (.list (nums.map .int)), .d n, (if b2 = true then .own false ((letters m).map (letD nums)) else .d (.list ((letters m).map (letD nums)))), .d (.list (((wordsN m k).map fun w => w.map (letD nums)).map .list)), .d t, .own false [], s6, .un, .un]) (x := .list (((wordsN m k).map fun w => w.map (letD nums)).map .list)) (by cases b <;> cases b2 <;> rfl) rfl]
    exact e
  have hf := hf b
  unfold wO
  generalize sFor (sIt iterA (sName 3)) (gN 6) wI = F at hf ⊢
  cases b <;> cases b' <;> cases b2 <;> cases b2' <;> simp [Res.bind, sPub, sDat, pubR, sName, slD, sBor, sC, sBin, sBinN, sTst, asB, sAnd, sOr, sNot, sVal, sIf, sUn, sNil, sCons, starD, sStar, sTup, sLst, sNoO, sSomeO, sSl, sSlN, slG, sRev, sCallB, sLenScr, sIxScr, sChain, sSkip, sSeq, sCond, sSet, slotOf, sRet, sRetN, sDrop, gN, gNil', gCons', gTup', sAsg, sBrk, sCnt, sNever, ownAt, sAppend, sPop, sPopAt, sPut, sAug, sAugAt, sExt, sRNil, sRCons, sPar2, sPar3, callS, sRef, refSl, argSl, putBack, putB, refAt, outs, endF, defS, addG, subG, mulG, modG, fdivG, powG, ltG, leG, gtG, geG, isG, isnotG, okB_iff, negG, ixG, lenG, listG, tupleG, intG, absG, isNonD, hf] at hf ⊢ <;> simp [hf]
end Lk40
namespace Lk40
open PySem PySem.Spec PyProof.Rows L2 Evl Mi
def plainS (s : Sl) : Prop := s = .un ∨ ∃ x, s = .d x
def wordsL (nums : List Int) (m k : Nat) : List D := ((wordsN m k).map fun w => w.map (letD nums)).map .list
theorem words_loop (nums : List Int) {m : Nat} (hm : nums.length = m) (hm3 : m ≤ 3) (n : D) : ∀ (xs : List D) (k : Nat) (b b2 : Bool) (s4 s5 s6 : Sl), k + xs.length ≤ 5 → plainS s5 → plainS s6 →
    ∃ b' b2' s4' s5' s6', forL (gN 4) wO xs [.d (.list (nums.map .int)), .d n, (if b2 = true then .own false ((letters m).map (letD nums)) else .d (.list ((letters m).map (letD nums)))), (if b = true then .own false (wordsL nums m k) else .d (.list (wordsL nums m k))), s4, s5, s6, .un, .un] =
      .ok ([.d (.list (nums.map .int)), .d n, (if b2' = true then .own false ((letters m).map (letD nums)) else .d (.list ((letters m).map (letD nums)))), (if b' = true then .own false (wordsL nums m (k + xs.length)) else .d (.list (wordsL nums m (k + xs.length)))), s4', s5', s6', .un, .un], .nx)
  | [], k, b, b2, s4, s5, s6, _, _, _ => ⟨b, b2, s4, s5, s6, rfl⟩
  | x :: xs, k, b, b2, s4, s5, s6, hk, h5, h6 => by
    obtain ⟨b2', s5', s6', h5', h6', e⟩ := wO_ok nums hm hm3 (k := k) (by simp at hk; omega) n x b b2 s5 s6 h5 h6
    obtain ⟨b', b2'', s4'', s5'', s6'', e2⟩ := words_loop nums hm hm3 n xs (k + 1) false b2' (.d x) s5' s6' (by simp at hk; omega) h5' h6'
    refine ⟨b', b2'', s4'', s5'', s6'', ?_⟩
    rw [forL_nx (g := gN 4) (Γ1 := [.d (.list (nums.map .int)), .d n, (if b2 = true then .own false ((letters m).map (letD nums)) else .d (.list ((letters m).map (letD nums)))), (if b = true then .own false (wordsL nums m k) else .d (.list (wordsL nums m k))), .d x, s5, s6, .un, .un]) rfl e]
    rw [show k + (x :: xs).length = k + 1 + xs.length by simp; omega]
    exact e2
theorem words_ok (nums : List Int) {m k : Nat} (hm : nums.length = m) (hm3 : m ≤ 3) (hk : k ≤ 5) : ∃ r, m__law_words [.d (.list (nums.map .int)), .d (.int k)] = .ok ([.d (.list (nums.map .int)), .d (.int k)], r) ∧ pubR r = .list (wordsL nums m k) := by
  have l1 : (1 : Nat) ≤ sizeLine := sLn (by decide)
  have l2 : (2 : Nat) ≤ sizeLine := sLn (by decide)
  have l3 : (3 : Nat) ≤ sizeLine := sLn (by decide)
  have l4 : nums.length ≤ sizeLine := sLn (by omega)
  have l5 : nums.length + 1 ≤ sizeLine := sLn (by omega)
  have key := lcL_map (g := gN 7) (te := sPub (sTup (sCons (sC (.str ("push" : Str))) (sCons (sName 7) (sCons (sC (.int 1)) sNil))))) (vs := [7]) (F := fun a => .tuple [.str "push", a, .int 1]) (Γ := [.d (.list (nums.map .int)), .d (.int k), .un, .un, .un, .un, .un, .un, .un]) (nums.map .int) (fun x _ =>
    ⟨[.d (.list (nums.map .int)), .d (.int k), .un, .un, .un, .un, .un, .d x, .un], rfl, by simp [Res.bind, sPub, sDat, pubR, sName, slD, sBor, sC, sBin, sBinN, sTst, asB, sAnd, sOr, sNot, sVal, sIf, sUn, sNil, sCons, starD, sStar, sTup, sLst, sNoO, sSomeO, sSl, sSlN, slG, sRev, sCallB, sLenScr, sIxScr, sChain, sSkip, sSeq, sCond, sSet, slotOf, sRet, sRetN, sDrop, gN, gNil', gCons', gTup', sAsg, sBrk, sCnt, sNever, ownAt, sAppend, sPop, sPopAt, sPut, sAug, sAugAt, sExt, sRNil, sRCons, sPar2, sPar3, callS, sRef, refSl, argSl, putBack, putB, refAt, outs, endF, defS, addG, subG, mulG, modG, fdivG, powG, ltG, leG, gtG, geG, isG, isnotG, okB_iff, negG, ixG, lenG, listG, tupleG, intG, absG, isNonD, l3], rfl⟩)
  obtain ⟨b', b2', s4', s5', s6', e⟩ := words_loop nums hm hm3 (.int k) (rangeD 0 k) 0 true true .un .un .un (by rw [rangeD_len]; omega) (.inl rfl) (.inl rfl)
  have e0 : wordsL nums m 0 = [.list []] := rfl
  rw [if_pos rfl, if_pos rfl, e0, rangeD_len, Nat.zero_add] at e
  have hf : ∃ G, sFor (sItA rng1 (sCons (sName 1) sNil)) (gN 4) wO [.d (.list (nums.map .int)), .d (.int k), .own false ((letters m).map (letD nums)), .own false [.list []], .un, .un, .un, .un, .un] = .ok (G, .nx) ∧ G = [.d (.list (nums.map .int)), .d (.int k), (if b2' = true then .own false ((letters m).map (letD nums)) else .d (.list ((letters m).map (letD nums)))), (if b' = true then .own false (wordsL nums m k) else .d (.list (wordsL nums m k))), s4', s5', s6', .un, .un] := by
    refine ⟨_, ?_, rfl⟩
    unfold sFor
    rw [sItA_of (Γ' := [.d (.list (nums.map .int)), .d (.int k), .own false ((letters m).map (letD nums)), .own false [.list []], .un, .un, .un, .un, .un]) (xs := [.int k]) rfl (rng1_small (by omega))]
    exact e
  have hlet := letters_map nums
  rw [hm] at hlet
  refine ⟨if b' = true then .f (wordsL nums m k) else .d (.list (wordsL nums m k)), ?_, by cases b' <;> rfl⟩
  have eL : (sSet 2 (sBin addG (sPub (sLst (sCons (sPub (sTup (sCons (sC (.str ("pop" : Str))) (sCons (sC (.int 1)) sNil)))) sNil))) (sPub (sLc (sIt iterA (sName 0)) (gN 7) sYes (sPub (sTup (sCons (sC (.str ("push" : Str))) (sCons (sName 7) (sCons (sC (.int 1)) sNil))))) [7])))) [.d (.list (nums.map .int)), .d (.int k), .un, .un, .un, .un, .un, .un, .un] =
      .ok ([.d (.list (nums.map .int)), .d (.int k), .own false ((letters m).map (letD nums)), .un, .un, .un, .un, .un, .un], .nx) := by
    rw [hlet]
    simp [Res.bind, sPub, sDat, pubR, sName, slD, sBor, sC, sBin, sBinN, sTst, asB, sAnd, sOr, sNot, sVal, sIf, sUn, sNil, sCons, starD, sStar, sTup, sLst, sNoO, sSomeO, sSl, sSlN, slG, sRev, sCallB, sLenScr, sIxScr, sChain, sSkip, sSeq, sCond, sSet, slotOf, sRet, sRetN, sDrop, gN, gNil', gCons', gTup', sAsg, sBrk, sCnt, sNever, ownAt, sAppend, sPop, sPopAt, sPut, sAug, sAugAt, sExt, sRNil, sRCons, sPar2, sPar3, callS, sRef, refSl, argSl, putBack, putB, refAt, outs, endF, defS, addG, subG, mulG, modG, fdivG, powG, ltG, leG, gtG, geG, isG, isnotG, okB_iff, negG, ixG, lenG, listG, tupleG, intG, absG, isNonD, sLc, sIt, iterA, wipeG, key, l1, l2, l4, l5, unwipe, List.range_succ_eq_map, Nat.add_comm]
  obtain ⟨G, hf, hG⟩ := hf
  unfold m__law_words b__law_words
  generalize sFor (sItA rng1 (sCons (sName 1) sNil)) (gN 4) _ = F at hf ⊢
  generalize sSet 2 _ = S2 at eL ⊢
  subst hG
  cases b' <;> cases b2' <;> simp only [if_true, if_false, Bool.false_eq_true] at hf <;> simp [Res.bind, sPub, sDat, pubR, sName, slD, sBor, sC, sBin, sBinN, sTst, asB, sAnd, sOr, sNot, sVal, sIf, sUn, sNil, sCons, starD, sStar, sTup, sLst, sNoO, sSomeO, sSl, sSlN, slG, sRev, sCallB, sLenScr, sIxScr, sChain, sSkip, sSeq, sCond, sSet, slotOf, sRet, sRetN, sDrop, gN, gNil', gCons', gTup', sAsg, sBrk, sCnt, sNever, ownAt, sAppend, sPop, sPopAt, sPut, sAug, sAugAt, sExt, sRNil, sRCons, sPar2, sPar3, callS, sRef, refSl, argSl, putBack, putB, refAt, outs, endF, defS, addG, subG, mulG, modG, fdivG, powG, ltG, leG, gtG, geG, isG, isnotG, okB_iff, negG, ixG, lenG, listG, tupleG, intG, absG, isNonD, eL, l1, hf]
end Lk40
namespace Lk40
open PySem PySem.Spec PyProof.Rows L2 Evl Mi
/-! ### does a rule shorten the word here -/
def popsFrom (w : List (Option Nat)) (i : Nat) : Nat := ((w.drop i).takeWhile fun a => a == none).length
def shortN (w : List (Option Nat)) (at_ : Nat) : Bool :=
  match w[at_]? with
  | some (some a) => match w[at_ + 1]? with
    | none => false
    | some (some b) => decide (a < b) || decide (w[at_ + 2]? = some none)
    | some none =>
      let spot := at_ + 1 + popsFrom w (at_ + 1)
      match w[spot]? with
      | some (some b) => (decide (spot = at_ + 2) && decide (a ≤ b)) || (decide (b ≤ a) && decide (w[spot + 1]? = some none))
      | _ => false
  | _ => false
theorem eq_pp : eqG (.str ("pop" : Str)) (.str ("push" : Str)) = .ok (.d (.bool false)) := by kernel_rfl
theorem eq_up : eqG (.str ("push" : Str)) (.str ("pop" : Str)) = .ok (.d (.bool false)) := by kernel_rfl
theorem eq_uu : eqG (.str ("push" : Str)) (.str ("push" : Str)) = .ok (.d (.bool true)) := by kernel_rfl
theorem eq_oo : eqG (.str ("pop" : Str)) (.str ("pop" : Str)) = .ok (.d (.bool true)) := by kernel_rfl
theorem ne_pp : neG (.str ("pop" : Str)) (.str ("push" : Str)) = .ok (.d (.bool true)) := by kernel_rfl
theorem ne_uu : neG (.str ("push" : Str)) (.str ("push" : Str)) = .ok (.d (.bool false)) := by kernel_rfl
theorem eq_int (i j : Int) : eqG (.int i) (.int j) = .ok (.d (.bool (decide (i = j)))) := by
  have h : (SeqAt.shaped (.int i) && SeqAt.shaped (.int j)) = true := rfl
  unfold eqG
  rw [if_pos h]
  simp only [PyData.eqv]
  by_cases e : i = j
  · subst e; simp
  · simp [e]
end Lk40
namespace Lk40
open PySem PySem.Spec PyProof.Rows L2 Evl Mi
theorem at_w {nums : List Int} {w : List (Option Nat)} {i : Nat} {a : Option Nat} (h : w[i]? = some a) : atI (w.map (letD nums)) (i : Int) = some (letD nums a) := atI_nat (by rw [List.getElem?_map, h]; rfl)
theorem at_w1 {nums : List Int} {w : List (Option Nat)} {i : Nat} {a : Option Nat} (h : w[i + 1]? = some a) : atI (w.map (letD nums)) ((i : Int) + 1) = some (letD nums a) := at_w (i := i + 1) h
theorem at_w2 {nums : List Int} {w : List (Option Nat)} {i : Nat} {a : Option Nat} (h : w[i + 2]? = some a) : atI (w.map (letD nums)) ((i : Int) + 2) = some (letD nums a) := at_w (i := i + 2) h
theorem pops_none {w : List (Option Nat)} {s : Nat} (h : w[s]? = some none) : popsFrom w s = popsFrom w (s + 1) + 1 := by
  obtain ⟨hs, e⟩ := List.getElem?_eq_some_iff.mp h
  unfold popsFrom
  rw [List.drop_eq_getElem_cons hs, e]
  simp
theorem pops_some {w : List (Option Nat)} {s : Nat} (h : w[s]? ≠ some none) : popsFrom w s = 0 := by
  unfold popsFrom
  by_cases hs : s < w.length
  · rw [List.drop_eq_getElem_cons hs]
    rw [List.getElem?_eq_getElem hs] at h
    cases e : w[s] with
    | none => rw [e] at h; exact absurd rfl h
    | some a => simp
  · rw [List.drop_eq_nil_of_le (by omega)]
    rfl
theorem pops_facts (w : List (Option Nat)) : ∀ d s, s + d = w.length → w[s + popsFrom w s]? ≠ some none ∧ s + popsFrom w s ≤ w.length
  | 0, s, h => by
    have e : w[s]? = none := List.getElem?_eq_none (by omega)
    rw [pops_some (by rw [e]; simp), Nat.add_zero, e]
    exact ⟨by simp, by omega⟩
  | d + 1, s, h => by
    by_cases e : w[s]? = some none
    · obtain ⟨h1, h2⟩ := pops_facts w d (s + 1) (by omega)
      rw [pops_none e, show s + (popsFrom w (s + 1) + 1) = s + 1 + popsFrom w (s + 1) by omega]
      exact ⟨h1, h2⟩
    · rw [pops_some e, Nat.add_zero]
      exact ⟨e, by omega⟩
noncomputable abbrev wC : Ga → Res (Ga × Bool) := (sAnd (sTst (sBin ltG (sName 3) (sPub (sUn lenG (sName 0))))) (sTst (sBin eqG (sPub (sBin ixG (sPub (sBin ixG (sName 0) (sName 3))) (sC (.int 0)))) (sC (.str ("pop" : Str))))))
noncomputable abbrev wS : Ga → Res (Ga × Fl) := (sSet 3 (sBin addG (sName 3) (sC (.int 1))))
theorem spot_ok (nums : List Int) (w : List (Option Nat)) (x y : D) : ∀ (d s : Nat), s + d = w.length → sWhile wC wS [.d (wD nums w), .d x, .d y, .d (.int s)] = .ok ([.d (wD nums w), .d x, .d y, .d (.int ((s + popsFrom w s : Nat) : Int))], .nx)
  | 0, s, h => by
    have e : w[s]? = none := List.getElem?_eq_none (by omega)
    rw [pops_some (by rw [e]; simp), Nat.add_zero]
    refine sWhile_end ?_
    have hl : ¬ (s : Int) < (w.length : Int) := by omega
    simp [wC, Res.bind, sPub, sDat, pubR, sName, slD, sBor, sC, sBin, sBinN, sTst, asB, sAnd, sOr, sNot, sVal, sIf, sUn, sNil, sCons, starD, sStar, sTup, sLst, sNoO, sSomeO, sSl, sSlN, slG, sRev, sCallB, sLenScr, sIxScr, sChain, sSkip, sSeq, sCond, sSet, slotOf, sRet, sRetN, sDrop, gN, gNil', gCons', gTup', sAsg, sBrk, sCnt, sNever, ownAt, sAppend, sPop, sPopAt, sPut, sAug, sAugAt, sExt, sRNil, sRCons, sPar2, sPar3, callS, sRef, refSl, argSl, putBack, putB, refAt, outs, endF, defS, addG, subG, mulG, modG, fdivG, powG, ltG, leG, gtG, geG, isG, isnotG, okB_iff, negG, ixG, lenG, listG, tupleG, intG, absG, isNonD, wD, hl]
  | d + 1, s, h => by
    have hs : s < w.length := by omega
    have hl : (s : Int) < (w.length : Int) := by omega
    have e : w[s]? = some w[s] := List.getElem?_eq_getElem hs
    cases hw : w[s] with
    | some a =>
      rw [hw] at e
      rw [pops_some (by rw [e]; simp), Nat.add_zero]
      refine sWhile_end ?_
      simp [wC, Res.bind, sPub, sDat, pubR, sName, slD, sBor, sC, sBin, sBinN, sTst, asB, sAnd, sOr, sNot, sVal, sIf, sUn, sNil, sCons, starD, sStar, sTup, sLst, sNoO, sSomeO, sSl, sSlN, slG, sRev, sCallB, sLenScr, sIxScr, sChain, sSkip, sSeq, sCond, sSet, slotOf, sRet, sRetN, sDrop, gN, gNil', gCons', gTup', sAsg, sBrk, sCnt, sNever, ownAt, sAppend, sPop, sPopAt, sPut, sAug, sAugAt, sExt, sRNil, sRCons, sPar2, sPar3, callS, sRef, refSl, argSl, putBack, putB, refAt, outs, endF, defS, addG, subG, mulG, modG, fdivG, powG, ltG, leG, gtG, geG, isG, isnotG, okB_iff, negG, ixG, lenG, listG, tupleG, intG, absG, isNonD, wD, hl, at_w e, letD, atI0, eq_up]
    | none =>
      rw [hw] at e
      have ih := spot_ok nums w x y d (s + 1) (by omega)
      rw [pops_none e]
      refine sWhile_go (Γ1 := [.d (wD nums w), .d x, .d y, .d (.int s)]) (Γ2 := [.d (wD nums w), .d x, .d y, .d (.int ((s + 1 : Nat) : Int))]) (fl := .nx) ?_ ?_ (.inl rfl) ?_ (by simp)
      · simp [wC, Res.bind, sPub, sDat, pubR, sName, slD, sBor, sC, sBin, sBinN, sTst, asB, sAnd, sOr, sNot, sVal, sIf, sUn, sNil, sCons, starD, sStar, sTup, sLst, sNoO, sSomeO, sSl, sSlN, slG, sRev, sCallB, sLenScr, sIxScr, sChain, sSkip, sSeq, sCond, sSet, slotOf, sRet, sRetN, sDrop, gN, gNil', gCons', gTup', sAsg, sBrk, sCnt, sNever, ownAt, sAppend, sPop, sPopAt, sPut, sAug, sAugAt, sExt, sRNil, sRCons, sPar2, sPar3, callS, sRef, refSl, argSl, putBack, putB, refAt, outs, endF, defS, addG, subG, mulG, modG, fdivG, powG, ltG, leG, gtG, geG, isG, isnotG, okB_iff, negG, ixG, lenG, listG, tupleG, intG, absG, isNonD, wD, hl, at_w e, letD, atI0, eq_oo]
      · simp [wS, Res.bind, sPub, sDat, pubR, sName, slD, sBor, sC, sBin, sBinN, sTst, asB, sAnd, sOr, sNot, sVal, sIf, sUn, sNil, sCons, starD, sStar, sTup, sLst, sNoO, sSomeO, sSl, sSlN, slG, sRev, sCallB, sLenScr, sIxScr, sChain, sSkip, sSeq, sCond, sSet, slotOf, sRet, sRetN, sDrop, gN, gNil', gCons', gTup', sAsg, sBrk, sCnt, sNever, ownAt, sAppend, sPop, sPopAt, sPut, sAug, sAugAt, sExt, sRNil, sRCons, sPar2, sPar3, callS, sRef, refSl, argSl, putBack, putB, refAt, outs, endF, defS, addG, subG, mulG, modG, fdivG, powG, ltG, leG, gtG, geG, isG, isnotG, okB_iff, negG, ixG, lenG, listG, tupleG, intG, absG, isNonD]
      · rw [ih, show s + 1 + popsFrom w (s + 1) = s + (popsFrom w (s + 1) + 1) by omega]
/-- numbers that rise, by their places -/
theorem rise {nums : List Int} (p : nums.Pairwise (· < ·)) {a b : Nat} (ha : a < nums.length) (hb : b < nums.length) : (num nums a < num nums b ↔ a < b) ∧ (num nums a ≤ num nums b ↔ a ≤ b) := by
  have go : ∀ {a b : Nat}, a < nums.length → b < nums.length → a < b → num nums a < num nums b := fun {a b} ha hb h => by
    unfold num
    rw [List.getD_eq_getElem?_getD, List.getD_eq_getElem?_getD, List.getElem?_eq_getElem ha, List.getElem?_eq_getElem hb]
    exact List.pairwise_iff_getElem.mp p a b ha hb h
  rcases Nat.lt_trichotomy a b with h | h | h
  · have := go ha hb h
    constructor <;> constructor <;> intro _ <;> omega
  · subst h
    constructor <;> constructor <;> intro _ <;> omega
  · have := go hb ha h
    constructor <;> constructor <;> intro _ <;> omega
noncomputable def sW : Ga → Res (Ga × Fl) := sWhile wC wS
noncomputable def sT : Ga → Res (Ga × Fl) := (sSeq (sCond (sTst (sBin eqG (sName 3) (sPub (sUn lenG (sName 0)))))
 (sRet (sDat (sC (.bool false))))
 sSkip)
 (sSeq (sCond (sAnd (sTst (sBin eqG (sName 3) (sPub (sBin addG (sName 1) (sC (.int 2)))))) (sTst (sBin leG (sPub (sBin ixG (sName 2) (sC (.int 1)))) (sPub (sBin ixG (sPub (sBin ixG (sName 0) (sName 3))) (sC (.int 1)))))))
 (sRet (sDat (sC (.bool true))))
 sSkip)
 (sRet (sVal (sAnd (sTst (sBin leG (sPub (sBin ixG (sPub (sBin ixG (sName 0) (sName 3))) (sC (.int 1)))) (sPub (sBin ixG (sName 2) (sC (.int 1)))))) (sAnd (sTst (sBin ltG (sPub (sBin addG (sName 3) (sC (.int 1)))) (sPub (sUn lenG (sName 0))))) (sTst (sBin eqG (sPub (sBin ixG (sPub (sBin ixG (sName 0) (sPub (sBin addG (sName 3) (sC (.int 1)))))) (sC (.int 0)))) (sC (.str ("pop" : Str)))))))))))
theorem bs_eq : b__law_shortens = (sSeq (sSet 2 (sBin ixG (sName 0) (sName 1)))
 (sSeq (sCond (sOr (sTst (sBin neG (sPub (sBin ixG (sName 2) (sC (.int 0)))) (sC (.str ("push" : Str))))) (sTst (sBin geG (sPub (sBin addG (sName 1) (sC (.int 1)))) (sPub (sUn lenG (sName 0))))))
 (sRet (sDat (sC (.bool false))))
 sSkip)
 (sSeq (sCond (sTst (sBin eqG (sPub (sBin ixG (sPub (sBin ixG (sName 0) (sPub (sBin addG (sName 1) (sC (.int 1)))))) (sC (.int 0)))) (sC (.str ("push" : Str)))))
 (sSeq (sCond (sTst (sBin ltG (sPub (sBin ixG (sName 2) (sC (.int 1)))) (sPub (sBin ixG (sPub (sBin ixG (sName 0) (sPub (sBin addG (sName 1) (sC (.int 1)))))) (sC (.int 1))))))
 (sRet (sDat (sC (.bool true))))
 sSkip)
 (sRet (sVal (sAnd (sTst (sBin ltG (sPub (sBin addG (sName 1) (sC (.int 2)))) (sPub (sUn lenG (sName 0))))) (sTst (sBin eqG (sPub (sBin ixG (sPub (sBin ixG (sName 0) (sPub (sBin addG (sName 1) (sC (.int 2)))))) (sC (.int 0)))) (sC (.str ("pop" : Str)))))))))
 sSkip)
 (sSeq (sSet 3 (sBin addG (sName 1) (sC (.int 1))))
 (sSeq sW sT))))) := rfl
theorem tail_ok (W : List D) (at_ S x y n : Int) (hn : n = (W.length : Int)) (hne : ¬ S = n) (ew : atI W S = some (.tuple [.str "push", .int y, .int 1])) {q : Bool}
    (hq : S + 1 < n → ∃ r, atI W (S + 1) = some (.tuple (.str (if q = true then "pop" else "push") :: r))) :
    sT [.d (.list W), .d (.int at_), .d (.tuple [.str "push", .int x, .int 1]), .d (.int S)] = .ok ([.d (.list W), .d (.int at_), .d (.tuple [.str "push", .int x, .int 1]), .d (.int S)], .rt (.d (.bool ((decide (S = at_ + 2) && decide (x ≤ y)) || (decide (y ≤ x) && (decide (S + 1 < n) && q)))))) := by
  subst hn
  have f0 : (S = (W.length : Int)) = False := eq_false hne
  unfold sT
  by_cases k1 : S = at_ + 2
  · have k1 := eq_true k1
    by_cases k2 : x ≤ y
    · have k2 := eq_true k2
      simp [Res.bind, sPub, sDat, pubR, sName, slD, sBor, sC, sBin, sBinN, sTst, asB, sAnd, sOr, sNot, sVal, sIf, sUn, sNil, sCons, starD, sStar, sTup, sLst, sNoO, sSomeO, sSl, sSlN, slG, sRev, sCallB, sLenScr, sIxScr, sChain, sSkip, sSeq, sCond, sSet, slotOf, sRet, sRetN, sDrop, gN, gNil', gCons', gTup', sAsg, sBrk, sCnt, sNever, ownAt, sAppend, sPop, sPopAt, sPut, sAug, sAugAt, sExt, sRNil, sRCons, sPar2, sPar3, callS, sRef, refSl, argSl, putBack, putB, refAt, outs, endF, defS, addG, subG, mulG, modG, fdivG, powG, ltG, leG, gtG, geG, isG, isnotG, okB_iff, negG, ixG, lenG, listG, tupleG, intG, absG, isNonD, eq_int, f0, k1, k2, ew, atI1]
    · have k2 := eq_false k2
      by_cases k3 : y ≤ x
      · have k3 := eq_true k3
        by_cases k4 : S + 1 < (W.length : Int)
        · obtain ⟨r, er⟩ := hq k4
          have k4 := eq_true k4
          cases q <;> simp only [if_true, if_false, Bool.false_eq_true] at er <;> simp [Res.bind, sPub, sDat, pubR, sName, slD, sBor, sC, sBin, sBinN, sTst, asB, sAnd, sOr, sNot, sVal, sIf, sUn, sNil, sCons, starD, sStar, sTup, sLst, sNoO, sSomeO, sSl, sSlN, slG, sRev, sCallB, sLenScr, sIxScr, sChain, sSkip, sSeq, sCond, sSet, slotOf, sRet, sRetN, sDrop, gN, gNil', gCons', gTup', sAsg, sBrk, sCnt, sNever, ownAt, sAppend, sPop, sPopAt, sPut, sAug, sAugAt, sExt, sRNil, sRCons, sPar2, sPar3, callS, sRef, refSl, argSl, putBack, putB, refAt, outs, endF, defS, addG, subG, mulG, modG, fdivG, powG, ltG, leG, gtG, geG, isG, isnotG, okB_iff, negG, ixG, lenG, listG, tupleG, intG, absG, isNonD, eq_int, f0, k1, k2, k3, k4, ew, er, atI1, atI0, eq_oo, eq_up]
        · have k4 := eq_false k4
          simp [Res.bind, sPub, sDat, pubR, sName, slD, sBor, sC, sBin, sBinN, sTst, asB, sAnd, sOr, sNot, sVal, sIf, sUn, sNil, sCons, starD, sStar, sTup, sLst, sNoO, sSomeO, sSl, sSlN, slG, sRev, sCallB, sLenScr, sIxScr, sChain, sSkip, sSeq, sCond, sSet, slotOf, sRet, sRetN, sDrop, gN, gNil', gCons', gTup', sAsg, sBrk, sCnt, sNever, ownAt, sAppend, sPop, sPopAt, sPut, sAug, sAugAt, sExt, sRNil, sRCons, sPar2, sPar3, callS, sRef, refSl, argSl, putBack, putB, refAt, outs, endF, defS, addG, subG, mulG, modG, fdivG, powG, ltG, leG, gtG, geG, isG, isnotG, okB_iff, negG, ixG, lenG, listG, tupleG, intG, absG, isNonD, eq_int, f0, k1, k2, k3, k4, ew, atI1, atI0]
      · have k3 := eq_false k3
        simp [Res.bind, sPub, sDat, pubR, sName, slD, sBor, sC, sBin, sBinN, sTst, asB, sAnd, sOr, sNot, sVal, sIf, sUn, sNil, sCons, starD, sStar, sTup, sLst, sNoO, sSomeO, sSl, sSlN, slG, sRev, sCallB, sLenScr, sIxScr, sChain, sSkip, sSeq, sCond, sSet, slotOf, sRet, sRetN, sDrop, gN, gNil', gCons', gTup', sAsg, sBrk, sCnt, sNever, ownAt, sAppend, sPop, sPopAt, sPut, sAug, sAugAt, sExt, sRNil, sRCons, sPar2, sPar3, callS, sRef, refSl, argSl, putBack, putB, refAt, outs, endF, defS, addG, subG, mulG, modG, fdivG, powG, ltG, leG, gtG, geG, isG, isnotG, okB_iff, negG, ixG, lenG, listG, tupleG, intG, absG, isNonD, eq_int, f0, k1, k2, k3, ew, atI1, atI0]
  · have k1 := eq_false k1
    by_cases k3 : y ≤ x
    · have k3 := eq_true k3
      by_cases k4 : S + 1 < (W.length : Int)
      · obtain ⟨r, er⟩ := hq k4
        have k4 := eq_true k4
        cases q <;> simp only [if_true, if_false, Bool.false_eq_true] at er <;> simp [Res.bind, sPub, sDat, pubR, sName, slD, sBor, sC, sBin, sBinN, sTst, asB, sAnd, sOr, sNot, sVal, sIf, sUn, sNil, sCons, starD, sStar, sTup, sLst, sNoO, sSomeO, sSl, sSlN, slG, sRev, sCallB, sLenScr, sIxScr, sChain, sSkip, sSeq, sCond, sSet, slotOf, sRet, sRetN, sDrop, gN, gNil', gCons', gTup', sAsg, sBrk, sCnt, sNever, ownAt, sAppend, sPop, sPopAt, sPut, sAug, sAugAt, sExt, sRNil, sRCons, sPar2, sPar3, callS, sRef, refSl, argSl, putBack, putB, refAt, outs, endF, defS, addG, subG, mulG, modG, fdivG, powG, ltG, leG, gtG, geG, isG, isnotG, okB_iff, negG, ixG, lenG, listG, tupleG, intG, absG, isNonD, eq_int, f0, k1, k3, k4, ew, er, atI1, atI0, eq_oo, eq_up]
      · have k4 := eq_false k4
        simp [Res.bind, sPub, sDat, pubR, sName, slD, sBor, sC, sBin, sBinN, sTst, asB, sAnd, sOr, sNot, sVal, sIf, sUn, sNil, sCons, starD, sStar, sTup, sLst, sNoO, sSomeO, sSl, sSlN, slG, sRev, sCallB, sLenScr, sIxScr, sChain, sSkip, sSeq, sCond, sSet, slotOf, sRet, sRetN, sDrop, gN, gNil', gCons', gTup', sAsg, sBrk, sCnt, sNever, ownAt, sAppend, sPop, sPopAt, sPut, sAug, sAugAt, sExt, sRNil, sRCons, sPar2, sPar3, callS, sRef, refSl, argSl, putBack, putB, refAt, outs, endF, defS, addG, subG, mulG, modG, fdivG, powG, ltG, leG, gtG, geG, isG, isnotG, okB_iff, negG, ixG, lenG, listG, tupleG, intG, absG, isNonD, eq_int, f0, k1, k3, k4, ew, atI1, atI0]
    · have k3 := eq_false k3
      simp [Res.bind, sPub, sDat, pubR, sName, slD, sBor, sC, sBin, sBinN, sTst, asB, sAnd, sOr, sNot, sVal, sIf, sUn, sNil, sCons, starD, sStar, sTup, sLst, sNoO, sSomeO, sSl, sSlN, slG, sRev, sCallB, sLenScr, sIxScr, sChain, sSkip, sSeq, sCond, sSet, slotOf, sRet, sRetN, sDrop, gN, gNil', gCons', gTup', sAsg, sBrk, sCnt, sNever, ownAt, sAppend, sPop, sPopAt, sPut, sAug, sAugAt, sExt, sRNil, sRCons, sPar2, sPar3, callS, sRef, refSl, argSl, putBack, putB, refAt, outs, endF, defS, addG, subG, mulG, modG, fdivG, powG, ltG, leG, gtG, geG, isG, isnotG, okB_iff, negG, ixG, lenG, listG, tupleG, intG, absG, isNonD, eq_int, f0, k1, k3, ew, atI1, atI0]
theorem tail_end (W : List D) (at_ x : Int) (n : Int) (hn : n = (W.length : Int)) :
    sT [.d (.list W), .d (.int at_), .d (.tuple [.str "push", .int x, .int 1]), .d (.int n)] = .ok ([.d (.list W), .d (.int at_), .d (.tuple [.str "push", .int x, .int 1]), .d (.int n)], .rt (.d (.bool false))) := by
  unfold sT
  simp [Res.bind, sPub, sDat, pubR, sName, slD, sBor, sC, sBin, sBinN, sTst, asB, sAnd, sOr, sNot, sVal, sIf, sUn, sNil, sCons, starD, sStar, sTup, sLst, sNoO, sSomeO, sSl, sSlN, slG, sRev, sCallB, sLenScr, sIxScr, sChain, sSkip, sSeq, sCond, sSet, slotOf, sRet, sRetN, sDrop, gN, gNil', gCons', gTup', sAsg, sBrk, sCnt, sNever, ownAt, sAppend, sPop, sPopAt, sPut, sAug, sAugAt, sExt, sRNil, sRCons, sPar2, sPar3, callS, sRef, refSl, argSl, putBack, putB, refAt, outs, endF, defS, addG, subG, mulG, modG, fdivG, powG, ltG, leG, gtG, geG, isG, isnotG, okB_iff, negG, ixG, lenG, listG, tupleG, intG, absG, isNonD, eq_int, hn]
theorem short_ok {nums : List Int} (p : nums.Pairwise (· < ·)) {w : List (Option Nat)} (hw : ∀ i, some i ∈ w → i < nums.length) {at_ : Nat} (h : at_ < w.length) :
    m__law_shortens [.d (wD nums w), .d (.int at_)] = .ok ([.d (wD nums w), .d (.int at_)], .d (.bool (shortN w at_))) := by
  have e0 : w[at_]? = some w[at_] := List.getElem?_eq_getElem h
  unfold m__law_shortens
  rw [bs_eq]
  cases h0 : w[at_] with
  | none =>
    rw [h0] at e0
    have es : shortN w at_ = false := by unfold shortN; rw [e0]
    rw [es]
    simp [Res.bind, sPub, sDat, pubR, sName, slD, sBor, sC, sBin, sBinN, sTst, asB, sAnd, sOr, sNot, sVal, sIf, sUn, sNil, sCons, starD, sStar, sTup, sLst, sNoO, sSomeO, sSl, sSlN, slG, sRev, sCallB, sLenScr, sIxScr, sChain, sSkip, sSeq, sCond, sSet, slotOf, sRet, sRetN, sDrop, gN, gNil', gCons', gTup', sAsg, sBrk, sCnt, sNever, ownAt, sAppend, sPop, sPopAt, sPut, sAug, sAugAt, sExt, sRNil, sRCons, sPar2, sPar3, callS, sRef, refSl, argSl, putBack, putB, refAt, outs, endF, defS, addG, subG, mulG, modG, fdivG, powG, ltG, leG, gtG, geG, isG, isnotG, okB_iff, negG, ixG, lenG, listG, tupleG, intG, absG, isNonD, wD, at_w e0, letD, atI0, ne_pp]
  | some a =>
    rw [h0] at e0
    have ha := hw a (List.mem_of_getElem? e0)
    by_cases h1 : at_ + 1 < w.length
    · have hl1 : ¬ (w.length : Int) ≤ (at_ : Int) + 1 := by omega
      have e1 : w[at_ + 1]? = some w[at_ + 1] := List.getElem?_eq_getElem h1
      cases h1' : w[at_ + 1] with
      | some b =>
        rw [h1'] at e1
        have hb := hw b (List.mem_of_getElem? e1)
        have es : shortN w at_ = (decide (a < b) || decide (w[at_ + 2]? = some none)) := by unfold shortN; rw [e0, e1]
        rw [es]
        by_cases hab : a < b
        · have hn := (rise p ha hb).1.mpr hab
          simp [Res.bind, sPub, sDat, pubR, sName, slD, sBor, sC, sBin, sBinN, sTst, asB, sAnd, sOr, sNot, sVal, sIf, sUn, sNil, sCons, starD, sStar, sTup, sLst, sNoO, sSomeO, sSl, sSlN, slG, sRev, sCallB, sLenScr, sIxScr, sChain, sSkip, sSeq, sCond, sSet, slotOf, sRet, sRetN, sDrop, gN, gNil', gCons', gTup', sAsg, sBrk, sCnt, sNever, ownAt, sAppend, sPop, sPopAt, sPut, sAug, sAugAt, sExt, sRNil, sRCons, sPar2, sPar3, callS, sRef, refSl, argSl, putBack, putB, refAt, outs, endF, defS, addG, subG, mulG, modG, fdivG, powG, ltG, leG, gtG, geG, isG, isnotG, okB_iff, negG, ixG, lenG, listG, tupleG, intG, absG, isNonD, wD, at_w e0, at_w1 e1, letD, atI0, atI1, ne_uu, eq_uu, hl1, hn, hab]
        · have hn : ¬ num nums a < num nums b := fun z => hab ((rise p ha hb).1.mp z)
          by_cases h2 : at_ + 2 < w.length
          · have hl2 : (at_ : Int) + 2 < (w.length : Int) := by omega
            have e2 : w[at_ + 2]? = some w[at_ + 2] := List.getElem?_eq_getElem h2
            cases h2' : w[at_ + 2] with
            | none =>
              rw [h2'] at e2
              simp [Res.bind, sPub, sDat, pubR, sName, slD, sBor, sC, sBin, sBinN, sTst, asB, sAnd, sOr, sNot, sVal, sIf, sUn, sNil, sCons, starD, sStar, sTup, sLst, sNoO, sSomeO, sSl, sSlN, slG, sRev, sCallB, sLenScr, sIxScr, sChain, sSkip, sSeq, sCond, sSet, slotOf, sRet, sRetN, sDrop, gN, gNil', gCons', gTup', sAsg, sBrk, sCnt, sNever, ownAt, sAppend, sPop, sPopAt, sPut, sAug, sAugAt, sExt, sRNil, sRCons, sPar2, sPar3, callS, sRef, refSl, argSl, putBack, putB, refAt, outs, endF, defS, addG, subG, mulG, modG, fdivG, powG, ltG, leG, gtG, geG, isG, isnotG, okB_iff, negG, ixG, lenG, listG, tupleG, intG, absG, isNonD, wD, at_w e0, at_w1 e1, at_w2 e2, letD, atI0, atI1, ne_uu, eq_uu, eq_oo, hl1, hl2, hn, hab, e2]
            | some c =>
              rw [h2'] at e2
              simp [Res.bind, sPub, sDat, pubR, sName, slD, sBor, sC, sBin, sBinN, sTst, asB, sAnd, sOr, sNot, sVal, sIf, sUn, sNil, sCons, starD, sStar, sTup, sLst, sNoO, sSomeO, sSl, sSlN, slG, sRev, sCallB, sLenScr, sIxScr, sChain, sSkip, sSeq, sCond, sSet, slotOf, sRet, sRetN, sDrop, gN, gNil', gCons', gTup', sAsg, sBrk, sCnt, sNever, ownAt, sAppend, sPop, sPopAt, sPut, sAug, sAugAt, sExt, sRNil, sRCons, sPar2, sPar3, callS, sRef, refSl, argSl, putBack, putB, refAt, outs, endF, defS, addG, subG, mulG, modG, fdivG, powG, ltG, leG, gtG, geG, isG, isnotG, okB_iff, negG, ixG, lenG, listG, tupleG, intG, absG, isNonD, wD, at_w e0, at_w1 e1, at_w2 e2, letD, atI0, atI1, ne_uu, eq_uu, eq_up, hl1, hl2, hn, hab, e2]
          · have hl2 : ¬ (at_ : Int) + 2 < (w.length : Int) := by omega
            have e2 : w[at_ + 2]? = none := List.getElem?_eq_none (by omega)
            simp [Res.bind, sPub, sDat, pubR, sName, slD, sBor, sC, sBin, sBinN, sTst, asB, sAnd, sOr, sNot, sVal, sIf, sUn, sNil, sCons, starD, sStar, sTup, sLst, sNoO, sSomeO, sSl, sSlN, slG, sRev, sCallB, sLenScr, sIxScr, sChain, sSkip, sSeq, sCond, sSet, slotOf, sRet, sRetN, sDrop, gN, gNil', gCons', gTup', sAsg, sBrk, sCnt, sNever, ownAt, sAppend, sPop, sPopAt, sPut, sAug, sAugAt, sExt, sRNil, sRCons, sPar2, sPar3, callS, sRef, refSl, argSl, putBack, putB, refAt, outs, endF, defS, addG, subG, mulG, modG, fdivG, powG, ltG, leG, gtG, geG, isG, isnotG, okB_iff, negG, ixG, lenG, listG, tupleG, intG, absG, isNonD, wD, at_w e0, at_w1 e1, letD, atI0, atI1, ne_uu, eq_uu, hl1, hl2, hn, hab, e2]
      | none =>
        rw [h1'] at e1
        have hsp := spot_ok nums w (.int at_) (.tuple [.str "push", .int (num nums a), .int 1]) (w.length - (at_ + 1)) (at_ + 1) (by omega)
        obtain ⟨hsn, hpl⟩ := pops_facts w (w.length - (at_ + 1)) (at_ + 1) (by omega)
        generalize hq : at_ + 1 + popsFrom w (at_ + 1) = spot at hsp hsn hpl
        have es : shortN w at_ = (match w[spot]? with
          | some (some b) => (decide (spot = at_ + 2) && decide (a ≤ b)) || (decide (b ≤ a) && decide (w[spot + 1]? = some none))
          | _ => false) := by
          unfold shortN
          rw [e0, e1]
          simp only [hq]
          all_goals rfl
        have hsp' : sW [.d (.list (w.map (letD nums))), .d (.int at_), .d (.tuple [.str "push", .int (num nums a), .int 1]), .d (.int ((at_ : Int) + 1))] = .ok ([.d (.list (w.map (letD nums))), .d (.int at_), .d (.tuple [.str "push", .int (num nums a), .int 1]), .d (.int spot)], .nx) := hsp
        by_cases hs : spot < w.length
        · have e2 : w[spot]? = some w[spot] := List.getElem?_eq_getElem hs
          cases h2 : w[spot] with
          | none => rw [h2] at e2; exact absurd e2 hsn
          | some b =>
            rw [h2] at e2
            have hb := hw b (List.mem_of_getElem? e2)
            have ht := tail_ok (w.map (letD nums)) at_ spot (num nums a) (num nums b) w.length (by rw [List.length_map]) (by omega) (at_w e2) (q := decide (w[spot + 1]? = some none)) (fun z => by
              have z' : spot + 1 < w.length := by omega
              have e3 : w[spot + 1]? = some w[spot + 1] := List.getElem?_eq_getElem z'
              cases h3 : w[spot + 1] with
              | none =>
                rw [h3] at e3
                exact ⟨_, by rw [at_w1 e3, e3]; rfl⟩
              | some c =>
                rw [h3] at e3
                exact ⟨_, by rw [at_w1 e3, e3]; rfl⟩)
            have r1 : decide (num nums a ≤ num nums b) = decide (a ≤ b) := decide_eq_decide.mpr (rise p ha hb).2
            have r2 : decide (num nums b ≤ num nums a) = decide (b ≤ a) := decide_eq_decide.mpr (rise p hb ha).2
            have r3 : decide ((spot : Int) = (at_ : Int) + 2) = decide (spot = at_ + 2) := decide_eq_decide.mpr ⟨fun z => by omega, fun z => by omega⟩
            have r4 : (decide ((spot : Int) + 1 < (w.length : Int)) && decide (w[spot + 1]? = some none)) = decide (w[spot + 1]? = some none) := by
              by_cases z : spot + 1 < w.length
              · rw [decide_eq_true (show (spot : Int) + 1 < (w.length : Int) by omega), Bool.true_and]
              · rw [List.getElem?_eq_none (by omega)]
                simp
            rw [r1, r2, r3, r4] at ht
            rw [es, e2]
            simp [Res.bind, sPub, sDat, pubR, sName, slD, sBor, sC, sBin, sBinN, sTst, asB, sAnd, sOr, sNot, sVal, sIf, sUn, sNil, sCons, starD, sStar, sTup, sLst, sNoO, sSomeO, sSl, sSlN, slG, sRev, sCallB, sLenScr, sIxScr, sChain, sSkip, sSeq, sCond, sSet, slotOf, sRet, sRetN, sDrop, gN, gNil', gCons', gTup', sAsg, sBrk, sCnt, sNever, ownAt, sAppend, sPop, sPopAt, sPut, sAug, sAugAt, sExt, sRNil, sRCons, sPar2, sPar3, callS, sRef, refSl, argSl, putBack, putB, refAt, outs, endF, defS, addG, subG, mulG, modG, fdivG, powG, ltG, leG, gtG, geG, isG, isnotG, okB_iff, negG, ixG, lenG, listG, tupleG, intG, absG, isNonD, wD, at_w e0, at_w1 e1, letD, atI0, ne_uu, eq_pp, hl1, hsp', ht]
        · have hse : (spot : Int) = (w.length : Int) := by omega
          have e2 : w[spot]? = none := List.getElem?_eq_none (by omega)
          have ht := tail_end (w.map (letD nums)) at_ (num nums a) w.length (by rw [List.length_map])
          rw [es, e2]
          simp [Res.bind, sPub, sDat, pubR, sName, slD, sBor, sC, sBin, sBinN, sTst, asB, sAnd, sOr, sNot, sVal, sIf, sUn, sNil, sCons, starD, sStar, sTup, sLst, sNoO, sSomeO, sSl, sSlN, slG, sRev, sCallB, sLenScr, sIxScr, sChain, sSkip, sSeq, sCond, sSet, slotOf, sRet, sRetN, sDrop, gN, gNil', gCons', gTup', sAsg, sBrk, sCnt, sNever, ownAt, sAppend, sPop, sPopAt, sPut, sAug, sAugAt, sExt, sRNil, sRCons, sPar2, sPar3, callS, sRef, refSl, argSl, putBack, putB, refAt, outs, endF, defS, addG, subG, mulG, modG, fdivG, powG, ltG, leG, gtG, geG, isG, isnotG, okB_iff, negG, ixG, lenG, listG, tupleG, intG, absG, isNonD, wD, at_w e0, at_w1 e1, letD, atI0, ne_uu, eq_pp, hl1, hsp', hse, ht]
    · have hl1 : (w.length : Int) ≤ (at_ : Int) + 1 := by omega
      have e1 : w[at_ + 1]? = none := List.getElem?_eq_none (by omega)
      have es : shortN w at_ = false := by unfold shortN; rw [e0, e1]
      rw [es]
      simp [Res.bind, sPub, sDat, pubR, sName, slD, sBor, sC, sBin, sBinN, sTst, asB, sAnd, sOr, sNot, sVal, sIf, sUn, sNil, sCons, starD, sStar, sTup, sLst, sNoO, sSomeO, sSl, sSlN, slG, sRev, sCallB, sLenScr, sIxScr, sChain, sSkip, sSeq, sCond, sSet, slotOf, sRet, sRetN, sDrop, gN, gNil', gCons', gTup', sAsg, sBrk, sCnt, sNever, ownAt, sAppend, sPop, sPopAt, sPut, sAug, sAugAt, sExt, sRNil, sRCons, sPar2, sPar3, callS, sRef, refSl, argSl, putBack, putB, refAt, outs, endF, defS, addG, subG, mulG, modG, fdivG, powG, ltG, leG, gtG, geG, isG, isnotG, okB_iff, negG, ixG, lenG, listG, tupleG, intG, absG, isNonD, wD, at_w e0, letD, atI0, ne_uu, hl1]
end Lk40
namespace Lk40
open PySem PySem.Spec PyProof.Rows L2 Evl Mi
theorem lcL_filterM {α : Type} {f : α → D} {g : D → Ga → Option Ga} {tt : Ga → Res (Ga × Bool)} {te : Ga → Res (Ga × D)} {vs : List Nat} {P : α → Bool} {F : α → D} {Γ : Ga} : ∀ xs : List α, (∀ x ∈ xs, ∃ Γ1, g (f x) Γ = some Γ1 ∧ tt Γ1 = .ok (Γ1, P x) ∧ te Γ1 = .ok (Γ1, F x) ∧ wipeG Γ1 vs = Γ) → lcL g tt te vs (xs.map f) Γ = .ok (Γ, (xs.filter P).map F)
  | [], _ => rfl
  | x :: xs, h => by
    obtain ⟨Γ1, h1, ht, h2, h3⟩ := h x List.mem_cons_self
    have ih := lcL_filterM xs fun y hy => h y (List.mem_cons_of_mem _ hy)
    rw [List.map_cons, lcL]
    cases hp : P x with
    | true =>
      rw [hp] at ht
      simp [h1, ht, hp, noX, bind_ok, h2, h3, ih]
    | false =>
      rw [hp] at ht
      simp [h1, ht, hp, noX, bind_ok, h3, ih]
theorem lay_ints : ∀ ns : List Int, PyData.canLayAll0 (ns.map .int) = true
  | [] => rfl
  | n :: r => by
    rw [List.map_cons, PyData.canLayAll0, lay_ints r]
    rfl
theorem depth_ints : ∀ ns : List Int, PyData.depthAll (ns.map .int) = 0
  | [] => rfl
  | n :: r => by
    rw [List.map_cons, PyData.depthAll, depth_ints r]
    rfl
theorem shp_ints (ns : List Int) : SeqAt.shaped (.list (ns.map .int)) = true := by
  unfold SeqAt.shaped
  rw [PyData.canLay0, lay_ints, PyData.depth, depth_ints]
  rfl
theorem eq_ints_nil (ns : List Int) : eqG (.list (ns.map .int)) (.list []) = .ok (.d (.bool ns.isEmpty)) := by
  have h : (SeqAt.shaped (.list (ns.map .int)) && SeqAt.shaped (.list [])) = true := by rw [shp_ints]; exact shp_ints []
  unfold eqG
  rw [if_pos h]
  cases ns <;> simp [PyData.eqv, PyData.eqvAll]
def shortestN (w : List (Option Nat)) : Bool := ((List.range w.length).filter fun i => shortN w i).isEmpty
theorem rangeD_map (k : Nat) : rangeD 0 k = (List.range k).map fun (i : Nat) => PyData.int (i : Int) := by
  unfold rangeD
  apply List.map_congr_left
  intro i _
  rw [Int.zero_add]
theorem unwipe_same {Γ : Ga} {vs : List Nat} : unwipe Γ Γ vs = Γ := by
  unfold unwipe
  apply List.ext_getElem (by simp)
  intro i h1 h2
  simp [List.getD_eq_getElem?_getD, List.getElem?_eq_getElem h2]
theorem shortest_ok {nums : List Int} (p : nums.Pairwise (· < ·)) {w : List (Option Nat)} (hw : ∀ i, some i ∈ w → i < nums.length) (hl : w.length ≤ 100) :
    m__law_is_shortest [.d (wD nums w)] = .ok ([.d (wD nums w)], .d (.bool (shortestN w))) := by
  have key := lcL_filterM (f := fun (i : Nat) => PyData.int (i : Int)) (g := gN 1) (tt := sTst (callS m__law_shortens [none, none] (sCons (sName 0) (sCons (sName 1) sNil)))) (te := sName 1) (vs := [1]) (P := fun i => shortN w i) (F := fun (i : Nat) => PyData.int (i : Int)) (Γ := [.d (wD nums w), .un]) (List.range w.length) (fun i hi => by
    have hi := List.mem_range.mp hi
    have e := short_ok p hw hi
    refine ⟨[.d (wD nums w), .d (.int i)], rfl, ?_, rfl, rfl⟩
    simp [Res.bind, sPub, sDat, pubR, sName, slD, sBor, sC, sBin, sBinN, sTst, asB, sAnd, sOr, sNot, sVal, sIf, sUn, sNil, sCons, starD, sStar, sTup, sLst, sNoO, sSomeO, sSl, sSlN, slG, sRev, sCallB, sLenScr, sIxScr, sChain, sSkip, sSeq, sCond, sSet, slotOf, sRet, sRetN, sDrop, gN, gNil', gCons', gTup', sAsg, sBrk, sCnt, sNever, ownAt, sAppend, sPop, sPopAt, sPut, sAug, sAugAt, sExt, sRNil, sRCons, sPar2, sPar3, callS, sRef, refSl, argSl, putBack, putB, refAt, outs, endF, defS, addG, subG, mulG, modG, fdivG, powG, ltG, leG, gtG, geG, isG, isnotG, okB_iff, negG, ixG, lenG, listG, tupleG, intG, absG, isNonD, e])
  rw [← rangeD_map] at key
  have l1 : ((List.range w.length).filter fun i => shortN w i).length ≤ sizeLine := sLn (Nat.le_trans (List.length_filter_le _ _) (by rw [List.length_range]; omega))
  have l0 : (0 : Nat) ≤ sizeLine := Nat.zero_le _
  have hit : sItA rng1 (sCons (sPub (sUn lenG (sName 0))) sNil) [.d (wD nums w), .un] = .ok ([.d (wD nums w), .un], rangeD 0 w.length) :=
    sItA_of (xs := [.int w.length]) (by simp [Res.bind, sPub, sDat, pubR, sName, slD, sBor, sC, sBin, sBinN, sTst, asB, sAnd, sOr, sNot, sVal, sIf, sUn, sNil, sCons, starD, sStar, sTup, sLst, sNoO, sSomeO, sSl, sSlN, slG, sRev, sCallB, sLenScr, sIxScr, sChain, sSkip, sSeq, sCond, sSet, slotOf, sRet, sRetN, sDrop, gN, gNil', gCons', gTup', sAsg, sBrk, sCnt, sNever, ownAt, sAppend, sPop, sPopAt, sPut, sAug, sAugAt, sExt, sRNil, sRCons, sPar2, sPar3, callS, sRef, refSl, argSl, putBack, putB, refAt, outs, endF, defS, addG, subG, mulG, modG, fdivG, powG, ltG, leG, gtG, geG, isG, isnotG, okB_iff, negG, ixG, lenG, listG, tupleG, intG, absG, isNonD, wD]) (rng1_small hl)
  have hlc : sLc (sItA rng1 (sCons (sPub (sUn lenG (sName 0))) sNil)) (gN 1) (sTst (callS m__law_shortens [none, none] (sCons (sName 0) (sCons (sName 1) sNil)))) (sName 1) [1] [.d (wD nums w), .un] =
      .ok ([.d (wD nums w), .un], .f ((((List.range w.length).filter fun i => shortN w i).map fun (i : Nat) => (i : Int)).map .int)) := by
    unfold sLc
    rw [hit]
    have ew : wipeG [.d (wD nums w), .un] [1] = [.d (wD nums w), .un] := rfl
    simp only [bind_ok, ew, key, List.length_map, if_pos l1, unwipe_same, List.map_map, Function.comp_def]
  unfold m__law_is_shortest b__law_is_shortest
  generalize sLc _ _ _ _ _ = L at hlc ⊢
  have e := eq_ints_nil (((List.range w.length).filter fun i => shortN w i).map fun (i : Nat) => (i : Int))
  have es : shortestN w = (((List.range w.length).filter fun i => shortN w i).map fun (i : Nat) => (i : Int)).isEmpty := by
    unfold shortestN
    rw [List.isEmpty_map]
  rw [es]
  generalize (((List.range w.length).filter fun i => shortN w i).map fun (i : Nat) => (i : Int)) = ns at hlc e ⊢
  simp [Res.bind, sPub, sDat, pubR, sName, slD, sBor, sC, sBin, sBinN, sTst, asB, sAnd, sOr, sNot, sVal, sIf, sUn, sNil, sCons, starD, sStar, sTup, sLst, sNoO, sSomeO, sSl, sSlN, slG, sRev, sCallB, sLenScr, sIxScr, sChain, sSkip, sSeq, sCond, sSet, slotOf, sRet, sRetN, sDrop, gN, gNil', gCons', gTup', sAsg, sBrk, sCnt, sNever, ownAt, sAppend, sPop, sPopAt, sPut, sAug, sAugAt, sExt, sRNil, sRCons, sPar2, sPar3, callS, sRef, refSl, argSl, putBack, putB, refAt, outs, endF, defS, addG, subG, mulG, modG, fdivG, powG, ltG, leG, gtG, geG, isG, isnotG, okB_iff, negG, ixG, lenG, listG, tupleG, intG, absG, isNonD, hlc, e]
end Lk40
namespace Lk40
open PySem PySem.Spec PyProof.Rows L2 Evl Mi
theorem forL_inv {g : D → Ga → Option Ga} {b : Ga → Res (Ga × Fl)} (St : Nat → Ga → Prop) : ∀ (xs : List D) (k : Nat) (Γ : Ga), (∀ i x Γ, xs[i]? = some x → St (k + i) Γ → ∃ Γ1 Γ2, g x Γ = some Γ1 ∧ b Γ1 = .ok (Γ2, .nx) ∧ St (k + i + 1) Γ2) → St k Γ → ∃ Γ', forL g b xs Γ = .ok (Γ', .nx) ∧ St (k + xs.length) Γ'
  | [], k, Γ, _, h0 => ⟨Γ, rfl, h0⟩
  | x :: xs, k, Γ, h, h0 => by
    obtain ⟨Γ1, Γ2, e1, e2, h1⟩ := h 0 x Γ rfl h0
    obtain ⟨Γ', e3, h2⟩ := forL_inv St xs (k + 1) Γ2 (fun i y G hy hG => by
      have := h (i + 1) y G (by simpa using hy) (by rw [show k + (i + 1) = k + 1 + i by omega]; exact hG)
      rw [show k + (i + 1) + 1 = k + 1 + i + 1 by omega] at this
      exact this) h1
    refine ⟨Γ', by rw [forL_nx e1 e2]; exact e3, ?_⟩
    rw [show k + (x :: xs).length = k + 1 + xs.length by simp; omega]
    exact h2
theorem forL_all {g : D → Ga → Option Ga} {b : Ga → Res (Ga × Fl)} (St : Nat → Ga → Prop) {xs : List D} {Γ : Ga} (h0 : St 0 Γ) (h : ∀ i x Γ, xs[i]? = some x → St i Γ → ∃ Γ1 Γ2, g x Γ = some Γ1 ∧ b Γ1 = .ok (Γ2, .nx) ∧ St (i + 1) Γ2) : ∃ Γ', forL g b xs Γ = .ok (Γ', .nx) ∧ St xs.length Γ' := by
  obtain ⟨Γ', e, s⟩ := forL_inv St xs 0 Γ (fun i x G hx hG => by
    rw [Nat.zero_add] at hG ⊢
    exact h i x G hx hG) h0
  rw [Nat.zero_add] at s
  exact ⟨Γ', e, s⟩
theorem sFor_of {s : Ga → Res (Ga × List D)} {g : D → Ga → Option Ga} {b : Ga → Res (Ga × Fl)} {Γ Γ1 : Ga} {xs : List D} {r : Res (Ga × Fl)} (h1 : s Γ = .ok (Γ1, xs)) (h2 : forL g b xs Γ1 = r) : sFor s g b Γ = r := by
  unfold sFor
  rw [h1]
  exact h2
theorem atIn {xs : List Int} {i : Int} {j : Nat} (e : i = (j : Int)) (h : j < xs.length) : atI (xs.map PyData.int) i = some (.int (xs.getD j 0)) := by
  subst e
  refine atI_nat ?_
  rw [List.getElem?_map, List.getElem?_eq_getElem h, List.getD_eq_getElem?_getD, List.getElem?_eq_getElem h]
  rfl
theorem ixNn {n : Nat} {i : Int} {j : Nat} (e : i = (j : Int)) (h : j < n) : ixN n i = some j := by
  subst e
  unfold ixN
  rw [if_pos (by omega), if_pos (by omega)]
  simp
theorem rng2_small {a b : Nat} (ha : a ≤ 90) (hb : b ≤ 90) : rng2 [.int (a : Int), .int (b : Int)] = .ok (rangeD a (b - a)) := by
  have f := fits_small' a (by omega)
  have g := fits_small' b (by omega)
  have e : ((b : Int) - (a : Int)).toNat = b - a := by omega
  unfold rng2
  simp only [f, g, and_self, if_true, e]

/-! ### stacks_by_size -/
def updN (l : List Int) (j : Nat) : List Int := l.set (j + 1) (l.getD (j + 1) 0 + l.getD j 0)
def rowN : Nat → List Int → List Int
  | 0, l => l
  | n + 1, l => updN (rowN n l) n
def stacksN (most : Nat) : Nat → List Int
  | 0 => 1 :: List.replicate most 0
  | n + 1 => rowN most (stacksN most n)
theorem rowN_len : ∀ (n : Nat) (l : List Int), (rowN n l).length = l.length
  | 0, _ => rfl
  | n + 1, l => by rw [rowN, updN, List.length_set, rowN_len n l]
theorem stacksN_len (most : Nat) : ∀ n, (stacksN most n).length = most + 1
  | 0 => by simp [stacksN]
  | n + 1 => by rw [stacksN, rowN_len, stacksN_len most n]
noncomputable abbrev sbI : Ga → Res (Ga × Fl) := (sAugAt (· + ·) 2 (sName 4) (sPub (sBinN ixG 2 (sPub (sBin subG (sName 4) (sC (.int 1)))))))
noncomputable abbrev sbO : Ga → Res (Ga × Fl) := sFor (sItA rng2 (sCons (sC (.int 1)) (sCons (sPub (sBin addG (sName 0) (sC (.int 1)))) sNil))) (gN 4) sbI
theorem sbI_ok (m k x : D) (l : List Int) (i : Nat) (hi : i + 1 < l.length) : sbI [.d m, .d k, .own false (l.map .int), .d x, .d (.int ((1 : Int) + i))] = .ok ([.d m, .d k, .own false ((updN l i).map .int), .d x, .d (.int ((1 : Int) + i))], .nx) := by
  have e1 : ixN l.length ((1 : Int) + i) = some (i + 1) := ixNn (by omega) hi
  have e2 : (l.map PyData.int)[i + 1]? = some (.int (l.getD (i + 1) 0)) := by
    rw [List.getElem?_map, List.getElem?_eq_getElem hi, List.getD_eq_getElem?_getD, List.getElem?_eq_getElem hi]
    rfl
  have e3 : atI (l.map PyData.int) ((1 : Int) + i - 1) = some (.int (l.getD i 0)) := atIn (by omega) (by omega)
  have e4 : (updN l i).map PyData.int = (l.map PyData.int).set (i + 1) (.int (l.getD (i + 1) 0 + l.getD i 0)) := by
    unfold updN
    rw [List.map_set]
  rw [e4]
  generalize hL : l.map PyData.int = L at e2 e3 ⊢
  have e0 : L.length = l.length := by rw [← hL, List.length_map]
  rw [← e0] at e1
  generalize l.getD (i + 1) 0 = u at e2 ⊢
  generalize l.getD i 0 = v at e3 ⊢
  simp [sbI, Res.bind, sPub, sDat, pubR, sName, slD, sBor, sC, sBin, sBinN, sTst, asB, sAnd, sOr, sNot, sVal, sIf, sUn, sNil, sCons, starD, sStar, sTup, sLst, sNoO, sSomeO, sSl, sSlN, slG, sRev, sCallB, sLenScr, sIxScr, sChain, sSkip, sSeq, sCond, sSet, slotOf, sRet, sRetN, sDrop, gN, gNil', gCons', gTup', sAsg, sBrk, sCnt, sNever, ownAt, sAppend, sPop, sPopAt, sPut, sAug, sAugAt, sExt, sRNil, sRCons, sPar2, sPar3, callS, sRef, refSl, argSl, putBack, putB, refAt, outs, endF, defS, addG, subG, mulG, modG, fdivG, powG, ltG, leG, gtG, geG, isG, isnotG, okB_iff, negG, ixG, lenG, listG, tupleG, intG, absG, isNonD, e1, e2, e3]
theorem sbO_ok (most : Nat) (hm : most ≤ 60) (k x : D) (l : List Int) (hl : l.length = most + 1) (s4 : Sl) : ∃ s4', sbO [.d (.int most), .d k, .own false (l.map .int), .d x, s4] = .ok ([.d (.int most), .d k, .own false ((rowN most l).map .int), .d x, s4'], .nx) := by
  obtain ⟨G, e, s4', hG⟩ := forL_all (g := gN 4) (b := sbI) (fun i Γ => ∃ s4, Γ = [.d (.int most), .d k, .own false ((rowN i l).map .int), .d x, s4]) (xs := rangeD 1 most) (Γ := [.d (.int most), .d k, .own false (l.map .int), .d x, s4]) ⟨s4, rfl⟩ (fun i y Γ hy ⟨s4, hΓ⟩ => by
    subst hΓ
    have hi : i < most := by
      have := (List.getElem?_eq_some_iff.mp hy).1
      rwa [rangeD_len] at this
    rw [rangeD_get hi] at hy
    cases hy
    exact ⟨_, _, rfl, sbI_ok _ _ _ _ i (by rw [rowN_len, hl]; omega), _, rfl⟩)
  rw [rangeD_len] at hG
  subst hG
  refine ⟨s4', sFor_of (sItA_of (xs := [.int ((1 : Nat) : Int), .int ((most + 1 : Nat) : Int)]) rfl (rng2_small (by omega) (by omega))) e⟩
theorem stacks_ok (most kinds : Nat) (hm : most ≤ 60) (hk : kinds ≤ 20) : m_stacks_by_size [.d (.int most), .d (.int kinds)] = .ok ([.d (.int most), .d (.int kinds)], .f ((stacksN most kinds).map .int)) := by
  have l1 : (1 : Nat) ≤ sizeLine := sLn (by decide)
  have l2 : most ≤ sizeLine := sLn (by omega)
  have l3 : most + 1 ≤ sizeLine := sLn (by omega)
  have b1 : -(2 ^ 63) ≤ (most : Int) := by omega
  have b2 : (most : Int) < 9223372036854775808 := by omega
  obtain ⟨G, e, s3', s4', hG⟩ := forL_all (g := gN 3) (b := sbO) (fun i Γ => ∃ s3 s4, Γ = [.d (.int most), .d (.int kinds), .own false ((stacksN most i).map .int), s3, s4]) (xs := rangeD 0 kinds) (Γ := [.d (.int most), .d (.int kinds), .own false ((stacksN most 0).map .int), .un, .un]) ⟨_, _, rfl⟩ (fun i y Γ hy ⟨s3, s4, hΓ⟩ => by
    subst hΓ
    obtain ⟨s4', e⟩ := sbO_ok most hm (.int kinds) y (stacksN most i) (stacksN_len most i) s4
    exact ⟨_, _, rfl, e, _, _, rfl⟩)
  rw [rangeD_len] at hG
  subst hG
  have hf : sFor (sItA rng1 (sCons (sName 1) sNil)) (gN 3) sbO [.d (.int most), .d (.int kinds), .own false ((stacksN most 0).map .int), .un, .un] = _ :=
    sFor_of (sItA_of (xs := [.int (kinds : Int)]) rfl (rng1_small (by omega))) e
  have e0 : (stacksN most 0).map PyData.int = .int 1 :: List.replicate most (.int 0) := by simp [stacksN]
  rw [e0] at hf
  unfold m_stacks_by_size b_stacks_by_size
  generalize sFor (sItA rng1 (sCons (sName 1) sNil)) (gN 3) _ = F at hf ⊢
  simp [Res.bind, sPub, sDat, pubR, sName, slD, sBor, sC, sBin, sBinN, sTst, asB, sAnd, sOr, sNot, sVal, sIf, sUn, sNil, sCons, starD, sStar, sTup, sLst, sNoO, sSomeO, sSl, sSlN, slG, sRev, sCallB, sLenScr, sIxScr, sChain, sSkip, sSeq, sCond, sSet, slotOf, sRet, sRetN, sDrop, gN, gNil', gCons', gTup', sAsg, sBrk, sCnt, sNever, ownAt, sAppend, sPop, sPopAt, sPut, sAug, sAugAt, sExt, sRNil, sRCons, sPar2, sPar3, callS, sRef, refSl, argSl, putBack, putB, refAt, outs, endF, defS, addG, subG, mulG, modG, fdivG, powG, ltG, leG, gtG, geG, isG, isnotG, okB_iff, negG, ixG, lenG, listG, tupleG, intG, absG, isNonD, l1, l2, l3, b1, b2, hf, List.flatten_replicate_singleton, Nat.add_comm]
end Lk40
namespace Lk40
open PySem PySem.Spec PyProof.Rows L2 Evl Mi
/-! ### the checks -/
theorem isi_int (n : Int) : isiG "int" (.int n) = .ok (.d (.bool true)) := by kernel_rfl
theorem isi_intb (n : Int) : isiG "bool" (.int n) = .ok (.d (.bool false)) := by kernel_rfl
theorem isi_tup (xs : List D) : isiG "tuple" (.tuple xs) = .ok (.d (.bool true)) := by kernel_rfl
theorem is_integer_ok (n : Int) : m_is_integer [.d (.int n)] = .ok ([.d (.int n)], .d (.bool true)) := by
  unfold m_is_integer b_is_integer
  simp [Res.bind, sPub, sDat, pubR, sName, slD, sBor, sC, sBin, sBinN, sTst, asB, sAnd, sOr, sNot, sVal, sIf, sUn, sNil, sCons, starD, sStar, sTup, sLst, sNoO, sSomeO, sSl, sSlN, slG, sRev, sCallB, sLenScr, sIxScr, sChain, sSkip, sSeq, sCond, sSet, slotOf, sRet, sRetN, sDrop, gN, gNil', gCons', gTup', sAsg, sBrk, sCnt, sNever, ownAt, sAppend, sPop, sPopAt, sPut, sAug, sAugAt, sExt, sRNil, sRCons, sPar2, sPar3, callS, sRef, refSl, argSl, putBack, putB, refAt, outs, endF, defS, addG, subG, mulG, modG, fdivG, powG, ltG, leG, gtG, geG, isG, isnotG, okB_iff, negG, ixG, lenG, listG, tupleG, intG, absG, isNonD, isi_int, isi_intb]
theorem boolsOf_map : ∀ bs : List Bool, boolsOf (bs.map PyData.bool) = some bs
  | [] => rfl
  | b :: r => by
    rw [List.map_cons]
    unfold boolsOf
    rw [boolsOf_map r]
    rfl
theorem allG_map (bs : List Bool) : allG (.list (bs.map .bool)) = .ok (.d (.bool (bs.all id))) := by
  unfold allG
  simp only [boolsOf_map]
theorem lcL_mapM {α : Type} {f : α → D} {g : D → Ga → Option Ga} {te : Ga → Res (Ga × D)} {vs : List Nat} {F : α → D} {Γ : Ga} : ∀ xs : List α, (∀ x ∈ xs, ∃ Γ1, g (f x) Γ = some Γ1 ∧ te Γ1 = .ok (Γ1, F x) ∧ wipeG Γ1 vs = Γ) → lcL g sYes te vs (xs.map f) Γ = .ok (Γ, xs.map F)
  | [], _ => rfl
  | x :: xs, h => by
    obtain ⟨Γ1, h1, h2, h3⟩ := h x List.mem_cons_self
    rw [List.map_cons, lcL]
    simp only [h1, sYes, noX, bind_ok, if_true, h2, h3, lcL_mapM xs fun y hy => h y (List.mem_cons_of_mem _ hy), List.map_cons]
theorem sLc_of {s : Ga → Res (Ga × List D)} {g : D → Ga → Option Ga} {tt : Ga → Res (Ga × Bool)} {te : Ga → Res (Ga × D)} {vs : List Nat} {Γ Γ1 : Ga} {xs ys : List D} (h1 : s Γ = .ok (Γ1, xs)) (hw : wipeG Γ1 vs = Γ1) (h2 : lcL g tt te vs xs Γ1 = .ok (Γ1, ys)) (hl : ys.length ≤ 100000) : sLc s g tt te vs Γ = .ok (Γ1, .f ys) := by
  unfold sLc
  rw [h1]
  simp only [bind_ok, hw, h2, if_pos (sLn hl), unwipe_same]
theorem rise_all : ∀ {nums : List Int}, nums.Pairwise (· < ·) → ∀ p ∈ nums.zip (nums.drop 1), p.1 < p.2
  | [], _, p, h => by simp at h
  | [_], _, p, h => by simp at h
  | a :: b :: r, hp, p, h => by
    rw [List.drop_one, List.tail_cons, List.zip_cons_cons] at h
    obtain ⟨h1, h2⟩ := List.pairwise_cons.mp hp
    rcases List.mem_cons.mp h with rfl | h
    · exact h1 b List.mem_cons_self
    · exact rise_all h2 p (by rw [List.drop_one, List.tail_cons]; exact h)
theorem cut_drop1 (xs : List D) : Mi.cutD xs (some 1) none = xs.drop 1 := by
  unfold Mi.cutD
  have e : HT.sIx xs.length 0 (some 1) = min 1 xs.length := HT.sIx_nat xs.length 0 1
  rw [e, HT.sIx_none]
  cases xs with
  | nil => rfl
  | cons x r =>
    rw [show min 1 (x :: r).length = 1 by simp]
    simp
theorem are_numbers_ok {nums : List Int} (p : nums.Pairwise (· < ·)) (hl : nums.length ≤ 20) : m_are_numbers [.d (.tuple (nums.map .int)), .d (.int 20)] = .ok ([.d (.tuple (nums.map .int)), .d (.int 20)], .d (.bool true)) := by
  have h20 : ¬ (20 : Int) < (nums.length : Int) := by omega
  have k1 := lcL_mapM (f := PyData.int) (g := gN 2) (te := sPub (callS m_is_integer [none] (sCons (sName 2) sNil))) (vs := [2]) (F := fun _ => PyData.bool true) (Γ := [.d (.tuple (nums.map .int)), .d (.int 20), .un, .un, .un]) nums (fun x _ =>
    ⟨[.d (.tuple (nums.map .int)), .d (.int 20), .d (.int x), .un, .un], rfl, by simp [Res.bind, sPub, sDat, pubR, sName, slD, sBor, sC, sBin, sBinN, sTst, asB, sAnd, sOr, sNot, sVal, sIf, sUn, sNil, sCons, starD, sStar, sTup, sLst, sNoO, sSomeO, sSl, sSlN, slG, sRev, sCallB, sLenScr, sIxScr, sChain, sSkip, sSeq, sCond, sSet, slotOf, sRet, sRetN, sDrop, gN, gNil', gCons', gTup', sAsg, sBrk, sCnt, sNever, ownAt, sAppend, sPop, sPopAt, sPut, sAug, sAugAt, sExt, sRNil, sRCons, sPar2, sPar3, callS, sRef, refSl, argSl, putBack, putB, refAt, outs, endF, defS, addG, subG, mulG, modG, fdivG, powG, ltG, leG, gtG, geG, isG, isnotG, okB_iff, negG, ixG, lenG, listG, tupleG, intG, absG, isNonD, is_integer_ok], rfl⟩)
  have l1 := sLc_of (s := sIt iterA (sName 0)) (Γ := [.d (.tuple (nums.map .int)), .d (.int 20), .un, .un, .un]) (sIt_of (x := .tuple (nums.map .int)) rfl rfl) rfl k1 (by rw [List.length_map]; omega)
  have a1 : allG (.list (nums.map fun _ => PyData.bool true)) = .ok (.d (.bool true)) := by
    have := allG_map (nums.map fun _ => true)
    rw [List.map_map] at this
    rw [show (nums.map fun _ => PyData.bool true) = nums.map (PyData.bool ∘ fun _ => true) from rfl, this]
    simp
  have k2 := lcL_mapM (f := fun p : Int × Int => PyData.tuple [.int p.1, .int p.2]) (g := gTup' (gCons' (gN 3) (gCons' (gN 4) gNil')) 2) (te := sPub (sBin ltG (sName 3) (sName 4))) (vs := [3, 4]) (F := fun _ => PyData.bool true) (Γ := [.d (.tuple (nums.map .int)), .d (.int 20), .un, .un, .un]) (nums.zip (nums.drop 1)) (fun x hx =>
    ⟨[.d (.tuple (nums.map .int)), .d (.int 20), .un, .d (.int x.1), .d (.int x.2)], rfl, by simp [Res.bind, sPub, sDat, pubR, sName, slD, sBor, sC, sBin, sBinN, sTst, asB, sAnd, sOr, sNot, sVal, sIf, sUn, sNil, sCons, starD, sStar, sTup, sLst, sNoO, sSomeO, sSl, sSlN, slG, sRev, sCallB, sLenScr, sIxScr, sChain, sSkip, sSeq, sCond, sSet, slotOf, sRet, sRetN, sDrop, gN, gNil', gCons', gTup', sAsg, sBrk, sCnt, sNever, ownAt, sAppend, sPop, sPopAt, sPut, sAug, sAugAt, sExt, sRNil, sRCons, sPar2, sPar3, callS, sRef, refSl, argSl, putBack, putB, refAt, outs, endF, defS, addG, subG, mulG, modG, fdivG, powG, ltG, leG, gtG, geG, isG, isnotG, okB_iff, negG, ixG, lenG, listG, tupleG, intG, absG, isNonD, rise_all p x hx], rfl⟩)
  have ez : zipSL false [.tuple (nums.map .int), .tuple ((nums.map PyData.int).drop 1)] = .ok ((nums.zip (nums.drop 1)).map fun p : Int × Int => PyData.tuple [.int p.1, .int p.2]) := by
    unfold zipSL
    simp only [Bool.false_eq_true, if_false]
    unfold pairUp
    rw [← List.map_drop, List.zip_map, List.map_map]
    rfl
  have l2 := sLc_of (s := sItA (zipSL false) (sCons (sName 0) (sCons (sPub (sSl (sName 0) (sSomeO (sC (.int 1))) sNoO)) sNil))) (Γ := [.d (.tuple (nums.map .int)), .d (.int 20), .un, .un, .un])
    (sItA_of (xs := [.tuple (nums.map .int), .tuple ((nums.map PyData.int).drop 1)]) (by simp [Res.bind, sPub, sDat, pubR, sName, slD, sBor, sC, sBin, sBinN, sTst, asB, sAnd, sOr, sNot, sVal, sIf, sUn, sNil, sCons, starD, sStar, sTup, sLst, sNoO, sSomeO, sSl, sSlN, slG, sRev, sCallB, sLenScr, sIxScr, sChain, sSkip, sSeq, sCond, sSet, slotOf, sRet, sRetN, sDrop, gN, gNil', gCons', gTup', sAsg, sBrk, sCnt, sNever, ownAt, sAppend, sPop, sPopAt, sPut, sAug, sAugAt, sExt, sRNil, sRCons, sPar2, sPar3, callS, sRef, refSl, argSl, putBack, putB, refAt, outs, endF, defS, addG, subG, mulG, modG, fdivG, powG, ltG, leG, gtG, geG, isG, isnotG, okB_iff, negG, ixG, lenG, listG, tupleG, intG, absG, isNonD, cut_drop1]) ez) rfl k2 (by rw [List.length_map, List.length_zip]; omega)
  have a2 : allG (.list ((nums.zip (nums.drop 1)).map fun _ => PyData.bool true)) = .ok (.d (.bool true)) := by
    have := allG_map ((nums.zip (nums.drop 1)).map fun _ => true)
    rw [List.map_map] at this
    rw [show ((nums.zip (nums.drop 1)).map fun _ => PyData.bool true) = (nums.zip (nums.drop 1)).map (PyData.bool ∘ fun _ => true) from rfl, this]
    simp
  generalize (nums.map fun _ => PyData.bool true) = z1 at l1 a1
  generalize ((nums.zip (nums.drop 1)).map fun _ => PyData.bool true) = z2 at l2 a2
  unfold m_are_numbers b_are_numbers
  generalize sLc (sIt iterA (sName 0)) _ _ _ _ = L1 at l1 ⊢
  generalize sLc _ _ _ _ _ = L2 at l2 ⊢
  simp [Res.bind, sPub, sDat, pubR, sName, slD, sBor, sC, sBin, sBinN, sTst, asB, sAnd, sOr, sNot, sVal, sIf, sUn, sNil, sCons, starD, sStar, sTup, sLst, sNoO, sSomeO, sSl, sSlN, slG, sRev, sCallB, sLenScr, sIxScr, sChain, sSkip, sSeq, sCond, sSet, slotOf, sRet, sRetN, sDrop, gN, gNil', gCons', gTup', sAsg, sBrk, sCnt, sNever, ownAt, sAppend, sPop, sPopAt, sPut, sAug, sAugAt, sExt, sRNil, sRCons, sPar2, sPar3, callS, sRef, refSl, argSl, putBack, putB, refAt, outs, endF, defS, addG, subG, mulG, modG, fdivG, powG, ltG, leG, gtG, geG, isG, isnotG, okB_iff, negG, ixG, lenG, listG, tupleG, intG, absG, isNonD, isi_tup, h20, l1, a1, l2, a2]
theorem check_ok {nums : List Int} (p : nums.Pairwise (· < ·)) (hl : nums.length ≤ 20) {n : Nat} (hn : n ≤ 60) : m_check_sizes [.d (.int n), .d (.int 60), .d (.tuple (nums.map .int)), .d (.int 20)] = .ok ([.d (.int n), .d (.int 60), .d (.tuple (nums.map .int)), .d (.int 20)], .d .none) := by
  have h0 : (0 : Int) ≤ (n : Int) := by omega
  have h1 : (n : Int) ≤ 60 := by omega
  unfold m_check_sizes b_check_sizes
  simp [Res.bind, sPub, sDat, pubR, sName, slD, sBor, sC, sBin, sBinN, sTst, asB, sAnd, sOr, sNot, sVal, sIf, sUn, sNil, sCons, starD, sStar, sTup, sLst, sNoO, sSomeO, sSl, sSlN, slG, sRev, sCallB, sLenScr, sIxScr, sChain, sSkip, sSeq, sCond, sSet, slotOf, sRet, sRetN, sDrop, gN, gNil', gCons', gTup', sAsg, sBrk, sCnt, sNever, ownAt, sAppend, sPop, sPopAt, sPut, sAug, sAugAt, sExt, sRNil, sRCons, sPar2, sPar3, callS, sRef, refSl, argSl, putBack, putB, refAt, outs, endF, defS, addG, subG, mulG, modG, fdivG, powG, ltG, leG, gtG, geG, isG, isnotG, okB_iff, negG, ixG, lenG, listG, tupleG, intG, absG, isNonD, is_integer_ok, h0, h1, are_numbers_ok p hl]

/-! ### count_effects -/
def sumTo (l : List Int) (n : Nat) : Int := (l.take n).sum
/-- one summand -/
def termN (length kinds kind steps : Nat) : Int := ((cutAt length kinds (length - 1)).1.getD steps []).getD kind 0 * ((stacksN length kind).getD (length - steps) 0 + sumTo (stacksN length kinds) (length - steps))
def colN (length kinds kind : Nat) : Nat → Int → Int
  | 0, f => f
  | n + 1, f => colN length kinds kind n f + termN length kinds kind (2 + n)
def allN (length kinds : Nat) : Nat → Int → Int
  | 0, f => f
  | n + 1, f => colN length kinds n (length - 1) (allN length kinds n f)
def countN (length kinds : Nat) : Int := allN length kinds kinds (stacksN length kinds).sum
noncomputable abbrev ceI : Ga → Res (Ga × Fl) := (sSeq (sSet 9 (sBin subG (sName 0) (sName 8)))
 (sAug (· + ·) 4 (sPub (sBin mulG (sPub (sBin ixG (sPub (sBin ixG (sName 5) (sName 8))) (sName 6))) (sPub (sBin addG (sPub (sBin ixG (sName 7) (sName 9))) (sPub (sUn sumG (sPub (sSl (sName 3) sNoO (sSomeO (sName 9)))))))))))) 
noncomputable abbrev ceO : Ga → Res (Ga × Fl) := (sSeq (sSet 7 (callS m_stacks_by_size [none, none] (sCons (sName 0) (sCons (sName 6) sNil))))
 (sFor (sItA rng2 (sCons (sC (.int 2)) (sCons (sPub (sBin addG (sName 0) (sC (.int 1)))) sNil))) (gN 8) ceI))
def ownOr (b : Bool) (xs : List D) : Sl := if b = true then .own false xs else .d (.list xs)
theorem sName_own {Γ : Ga} {i : Nat} {b : Bool} {xs : List D} (h : Γ[i]? = some (ownOr b xs)) : sName i Γ = .ok (Γ.set i (.d (.list xs)), .list xs) := by
  unfold sName
  rw [h]
  cases b
  · have : Γ.set i (.d (.list xs)) = Γ := by
      apply List.ext_getElem?
      intro j
      by_cases e : j = i
      · subst e
        rw [List.getElem?_set_self (List.getElem?_eq_some_iff.mp h).1, h]
        rfl
      · rw [List.getElem?_set_ne (Ne.symm e)]
    rw [this]
    rfl
  · rfl
theorem ceI_ok (nums : D) (length kinds kind i : Nat) (hl : length ≤ 60) (hk : kinds ≤ 20) (hi : i < length - 1) (hkind : kind < kinds) (hb : (((cutAt length kinds (length - 1)).1.getD (2 + i) []).getD kind 0).natAbs < 1000000) (b3 b5 b7 : Bool) (f : Int) (s9 : Sl) (kd : Int) :
    ceI [.d (.int length), .d nums, .d (.int kd), ownOr b3 ((stacksN length kinds).map .int), .d (.int f), ownOr b5 (rowsD (cutAt length kinds (length - 1)).1), .d (.int kind), ownOr b7 ((stacksN length kind).map .int), .d (.int ((2 : Int) + i)), s9] =
      .ok ([.d (.int length), .d nums, .d (.int kd), ownOr false ((stacksN length kinds).map .int), .d (.int (f + termN length kinds kind (2 + i))), ownOr false (rowsD (cutAt length kinds (length - 1)).1), .d (.int kind), ownOr false ((stacksN length kind).map .int), .d (.int ((2 : Int) + i)), .d (.int ((length - (2 + i) : Nat) : Int))], .nx) := by
  have o := cutAt_ok length kinds (length - 1) (Nat.le_refl _)
  have h2 : 2 + i < (cutAt length kinds (length - 1)).1.length := by rw [o.rl]; omega
  have er : (cutAt length kinds (length - 1)).1[2 + i]? = some (cutAt length kinds (length - 1)).1[2 + i] := List.getElem?_eq_getElem h2
  have eg : (cutAt length kinds (length - 1)).1.getD (2 + i) [] = (cutAt length kinds (length - 1)).1[2 + i] := by rw [List.getD_eq_getElem?_getD, er]; rfl
  have rl := o.rw_ _ (List.getElem_mem h2)
  have e1 : atI (rowsD (cutAt length kinds (length - 1)).1) ((2 : Int) + i) = some (.list ((cutAt length kinds (length - 1)).1[2 + i].map .int)) := by
    rw [show (2 : Int) + i = ((2 + i : Nat) : Int) by omega]
    refine atI_nat ?_
    unfold rowsD
    rw [List.getElem?_map, er]
    rfl
  rw [eg] at hb
  have e2 : atI ((cutAt length kinds (length - 1)).1[2 + i].map PyData.int) (kind : Int) = some (.int ((cutAt length kinds (length - 1)).1[2 + i].getD kind 0)) := atIn rfl (by rw [rl]; exact hkind)
  have e3 : atI ((stacksN length kind).map PyData.int) ((length : Int) - ((2 : Int) + i)) = some (.int ((stacksN length kind).getD (length - (2 + i)) 0)) := atIn (by omega) (by rw [stacksN_len]; omega)
  have e4 : Mi.cutD ((stacksN length kinds).map PyData.int) none (some ((length : Int) - ((2 : Int) + i))) = ((stacksN length kinds).take (length - (2 + i))).map .int := by
    rw [show (length : Int) - ((2 : Int) + i) = ((length - (2 + i) : Nat) : Int) by omega, cut_take (by rw [List.length_map, stacksN_len]; omega), List.map_take]
  have e5 : sumG (.list (((stacksN length kinds).take (length - (2 + i))).map .int)) = .ok (.d (.int (sumTo (stacksN length kinds) (length - (2 + i))))) := by
    unfold sumG
    simp only [intsOf_map]
    rfl
  have e6 : ∀ j, mulOk ((cutAt length kinds (length - 1)).1[2 + i].getD kind 0) j = true := fun j => by
    unfold mulOk
    exact okB_of (.inl ⟨by omega, by omega⟩)
  have et : termN length kinds kind (2 + i) = (cutAt length kinds (length - 1)).1[2 + i].getD kind 0 * ((stacksN length kind).getD (length - (2 + i)) 0 + sumTo (stacksN length kinds) (length - (2 + i))) := by
    unfold termN
    rw [eg]
  have e7 : ((length - (2 + i) : Nat) : Int) = (length : Int) - ((2 : Int) + i) := by omega
  rw [et, e7]
  generalize (cutAt length kinds (length - 1)).1[2 + i] = row at e1 e2 e6 ⊢
  generalize hR : row.getD kind 0 = u at e2 e6 ⊢
  generalize (stacksN length kind).getD (length - (2 + i)) 0 = v at e3 ⊢
  generalize sumTo (stacksN length kinds) (length - (2 + i)) = t at e5 ⊢
  generalize ((stacksN length kinds).take (length - (2 + i))).map PyData.int = tk at e4 e5
  generalize (stacksN length kinds).map PyData.int = A at e4 ⊢
  generalize (stacksN length kind).map PyData.int = C at e3 ⊢
  generalize rowsD (cutAt length kinds (length - 1)).1 = Rw at e1 ⊢
  generalize row.map PyData.int = Rr at e1 e2
  cases b3 <;> cases b5 <;> cases b7 <;> simp [ceI, Res.bind, sPub, sDat, pubR, sName, slD, sBor, sC, sBin, sBinN, sTst, asB, sAnd, sOr, sNot, sVal, sIf, sUn, sNil, sCons, starD, sStar, sTup, sLst, sNoO, sSomeO, sSl, sSlN, slG, sRev, sCallB, sLenScr, sIxScr, sChain, sSkip, sSeq, sCond, sSet, slotOf, sRet, sRetN, sDrop, gN, gNil', gCons', gTup', sAsg, sBrk, sCnt, sNever, ownAt, sAppend, sPop, sPopAt, sPut, sAug, sAugAt, sExt, sRNil, sRCons, sPar2, sPar3, callS, sRef, refSl, argSl, putBack, putB, refAt, outs, endF, defS, addG, subG, mulG, modG, fdivG, powG, ltG, leG, gtG, geG, isG, isnotG, okB_iff, negG, ixG, lenG, listG, tupleG, intG, absG, isNonD, ownOr, e1, e2, e3, e4, e5, e6]
end Lk40
namespace Lk40
open PySem PySem.Spec PyProof.Rows L2 Evl Mi
theorem sFor_same {f : List D → Res (List D)} {s : Ga → Res (Ga × List D)} {g : D → Ga → Option Ga} {b : Ga → Res (Ga × Fl)} {Γ : Ga} {xs ys : List D} {r : Res (Ga × Fl)} (h2 : forL g b ys Γ = r) (h1 : s Γ = .ok (Γ, xs)) (h : f xs = .ok ys) : sFor (sItA f s) g b Γ = r := sFor_of (sItA_of h1 h) h2
theorem ownOr_t (xs : List D) : ownOr true xs = .own false xs := rfl
theorem ownOr_f (xs : List D) : ownOr false xs = .d (.list xs) := rfl
theorem pb2 {a b s : Sl} {i : Nat} : putB [none, none] [a, b] i s = s := by cases s <;> rfl
def smallCuts (length kinds : Nat) : Prop := ∀ kind, kind < kinds → ∀ i, i < length - 1 → (((cutAt length kinds (length - 1)).1.getD (2 + i) []).getD kind 0).natAbs < 1000000
theorem ceO_ok (nums : D) (length kinds kind : Nat) (hl : length ≤ 60) (hk : kinds ≤ 20) (hkind : kind < kinds) (hb : smallCuts length kinds) (kd : Int) (b3 b5 : Bool) (f : Int) (s7 s8 s9 : Sl) (h7 : s7 = .un ∨ ∃ x, s7 = .d x ∨ ∃ b xs, s7 = ownOr b xs) :
    ∃ b3' b5' b7' s8' s9', ceO [.d (.int length), .d nums, .d (.int kd), ownOr b3 ((stacksN length kinds).map .int), .d (.int f), ownOr b5 (rowsD (cutAt length kinds (length - 1)).1), .d (.int kind), s7, s8, s9] =
      .ok ([.d (.int length), .d nums, .d (.int kd), ownOr b3' ((stacksN length kinds).map .int), .d (.int (colN length kinds kind (length - 1) f)), ownOr b5' (rowsD (cutAt length kinds (length - 1)).1), .d (.int kind), ownOr b7' ((stacksN length kind).map .int), s8', s9'], .nx) := by
  obtain ⟨G, e, b3', b5', b7', s8', s9', hG⟩ := forL_all (g := gN 8) (b := ceI) (fun i Γ => ∃ b3 b5 b7 s8 s9, Γ = [.d (.int length), .d nums, .d (.int kd), ownOr b3 ((stacksN length kinds).map .int), .d (.int (colN length kinds kind i f)), ownOr b5 (rowsD (cutAt length kinds (length - 1)).1), .d (.int kind), ownOr b7 ((stacksN length kind).map .int), s8, s9])
    (xs := rangeD 2 (length - 1)) (Γ := [.d (.int length), .d nums, .d (.int kd), ownOr b3 ((stacksN length kinds).map .int), .d (.int f), ownOr b5 (rowsD (cutAt length kinds (length - 1)).1), .d (.int kind), ownOr true ((stacksN length kind).map .int), s8, s9]) ⟨_, _, _, _, _, rfl⟩ (fun i y Γ hy ⟨c3, c5, c7, t8, t9, hΓ⟩ => by
      subst hΓ
      have hi : i < length - 1 := by
        have := (List.getElem?_eq_some_iff.mp hy).1
        rwa [rangeD_len] at this
      rw [rangeD_get hi] at hy
      cases hy
      exact ⟨_, _, rfl, ceI_ok nums length kinds kind i hl hk hi hkind (hb kind hkind i hi) c3 c5 c7 _ t9 kd, _, _, _, _, _, rfl⟩)
  rw [rangeD_len] at hG
  subst hG
  have hs := stacks_ok length kind hl (by omega)
  have hf := sFor_same (f := rng2) (s := sCons (sC (.int 2)) (sCons (sPub (sBin addG (sName 0) (sC (.int 1)))) sNil)) (xs := [.int ((2 : Nat) : Int), .int ((length + 1 : Nat) : Int)]) e rfl (by rw [rng2_small (by omega) (by omega), show length + 1 - 2 = length - 1 by omega]; rfl)
  refine ⟨b3', b5', b7', s8', s9', ?_⟩
  unfold ceO
  generalize sFor _ _ _ = F at hf ⊢
  rw [ownOr_t] at hf
  cases b3 <;> cases b5 <;> simp only [ownOr_t, ownOr_f] at hf ⊢ <;> simp [Res.bind, sPub, sDat, pubR, sName, slD, sBor, sC, sBin, sBinN, sTst, asB, sAnd, sOr, sNot, sVal, sIf, sUn, sNil, sCons, starD, sStar, sTup, sLst, sNoO, sSomeO, sSl, sSlN, slG, sRev, sCallB, sLenScr, sIxScr, sChain, sSkip, sSeq, sCond, sSet, slotOf, sRet, sRetN, sDrop, gN, gNil', gCons', gTup', sAsg, sBrk, sCnt, sNever, ownAt, sAppend, sPop, sPopAt, sPut, sAug, sAugAt, sExt, sRNil, sRCons, sPar2, sPar3, callS, sRef, refSl, argSl, putBack, outs, endF, defS, addG, subG, mulG, modG, fdivG, powG, ltG, leG, gtG, geG, isG, isnotG, okB_iff, negG, ixG, lenG, listG, tupleG, intG, absG, isNonD, pb2, hs, hf]
theorem allN_step (length kinds n : Nat) (f : Int) : allN length kinds (n + 1) f = colN length kinds n (length - 1) (allN length kinds n f) := rfl
theorem count_ok {nums : List Int} (p : nums.Pairwise (· < ·)) (hk : nums.length ≤ 20) {length : Nat} (hl : length ≤ 60) (hb : smallCuts length nums.length) :
    m_count_effects [.d (.int length), .d (.tuple (nums.map .int))] = .ok ([.d (.int length), .d (.tuple (nums.map .int))], .d (.int (countN length nums.length))) := by
  have hc := check_ok p hk hl
  have hs := stacks_ok length nums.length hl hk
  have hcut : m_cuts_by_length [.d (.int length), .d (.int nums.length)] = .ok ([.d (.int length), .d (.int nums.length)], .f (rowsD (cutAt length nums.length (length - 1)).1)) := by
    show (if 0 ≤ (length : Int) ∧ (length : Int) ≤ 60 ∧ 0 ≤ (nums.length : Int) ∧ (nums.length : Int) ≤ 20 then _ else _) = _
    rw [if_pos ⟨by omega, by omega, by omega, by omega⟩]
    rfl
  have hsum : sumG (.list ((stacksN length nums.length).map .int)) = .ok (.d (.int (stacksN length nums.length).sum)) := by
    unfold sumG
    simp only [intsOf_map]
  obtain ⟨G, e, b3', b5', s6', s7', s8', s9', h7, hG⟩ := forL_all (g := gN 6) (b := ceO) (fun i Γ => ∃ b3 b5 s6 s7 s8 s9, (s7 = .un ∨ ∃ x, s7 = .d x ∨ ∃ b xs, s7 = ownOr b xs) ∧ Γ = [.d (.int length), .d (.tuple (nums.map .int)), .d (.int nums.length), ownOr b3 ((stacksN length nums.length).map .int), .d (.int (allN length nums.length i (stacksN length nums.length).sum)), ownOr b5 (rowsD (cutAt length nums.length (length - 1)).1), s6, s7, s8, s9])
    (xs := rangeD 0 nums.length) (Γ := [.d (.int length), .d (.tuple (nums.map .int)), .d (.int nums.length), ownOr false ((stacksN length nums.length).map .int), .d (.int (stacksN length nums.length).sum), ownOr true (rowsD (cutAt length nums.length (length - 1)).1), .un, .un, .un, .un]) ⟨_, _, _, _, _, _, .inl rfl, rfl⟩ (fun i y Γ hy ⟨c3, c5, t6, t7, t8, t9, h7, hΓ⟩ => by
      subst hΓ
      have hi : i < nums.length := by
        have := (List.getElem?_eq_some_iff.mp hy).1
        rwa [rangeD_len] at this
      rw [rangeD_get hi, Int.zero_add] at hy
      cases hy
      obtain ⟨d3, d5, d7, u8, u9, e⟩ := ceO_ok (.tuple (nums.map .int)) length nums.length i hl hk hi hb nums.length c3 c5 (allN length nums.length i (stacksN length nums.length).sum) t7 t8 t9 h7
      exact ⟨_, _, rfl, e, _, _, _, _, _, _, .inr ⟨.none, .inr ⟨_, _, rfl⟩⟩, rfl⟩)
  rw [rangeD_len] at hG
  subst hG
  have hf := sFor_same (f := rng1) (s := sCons (sName 2) sNil) (xs := [.int (nums.length : Int)]) e rfl (rng1_small (by omega))
  unfold m_count_effects b_count_effects countN
  generalize sFor _ _ _ = F at hf ⊢
  rw [ownOr_t, ownOr_f] at hf
  simp [Res.bind, sPub, sDat, pubR, sName, slD, sBor, sC, sBin, sBinN, sTst, asB, sAnd, sOr, sNot, sVal, sIf, sUn, sNil, sCons, starD, sStar, sTup, sLst, sNoO, sSomeO, sSl, sSlN, slG, sRev, sCallB, sLenScr, sIxScr, sChain, sSkip, sSeq, sCond, sSet, slotOf, sRet, sRetN, sDrop, gN, gNil', gCons', gTup', sAsg, sBrk, sCnt, sNever, ownAt, sAppend, sPop, sPopAt, sPut, sAug, sAugAt, sExt, sRNil, sRCons, sPar2, sPar3, callS, sRef, refSl, argSl, putBack, putB, refAt, outs, endF, defS, addG, subG, mulG, modG, fdivG, powG, ltG, leG, gtG, geG, isG, isnotG, okB_iff, negG, ixG, lenG, listG, tupleG, intG, absG, isNonD, hc, hs, hcut, hsum, hf]
end Lk40
namespace Lk40
open PySem PySem.Spec PyProof.Rows L2 Evl Mi
/-! ### all cases, reckoned -/
theorem finite : ∀ m : Fin 4, ∀ l : Fin 6, l.val < 6 - (if 2 < m.val then 1 else 0) → countN l.val m.val = (((wordsN m.val l.val).filter shortestN).length : Int) ∧ ∀ kind : Fin 3, kind.val < m.val → ∀ i : Fin 5, i.val < l.val - 1 → (((cutAt l.val m.val (l.val - 1)).1.getD (2 + i.val) []).getD kind.val 0).natAbs < 1000000 := by decide +kernel
theorem finite_ok {m l : Nat} (hm : m < 4) (hl : l < 6 - (if 2 < m then 1 else 0)) : countN l m = (((wordsN m l).filter shortestN).length : Int) ∧ smallCuts l m := by
  have l6 : l < 6 := by omega
  obtain ⟨h1, h2⟩ := finite ⟨m, hm⟩ ⟨l, l6⟩ hl
  exact ⟨h1, fun kind hk i hi => h2 ⟨kind, by omega⟩ hk ⟨i, by omega⟩ hi⟩
theorem unwipe_one {Γ : Ga} {v : Nat} : unwipe Γ (Γ.set v .un) [v] = Γ := by
  unfold unwipe
  apply List.ext_getElem (by simp)
  intro i h1 h2
  by_cases e : i = v
  · subst e
    simp [List.getD_eq_getElem?_getD, List.getElem?_eq_getElem h2]
  · simp [e, List.getD_eq_getElem?_getD, List.getElem?_set_ne (Ne.symm e), List.getElem?_eq_getElem h2]
theorem sLc_one {s : Ga → Res (Ga × List D)} {g : D → Ga → Option Ga} {tt : Ga → Res (Ga × Bool)} {te : Ga → Res (Ga × D)} {v : Nat} {Γ Γ1 : Ga} {xs ys : List D} (h1 : s Γ = .ok (Γ1, xs)) (h2 : lcL g tt te [v] xs (Γ1.set v .un) = .ok (Γ1.set v .un, ys)) (hl : ys.length ≤ 100000) : sLc s g tt te [v] Γ = .ok (Γ1, .f ys) := by
  unfold sLc
  rw [h1]
  have e : wipeG Γ1 [v] = Γ1.set v .un := rfl
  simp only [bind_ok, e, h2, if_pos (sLn hl), unwipe_one]
theorem ne_int_eq (i : Int) : neG (.int i) (.int i) = .ok (.d (.bool false)) := by
  have h : (SeqAt.shaped (.int i) && SeqAt.shaped (.int i)) = true := rfl
  unfold neG
  rw [if_pos h]
  simp [PyData.eqv]
noncomputable abbrev lI : Ga → Res (Ga × Fl) := (sSeq (sSet 5 (sUn lenG (sPub (sLc (sIt iterA (sPub (callS m__law_words [none, none] (sCons (sName 3) (sCons (sName 4) sNil))))) (gN 6) (sTst (callS m__law_is_shortest [none] (sCons (sName 6) sNil))) (sName 6) [6]))))
 (sCond (sTst (sBin neG (sPub (callS m_count_effects [none, none] (sCons (sName 4) (sCons (sPub (sUn tupleG (sName 3))) sNil)))) (sName 5)))
 (sRet (sDat (sC (.bool false))))
 sSkip))
theorem putB0 {a b s : Sl} {i : Nat} : putB [none, none] [a, b] i s = s := by cases s <;> rfl
theorem putB1 {a s : Sl} {i : Nat} : putB [none] [a] i s = s := by cases s <;> rfl
theorem putBack0 {Γ : Ga} {a b : Sl} : putBack Γ [none, none] [a, b] = Γ := by
  unfold putBack
  apply List.ext_getElem (by simp)
  intro i h1 h2
  simp [putB0]
theorem putBack1 {Γ : Ga} {a : Sl} : putBack Γ [none] [a] = Γ := by
  unfold putBack
  apply List.ext_getElem (by simp)
  intro i h1 h2
  simp [putB1]
theorem lI_ok (ns : List Int) (k : D) (pool : List D) {nums : List Int} (p : nums.Pairwise (· < ·)) {l : Nat} (hm : nums.length < 4) (hl : l < 6 - (if 2 < nums.length then 1 else 0)) (b3 : Bool) (s5 s6 : Sl) :
    ∃ s5', lI [.scr ns, .d k, .own false pool, ownOr b3 (nums.map .int), .d (.int l), s5, s6] = .ok ([.scr ns, .d k, .own false pool, ownOr false (nums.map .int), .d (.int l), s5', s6], .nx) := by
  obtain ⟨hc, hsm⟩ := finite_ok hm hl
  have l6 : l < 6 := by omega
  obtain ⟨r, hw, hr⟩ := words_ok nums (m := nums.length) (k := l) rfl (by omega) (by omega)
  have hcnt := count_ok p (by omega) (length := l) (by omega) hsm
  have key := lcL_filterM (f := wD nums) (g := gN 6) (tt := sTst (callS m__law_is_shortest [none] (sCons (sName 6) sNil))) (te := sName 6) (vs := [6]) (P := shortestN) (F := wD nums) (Γ := [.scr ns, .d k, .own false pool, .d (.list (nums.map .int)), .d (.int l), s5, .un]) (wordsN nums.length l) (fun w hw' => by
    obtain ⟨e1, e2⟩ := words_mem hw'
    have e := shortest_ok p e2 (by omega)
    refine ⟨[.scr ns, .d k, .own false pool, .d (.list (nums.map .int)), .d (.int l), s5, .d (wD nums w)], rfl, ?_, rfl, rfl⟩
    have e3 : sCons (sName 6) sNil [.scr ns, .d k, .own false pool, .d (.list (nums.map .int)), .d (.int l), s5, .d (wD nums w)] = .ok ([.scr ns, .d k, .own false pool, .d (.list (nums.map .int)), .d (.int l), s5, .d (wD nums w)], [wD nums w]) := rfl
    have e4 : ∀ G, argSl G [none] [wD nums w] = .ok [.d (wD nums w)] := fun _ => rfl
    unfold sTst callS
    rw [e3]
    simp only [bind_ok, e4, e, putBack1, asB])
  have ew : wordsL nums nums.length l = (wordsN nums.length l).map (wD nums) := by
    unfold wordsL
    rw [List.map_map]
    rfl
  have hcall : sPub (callS m__law_words [none, none] (sCons (sName 3) (sCons (sName 4) sNil))) [.scr ns, .d k, .own false pool, ownOr b3 (nums.map .int), .d (.int l), s5, s6] = .ok ([.scr ns, .d k, .own false pool, .d (.list (nums.map .int)), .d (.int l), s5, s6], .list ((wordsN nums.length l).map (wD nums))) := by
    have e3 : sCons (sName 3) (sCons (sName 4) sNil) [.scr ns, .d k, .own false pool, ownOr b3 (nums.map .int), .d (.int l), s5, s6] = .ok ([.scr ns, .d k, .own false pool, .d (.list (nums.map .int)), .d (.int l), s5, s6], [.list (nums.map .int), .int l]) := by
      cases b3 <;> rfl
    have e4 : ∀ G, argSl G [none, none] [.list (nums.map .int), .int l] = .ok [.d (.list (nums.map .int)), .d (.int l)] := fun _ => rfl
    unfold sPub callS
    rw [e3]
    simp only [bind_ok, e4, hw, putBack0, hr, ew]
  have hlc := sLc_one (v := 6) (s := sIt iterA (sPub (callS m__law_words [none, none] (sCons (sName 3) (sCons (sName 4) sNil))))) (g := gN 6) (tt := sTst (callS m__law_is_shortest [none] (sCons (sName 6) sNil))) (te := sName 6) (sIt_of hcall rfl) key (by
    rw [List.length_map]
    refine Nat.le_trans (List.length_filter_le _ _) ?_
    rw [words_len]
    exact Nat.le_trans (pow_le5 (by omega) (by omega)) (by decide))
  have ecnt : callS m_count_effects [none, none] (sCons (sName 4) (sCons (sPub (sUn tupleG (sName 3))) sNil)) [.scr ns, .d k, .own false pool, .d (.list (nums.map .int)), .d (.int l), .d (.int (((wordsN nums.length l).filter shortestN).length : Int)), s6] =
      .ok ([.scr ns, .d k, .own false pool, .d (.list (nums.map .int)), .d (.int l), .d (.int (((wordsN nums.length l).filter shortestN).length : Int)), s6], .d (.int (((wordsN nums.length l).filter shortestN).length : Int))) := by
    have e3 : sCons (sName 4) (sCons (sPub (sUn tupleG (sName 3))) sNil) [.scr ns, .d k, .own false pool, .d (.list (nums.map .int)), .d (.int l), .d (.int (((wordsN nums.length l).filter shortestN).length : Int)), s6] = .ok ([.scr ns, .d k, .own false pool, .d (.list (nums.map .int)), .d (.int l), .d (.int (((wordsN nums.length l).filter shortestN).length : Int)), s6], [.int l, .tuple (nums.map .int)]) := rfl
    have e4 : ∀ G, argSl G [none, none] [.int l, .tuple (nums.map .int)] = .ok [.d (.int l), .d (.tuple (nums.map .int))] := fun _ => rfl
    unfold callS
    rw [e3]
    simp only [bind_ok, e4, hcnt, putBack0, hc]
  refine ⟨.d (.int (((wordsN nums.length l).filter shortestN).length : Int)), ?_⟩
  unfold lI
  generalize sLc _ _ _ _ _ = L at hlc ⊢
  generalize callS m_count_effects _ _ = C at ecnt ⊢
  have e6 : lenG (.list (((wordsN nums.length l).filter shortestN).map (wD nums))) = .ok (.d (.int (((wordsN nums.length l).filter shortestN).length : Int))) := by
    unfold lenG
    simp only [List.length_map]
  simp only [sSeq, sSet, sUn, sPub, hlc, bind_ok, pubR, e6, slotOf]
  rw [show [Sl.scr ns, .d k, .own false pool, .d (.list (nums.map .int)), .d (.int l), s5, s6].set 5 (.d (.int (((wordsN nums.length l).filter shortestN).length : Int))) = [Sl.scr ns, .d k, .own false pool, .d (.list (nums.map .int)), .d (.int l), .d (.int (((wordsN nums.length l).filter shortestN).length : Int)), s6] from rfl]
  simp only [sCond, sTst, sBin, sPub, ecnt, bind_ok, pubR, sName, List.getElem?_cons_succ, List.getElem?_cons_zero, ne_int_eq, asB, sSkip, Bool.false_eq_true, if_false, ownOr_f]

noncomputable abbrev lO : Ga → Res (Ga × Fl) := (sSeq (sSet 2 (callS m__law_pool [some 0, none] (sRef 0 (sCons (sName 1) sNil))))
 (sSeq (sSet 3 (callS m__law_numbers [some 2, none] (sRef 2 (sCons (sPub (callS m__law_take [some 2, none] (sRef 2 (sCons (sC (.int 4)) sNil)))) sNil))))
 (sFor (sItA rng1 (sCons (sPub (sBin subG (sC (.int 6)) (sPub (sUn intG (sPub (sBin gtG (sPub (sUn lenG (sName 3))) (sC (.int 2)))))))) sNil)) (gN 4) lI)))
theorem putB_s {s : Sl} {ns : List Int} {a : Sl} {i : Nat} : putB [some 0, none] [.scr ns, a] i s = s := by cases s <;> rfl
theorem putB_n {s a : Sl} {ys : List D} {i : Nat} (h : ¬ 2 = i) : putB [some 2, none] [.own true ys, a] i s = s := by
  cases s with
  | own b xs => simp [putB, refAt, h]
  | _ => rfl
theorem putBack_s {Γ : Ga} {ns : List Int} {a : Sl} : putBack Γ [some 0, none] [.scr ns, a] = Γ := by
  unfold putBack
  apply List.ext_getElem (by simp)
  intro i h1 h2
  simp [putB_s]
theorem putBack_2 {g0 g1 g3 g4 g5 g6 a : Sl} {b : Bool} {xs ys : List D} : putBack [g0, g1, .own b xs, g3, g4, g5, g6] [some 2, none] [.own true ys, a] = [g0, g1, .own b ys, g3, g4, g5, g6] := by
  unfold putBack
  simp [List.mapIdx_cons, putB_n]
  rfl
theorem lO_ok (ns : List Int) (k : Nat) (hk : k < 64) (s2 s3 s4 s5 s6 : Sl) : ∃ s2' s3' s4' s5', lO [.scr ns, .d (.int k), s2, s3, s4, s5, s6] = .ok ([.scr ns, .d (.int k), s2', s3', s4', s5', s6], .nx) := by
  obtain ⟨h, s, ep⟩ := pool_ok ns k hk
  have et := take_ok (h := h) (s := s) (n := 4) (by decide) (by decide)
  obtain ⟨v0, v4⟩ := takeV_lt (h := h) (s := s) (n := 4) (by decide)
  obtain ⟨m, em⟩ := Int.eq_ofNat_of_zero_le v0
  have hm : m < 4 := by omega
  obtain ⟨h', s', nums, en, el, p⟩ := nums_ok (takeH h 4) (takeS h s) m (by omega)
  have e1 : sSet 2 (callS m__law_pool [some 0, none] (sRef 0 (sCons (sName 1) sNil))) [.scr ns, .d (.int k), s2, s3, s4, s5, s6] = .ok ([.scr ns, .d (.int k), .own false [.int h, .int s], s3, s4, s5, s6], .nx) := by
    have a1 : sRef 0 (sCons (sName 1) sNil) [.scr ns, .d (.int k), s2, s3, s4, s5, s6] = .ok ([.scr ns, .d (.int k), s2, s3, s4, s5, s6], [.int k]) := rfl
    have a2 : argSl [.scr ns, .d (.int k), s2, s3, s4, s5, s6] [some 0, none] [.int k] = .ok [.scr ns, .d (.int k)] := rfl
    unfold sSet callS
    rw [a1]
    simp only [bind_ok, a2, ep, putBack_s, slotOf]
    rfl
  have e2 : sPub (callS m__law_take [some 2, none] (sRef 2 (sCons (sC (.int 4)) sNil))) [.scr ns, .d (.int k), .own false [.int h, .int s], s3, s4, s5, s6] = .ok ([.scr ns, .d (.int k), .own false [.int (takeH h 4), .int (takeS h s)], s3, s4, s5, s6], .int m) := by
    have a1 : sRef 2 (sCons (sC (.int 4)) sNil) [.scr ns, .d (.int k), .own false [.int h, .int s], s3, s4, s5, s6] = .ok ([.scr ns, .d (.int k), .own false [.int h, .int s], s3, s4, s5, s6], [.int 4]) := rfl
    have a2 : argSl [.scr ns, .d (.int k), .own false [.int h, .int s], s3, s4, s5, s6] [some 2, none] [.int 4] = .ok [.own true [.int h, .int s], .d (.int 4)] := rfl
    unfold sPub callS
    rw [a1]
    simp only [bind_ok, a2, et, putBack_2, pubR, em]
  have e3 : sSet 3 (callS m__law_numbers [some 2, none] (sRef 2 (sCons (sPub (callS m__law_take [some 2, none] (sRef 2 (sCons (sC (.int 4)) sNil)))) sNil))) [.scr ns, .d (.int k), .own false [.int h, .int s], s3, s4, s5, s6] = .ok ([.scr ns, .d (.int k), .own false [.int h', .int s'], ownOr true (nums.map .int), s4, s5, s6], .nx) := by
    have a1 : sRef 2 (sCons (sPub (callS m__law_take [some 2, none] (sRef 2 (sCons (sC (.int 4)) sNil)))) sNil) [.scr ns, .d (.int k), .own false [.int h, .int s], s3, s4, s5, s6] = .ok ([.scr ns, .d (.int k), .own false [.int (takeH h 4), .int (takeS h s)], s3, s4, s5, s6], [.int m]) := by
      generalize sPub (callS m__law_take [some 2, none] (sRef 2 (sCons (sC (.int 4)) sNil))) = T at e2 ⊢
      unfold sRef sCons
      rw [show refSl [Sl.scr ns, .d (.int k), .own false [.int h, .int s], s3, s4, s5, s6] 2 = .ok (.own true [.int h, .int s]) from rfl]
      simp only [bind_ok, e2, sNil]
    have a2 : argSl [.scr ns, .d (.int k), .own false [.int (takeH h 4), .int (takeS h s)], s3, s4, s5, s6] [some 2, none] [.int m] = .ok [.own true [.int (takeH h 4), .int (takeS h s)], .d (.int m)] := rfl
    generalize sRef 2 (sCons (sPub (callS m__law_take [some 2, none] (sRef 2 (sCons (sC (.int 4)) sNil)))) sNil) = T at a1 ⊢
    unfold sSet callS
    rw [a1]
    simp only [bind_ok, a2, en, putBack_2, slotOf]
    rfl
  have lim : (6 : Int) - (if (2 : Int) < (nums.length : Int) then 1 else 0) = ((6 - (if 2 < nums.length then 1 else 0) : Nat) : Int) := by split <;> split <;> omega
  obtain ⟨G, ef, s4', s5', b3', hG⟩ := forL_all (g := gN 4) (b := lI) (fun i Γ => ∃ s4 s5 b3, Γ = [.scr ns, .d (.int k), .own false [.int h', .int s'], ownOr b3 (nums.map .int), s4, s5, s6]) (xs := rangeD 0 (6 - (if 2 < nums.length then 1 else 0))) (Γ := [.scr ns, .d (.int k), .own false [.int h', .int s'], ownOr false (nums.map .int), s4, s5, s6]) ⟨_, _, _, rfl⟩ (fun i y Γ hy ⟨t4, t5, c3, hΓ⟩ => by
    subst hΓ
    have hi : i < 6 - (if 2 < nums.length then 1 else 0) := by
      have := (List.getElem?_eq_some_iff.mp hy).1
      rwa [rangeD_len] at this
    rw [rangeD_get hi, Int.zero_add] at hy
    cases hy
    obtain ⟨t5', e⟩ := lI_ok ns (.int k) [.int h', .int s'] p (by omega) hi c3 t5 s6
    exact ⟨_, _, rfl, e, _, _, _, rfl⟩)
  subst hG
  have hfor := sFor_of (s := sItA rng1 (sCons (sPub (sBin subG (sC (.int 6)) (sPub (sUn intG (sPub (sBin gtG (sPub (sUn lenG (sName 3))) (sC (.int 2)))))))) sNil)) (Γ := [.scr ns, .d (.int k), .own false [.int h', .int s'], ownOr true (nums.map .int), s4, s5, s6])
    (sItA_of (f := rng1) (xs := [.int ((6 - (if 2 < nums.length then 1 else 0) : Nat) : Int)]) (by
      rw [← lim]
      simp [Res.bind, sPub, sDat, pubR, sName, slD, sBor, sC, sBin, sBinN, sTst, asB, sAnd, sOr, sNot, sVal, sIf, sUn, sNil, sCons, starD, sStar, sTup, sLst, sNoO, sSomeO, sSl, sSlN, slG, sRev, sCallB, sLenScr, sIxScr, sChain, sSkip, sSeq, sCond, sSet, slotOf, sRet, sRetN, sDrop, gN, gNil', gCons', gTup', sAsg, sBrk, sCnt, sNever, ownAt, sAppend, sPop, sPopAt, sPut, sAug, sAugAt, sExt, sRNil, sRCons, sPar2, sPar3, callS, sRef, refSl, argSl, putBack, putB, refAt, outs, endF, defS, addG, subG, mulG, modG, fdivG, powG, ltG, leG, gtG, geG, isG, isnotG, okB_iff, negG, ixG, lenG, listG, tupleG, intG, absG, isNonD, ownOr_t, ownOr_f]) (rng1_small (by omega))) ef
  refine ⟨.own false [.int h', .int s'], ownOr b3' (nums.map .int), s4', s5', ?_⟩
  unfold lO
  generalize sFor _ _ _ = F at hfor ⊢
  generalize sSet 2 _ = S2 at e1 ⊢
  generalize sSet 3 _ = S3 at e3 ⊢
  simp only [sSeq, e1, bind_ok, e3, hfor]
theorem the_law (ns : List Int) (h1 : ns.length ≤ 63) (h2 : ∀ z ∈ ns, Builtin.Int.intBits z ≤ 1048576) : ∃ Γ, m_law [.scr ns] = .ok (Γ, .d (.bool true)) := by
  have hn : ∃ N : Nat, (if (if (4 : Int) < (ns.length : Int) then (4 : Int) else ns.length) > 1 then (if (4 : Int) < (ns.length : Int) then (4 : Int) else ns.length) else 1) = (N : Int) ∧ N ≤ 60 := by
    by_cases h4 : (4 : Int) < (ns.length : Int)
    · rw [if_pos h4]
      exact ⟨4, rfl, by decide⟩
    · rw [if_neg h4]
      by_cases h1' : (ns.length : Int) > 1
      · rw [if_pos h1']
        exact ⟨ns.length, rfl, by omega⟩
      · rw [if_neg h1']
        exact ⟨1, rfl, by decide⟩
  obtain ⟨N, hN, hN2⟩ := hn
  obtain ⟨G, ef, s1', s2', s3', s4', s5', s6', hG⟩ := forL_all (g := gN 1) (b := lO) (fun i Γ => ∃ s1 s2 s3 s4 s5 s6, Γ = [.scr ns, s1, s2, s3, s4, s5, s6]) (xs := rangeD 0 N) (Γ := [.scr ns, .un, .un, .un, .un, .un, .un]) ⟨_, _, _, _, _, _, rfl⟩ (fun i y Γ hy ⟨t1, t2, t3, t4, t5, t6, hΓ⟩ => by
    subst hΓ
    have hi : i < N := by
      have := (List.getElem?_eq_some_iff.mp hy).1
      rwa [rangeD_len] at this
    rw [rangeD_get hi, Int.zero_add] at hy
    cases hy
    obtain ⟨u2, u3, u4, u5, e⟩ := lO_ok ns i (by omega) t2 t3 t4 t5 t6
    exact ⟨_, _, rfl, e, _, _, _, _, _, _, rfl⟩)
  subst hG
  have hfor := sFor_of (s := sItA rng1 (sCons (sPub (sCallB max2G (sCons (sC (.int 1)) (sCons (sPub (sCallB min2G (sCons (sPub (sLenScr 0)) (sCons (sC (.int 4)) sNil)))) sNil)))) sNil)) (Γ := [.scr ns, .un, .un, .un, .un, .un, .un])
    (sItA_of (f := rng1) (xs := [.int (N : Int)]) (by
      rw [← hN]
      rfl) (rng1_small (by omega))) ef
  refine ⟨[.scr ns], ?_⟩
  unfold m_law b_law
  generalize sFor _ _ _ = F at hfor ⊢
  simp [Res.bind, sPub, sDat, pubR, sName, slD, sBor, sC, sBin, sBinN, sTst, asB, sAnd, sOr, sNot, sVal, sIf, sUn, sNil, sCons, starD, sStar, sTup, sLst, sNoO, sSomeO, sSl, sSlN, slG, sRev, sCallB, sLenScr, sIxScr, sChain, sSkip, sSeq, sCond, sSet, slotOf, sRet, sRetN, sDrop, gN, gNil', gCons', gTup', sAsg, sBrk, sCnt, sNever, ownAt, sAppend, sPop, sPopAt, sPut, sAug, sAugAt, sExt, sRNil, sRCons, sPar2, sPar3, callS, sRef, refSl, argSl, putBack, putB, refAt, outs, endF, defS, addG, subG, mulG, modG, fdivG, powG, ltG, leG, gtG, geG, isG, isnotG, okB_iff, negG, ixG, lenG, listG, tupleG, intG, absG, isNonD, hfor]
end Lk40
open PySem PySem.W PyProof.Rows
set_option maxHeartbeats 0 in
theorem PySem.Challenge.cw_skylineeffect_k40_count_effects_holds : PySem.Challenge.rw_skylineeffect_k40_count_effects.Holds := by
  w_on; o_law; k_head; (case hw => w_witness2)
  k_fill
  refine Mi.walkG (l := PySem.Challenge.rw_skylineeffect_k40_count_effects) (n := 63) (k := 5) (x := "_law_script") (m := Lk40.m_law) rfl (by decide) rfl ⟨rfl, by decide, by decide⟩ (fun w h Y => PySem.W.kIn_of Y) ?F Lk40.the_law
  case F =>
    intro w mg fa h KX G hmg
    refine' Lk40.all_mk KX G hmg ?a_is_integer ?l_is_integer ?c_is_integer ?k_is_integer ?a_stacks_by_size ?l_stacks_by_size ?c_stacks_by_size ?k_stacks_by_size ?a_cuts_by_length ?l_cuts_by_length ?c_cuts_by_length ?k_cuts_by_length ?a__law_pool ?l__law_pool ?c__law_pool ?k__law_pool ?a__law_take ?l__law_take ?c__law_take ?k__law_take ?a__law_words ?l__law_words ?c__law_words ?k__law_words ?a__law_shortens ?l__law_shortens ?c__law_shortens ?k__law_shortens ?a_are_numbers ?l_are_numbers ?c_are_numbers ?k_are_numbers ?a__law_numbers ?l__law_numbers ?c__law_numbers ?k__law_numbers ?a__law_is_shortest ?l__law_is_shortest ?c__law_is_shortest ?k__law_is_shortest ?a_check_sizes ?l_check_sizes ?c_check_sizes ?k_check_sizes ?a_count_effects ?l_count_effects ?c_count_effects ?k_count_effects ?a_law ?l_law ?c_law ?k_law ?z_abs ?z_all ?z_bool ?z_int ?z_isinstance ?z_len ?z_max ?z_min ?z_range ?z_sum ?z_tuple ?z_zip ?g_MOST_LENGTH ?g_MOST_NUMBERS
    (case a_is_integer => k_is); (case l_is_integer => k_is); (case c_is_integer => k_is); (case k_is_integer => k_is); (case a_stacks_by_size => k_is); (case l_stacks_by_size => k_is); (case c_stacks_by_size => k_is); (case k_stacks_by_size => k_is); (case a_cuts_by_length => k_is); (case l_cuts_by_length => k_is); (case c_cuts_by_length => k_is); (case k_cuts_by_length => k_is); (case a__law_pool => k_is); (case l__law_pool => k_is); (case c__law_pool => k_is); (case k__law_pool => k_is); (case a__law_take => k_is); (case l__law_take => k_is); (case c__law_take => k_is); (case k__law_take => k_is); (case a__law_words => k_is); (case l__law_words => k_is); (case c__law_words => k_is); (case k__law_words => k_is); (case a__law_shortens => k_is); (case l__law_shortens => k_is); (case c__law_shortens => k_is); (case k__law_shortens => k_is); (case a_are_numbers => k_is); (case l_are_numbers => k_is); (case c_are_numbers => k_is); (case k_are_numbers => k_is); (case a__law_numbers => k_is); (case l__law_numbers => k_is); (case c__law_numbers => k_is); (case k__law_numbers => k_is); (case a__law_is_shortest => k_is); (case l__law_is_shortest => k_is); (case c__law_is_shortest => k_is); (case k__law_is_shortest => k_is); (case a_check_sizes => k_is); (case l_check_sizes => k_is); (case c_check_sizes => k_is); (case k_check_sizes => k_is); (case a_count_effects => k_is); (case l_count_effects => k_is); (case c_count_effects => k_is); (case k_count_effects => k_is); (case a_law => k_is); (case l_law => k_is); (case c_law => k_is); (case k_law => k_is); (case z_abs => k_is); (case z_all => k_is); (case z_bool => k_is); (case z_int => k_is); (case z_isinstance => k_is); (case z_len => k_is); (case z_max => k_is); (case z_min => k_is); (case z_range => k_is); (case z_sum => k_is); (case z_tuple => k_is); (case z_zip => k_is); (case g_MOST_LENGTH => k_is); (case g_MOST_NUMBERS => k_is)
