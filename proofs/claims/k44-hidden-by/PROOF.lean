import PyProof.Rows.All
import Wide.All
import OpenK.AllK
import Wide.FinOn
import HandS.ForMost
import HandS.ForExc
import HandS.Evl
import HandS.Star
import HandS.Style
import HandS.TupAny
import HandS.IsInst
import HandS.Zip
import HandS.Lambda
import HandS.Wide
import HandS.TupMul
import HandS.WideBits
import KE.GoesMore
import KE.GoesEnumKw
import PyProof.Rows.CallKwBuiltin
import HandS.EndBits
import HandS.EndTab
import KE.KNestM
import PyProof.RulesMatchSeq
import PyProof.Rows.MatchSeqLen
import KE.SortData
import PyProof.TupleOfSeq
import PyProof.ReprRoads
import HandS.Deep
import KE.KDictZip
import KE.GoesZip
import HandS.GenList
import HandS.MapObj
import HandS.Conv
import KE.GoesEnum
import KE.DataMinMax
import HandS.TryOnly
import HandS.ExcInit
import KE.KExcInit
import HandS.TryMany
import PySem.Challenge.RW_skylineeffect_k44_hidden_by
set_option Elab.async false
set_option linter.all false
set_option maxRecDepth 100000
set_option maxHeartbeats 4000000
namespace Mi
open PySem L2 Evl

abbrev D := PyData
/-- T: the tables of code objects that a law's lambdas are kept in; C: code objects of lambdas that are known here; M: data that is known to have stood earlier; F: the lambda that slots of the kind cl hold -/
class Tbl where
  T : List (Addr × Str)
  uniq : ∀ p ∈ T, ∀ q ∈ T, p.1 = q.1 → p.2 = q.2
  C : List (Addr × Str)
  M : Hp
  F : Addr
structure Tabs [Tbl] (H : Hp) : Prop where
  t : LamX.Tabs Tbl.T H
  c : ∀ p ∈ Tbl.C, H p.1 = some (LamX.CodeO p.1 p.2)
theorem tabs_upd [Tbl] {H : Hp} {a : Addr} {o : HO} (h : (∃ xs, H a = some (.lst xs)) ∨ H a = none) (t : Tabs H) : Tabs (upd H a o) := by
  have ne : ∀ {b : Addr} {u : HO}, H b = some u → (∀ xs, u ≠ .lst xs) → b ≠ a := fun {b u} e n z => by
    rcases h with ⟨xs, q⟩ | q
    · rw [z, q] at e; cases e; exact n xs rfl
    · rw [z, q] at e; cases e
  refine ⟨fun p hp => ?_, fun p hp => ?_⟩
  · obtain ⟨ps, h1, h2, h3⟩ := t.t p hp
    refine ⟨ps, by rw [upd_ne (ne h1 fun xs z => by cases z)]; exact h1, h2, fun pos cv hc => ?_⟩
    obtain ⟨c, e1, e2⟩ := h3 pos cv hc
    exact ⟨c, e1, by rw [upd_ne (ne e2 fun xs z => by unfold LamX.CodeO at z; cases z)]; exact e2⟩
  · rw [upd_ne (ne (t.c p hp) fun xs z => by unfold LamX.CodeO at z; cases z)]
    exact t.c p hp
/-! ### what stands for data -/
mutual
inductive Rp (K : PySem.W.Frag) (H : Hp) : V → D → Prop
  | non : Rp K H .non .none
  | bl (b : Bool) : Rp K H (.bl b) (.bool b)
  | int (i : Int) : Rp K H (.int i) (.int i)
  | str (x : Str) : Rp K H (.str x) (.str x)
  | lst {a : Addr} {xs : List V} {ds : List D} : H a = some (.lst xs) → RpAll K H xs ds → Rp K H (.ref a) (.list ds)
  | tup {a : Addr} {xs : List V} {ds : List D} : SqT K H a xs → RpAll K H xs ds → Rp K H (.ref a) (.tuple ds)
inductive RpAll (K : PySem.W.Frag) (H : Hp) : List V → List D → Prop
  | nil : RpAll K H [] []
  | cons {v : V} {vs : List V} {d : D} {ds : List D} : Rp K H v d → RpAll K H vs ds → RpAll K H (v :: vs) (d :: ds)
end
section
variable {K : PySem.W.Frag} {H H' : Hp}
mutual
theorem Rp.mono (e : Ex H H') : ∀ (x : D) (v : V), Rp K H v x → Rp K H' v x
  | .none, _, h => by cases h; exact .non
  | .bool b, _, h => by cases h; exact .bl b
  | .int i, _, h => by cases h; exact .int i
  | .str s, _, h => by cases h; exact .str s
  | .list ds, _, h => by
    cases h with
    | lst h1 h2 => exact .lst (e _ _ h1) (RpAll.mono e ds _ h2)
  | .tuple ds, _, h => by
    cases h with
    | tup h1 h2 => exact .tup (ex_t e h1) (RpAll.mono e ds _ h2)
  | .dict _, _, h => by cases h
theorem RpAll.mono (e : Ex H H') : ∀ (xs : List D) (vs : List V), RpAll K H vs xs → RpAll K H' vs xs
  | [], _, h => by cases h; exact .nil
  | d :: ds, _, h => by
    cases h with
    | cons h1 h2 => exact .cons (Rp.mono e d _ h1) (RpAll.mono e ds _ h2)
end
mutual
theorem Rp.dp : ∀ (x : D) (v : V), Rp K H v x → Dp K H v x
  | .none, _, h => by cases h; exact .non
  | .bool b, _, h => by cases h; exact .bl b
  | .int i, _, h => by cases h; exact .int i
  | .str s, _, h => by cases h; exact .str s
  | .list ds, _, h => by
    cases h with
    | lst h1 h2 => exact .lst (SqL.of h1) (RpAll.dp ds _ h2)
  | .tuple ds, _, h => by
    cases h with
    | tup h1 h2 => exact .tup h1 (RpAll.dp ds _ h2)
  | .dict _, _, h => by cases h
theorem RpAll.dp : ∀ (xs : List D) (vs : List V), RpAll K H vs xs → DpAll K H vs xs
  | [], _, h => by cases h; exact .nil
  | d :: ds, _, h => by
    cases h with
    | cons h1 h2 => exact .cons (Rp.dp d _ h1) (RpAll.dp ds _ h2)
end
theorem Rp.m {x : D} {v : V} (h : Rp K H v x) (e : Ex H H') : Rp K H' v x := Rp.mono e _ _ h
theorem RpAll.m {x : List D} {v : List V} (h : RpAll K H v x) (e : Ex H H') : RpAll K H' v x := RpAll.mono e _ _ h
theorem RpAll.len : ∀ {xs : List D} {vs : List V}, RpAll K H vs xs → vs.length = xs.length
  | [], _, h => by cases h; rfl
  | _ :: _, _, h => by
    cases h with
    | cons _ h2 => simp [RpAll.len h2]
theorem RpAll.app : ∀ {xs ys : List D} {vs ws : List V}, RpAll K H vs xs → RpAll K H ws ys → RpAll K H (vs ++ ws) (xs ++ ys)
  | [], _, _, _, h, h' => by cases h; exact h'
  | _ :: _, _, _, _, h, h' => by
    cases h with
    | cons h1 h2 => exact .cons h1 (RpAll.app h2 h')
theorem RpAll.one {x : D} {v : V} (h : Rp K H v x) : RpAll K H [v] [x] := .cons h .nil
theorem RpAll.get : ∀ {xs : List D} {vs : List V} {i : Nat} {x : D}, RpAll K H vs xs → xs[i]? = some x → ∃ v, vs[i]? = some v ∧ Rp K H v x
  | [], _, i, _, _, e => by simp at e
  | d :: ds, _, 0, x, h, e => by
    cases h with
    | cons h1 h2 => simp at e; subst e; exact ⟨_, rfl, h1⟩
  | d :: ds, _, i + 1, x, h, e => by
    cases h with
    | cons h1 h2 =>
      obtain ⟨v, e1, r⟩ := RpAll.get (i := i) h2 (by simpa using e)
      exact ⟨v, by simpa using e1, r⟩
theorem RpAll.get' {xs : List D} {vs : List V} {i : Nat} {v : V} (h : RpAll K H vs xs) (e : vs[i]? = some v) : ∃ x, xs[i]? = some x ∧ Rp K H v x := by
  have hl := h.len
  obtain ⟨hi, e1⟩ := List.getElem?_eq_some_iff.mp e
  have hi' : i < xs.length := by omega
  obtain ⟨w, e2, r⟩ := h.get (List.getElem?_eq_getElem hi')
  rw [e] at e2; cases e2
  exact ⟨_, List.getElem?_eq_getElem hi', r⟩
theorem RpAll.take : ∀ {xs : List D} {vs : List V} (n : Nat), RpAll K H vs xs → RpAll K H (vs.take n) (xs.take n)
  | _, _, 0, h => by simp; exact .nil
  | [], _, _ + 1, h => by cases h; exact .nil
  | d :: ds, _, n + 1, h => by
    cases h with
    | cons h1 h2 => simp; exact .cons h1 (RpAll.take n h2)
theorem RpAll.drop : ∀ {xs : List D} {vs : List V} (n : Nat), RpAll K H vs xs → RpAll K H (vs.drop n) (xs.drop n)
  | _, _, 0, h => by simpa using h
  | [], _, _ + 1, h => by cases h; exact .nil
  | d :: ds, _, n + 1, h => by
    cases h with
    | cons h1 h2 => simp; exact RpAll.drop n h2
theorem RpAll.set : ∀ {xs : List D} {vs : List V} (n : Nat) {x : D} {v : V}, RpAll K H vs xs → Rp K H v x → RpAll K H (vs.set n v) (xs.set n x)
  | [], _, n, _, _, h, _ => by cases h; simp; exact .nil
  | d :: ds, _, 0, x, v, h, r => by
    cases h with
    | cons h1 h2 => simp; exact .cons r h2
  | d :: ds, _, n + 1, x, v, h, r => by
    cases h with
    | cons h1 h2 => simp; exact .cons h1 (RpAll.set n h2 r)
theorem RpAll.eraseIdx : ∀ {xs : List D} {vs : List V} (n : Nat), RpAll K H vs xs → RpAll K H (vs.eraseIdx n) (xs.eraseIdx n)
  | [], _, n, h => by cases h; simp; exact .nil
  | d :: ds, _, 0, h => by
    cases h with
    | cons h1 h2 => simp; exact h2
  | d :: ds, _, n + 1, h => by
    cases h with
    | cons h1 h2 => simp; exact .cons h1 (RpAll.eraseIdx n h2)
theorem RpAll.dropLast {xs : List D} {vs : List V} (h : RpAll K H vs xs) : RpAll K H vs.dropLast xs.dropLast := by
  rw [List.dropLast_eq_take, List.dropLast_eq_take, h.len]; exact h.take _
theorem RpAll.rev : ∀ {xs : List D} {vs : List V}, RpAll K H vs xs → RpAll K H vs.reverse xs.reverse
  | [], _, h => by cases h; exact .nil
  | d :: ds, _, h => by
    cases h with
    | cons h1 h2 => simp; exact (RpAll.rev h2).app (.one h1)
theorem RpAll.rep {xs : List D} {vs : List V} (h : RpAll K H vs xs) : ∀ k : Nat, RpAll K H (List.replicate k vs).flatten (List.replicate k xs).flatten
  | 0 => by simp; exact .nil
  | k + 1 => by
    rw [List.replicate_succ, List.replicate_succ, List.flatten_cons, List.flatten_cons]
    exact h.app (h.rep k)
end

/-! ### slots, results -/
inductive Sl where
  | un
  | d (x : D)
  | own (io : Bool) (xs : List D)
  | scr (ns : List Int)
  | cl
abbrev Ga := List Sl
inductive Res (α : Type) where
  | ok (a : α)
  | exc (c : Str) (x : D)
  | stuck
inductive R where
  | d (x : D)
  | f (xs : List D)
inductive Fl where
  | nx
  | rt (r : R)
  | bk
  | ct
def Res.bind {α β : Type} (r : Res α) (f : α → Res β) : Res β := match r with
  | .ok a => f a
  | .exc c x => .exc c x
  | .stuck => .stuck
@[simp] theorem bind_ok {α β : Type} (a : α) (f : α → Res β) : (Res.ok a).bind f = f a := rfl
@[simp] theorem bind_exc {α β : Type} (c : Str) (x : D) (f : α → Res β) : (Res.exc c x : Res α).bind f = .exc c x := rfl
@[simp] theorem bind_stuck {α β : Type} (f : α → Res β) : (Res.stuck : Res α).bind f = .stuck := rfl
def fieldOf (c : Str) : Str := if c = "InvalidSequence" ∨ c = "StepFailed" then "index" else if c = "InvalidCommand" then "word" else if c = "LimitExceeded" then "limit"
  else if c = "UnknownUser" ∨ c = "NothingToUndo" then "user" else if c = "UnknownName" then "name" else "value"

/-! ### the state -/
variable [Tbl]
structure Bg where
  He0 : Hp
  He : Hp
  io : Nat → Option Addr
def OwnOf (σ : L2.St) (Γ : Ga) (p : Addr) : Prop := ∃ (i : Nat) (b : Bool) (xs : List D), Γ[i]? = some (Sl.own b xs) ∧ σ[i]? = some (some (.ref p))
/-- no tables among the data -/
def NoT (H0 : Hp) : Prop := ∀ p ps, H0 p ≠ some (.tbl ps)
omit [Tbl] in
theorem NoT.upd {H0 : Hp} {a : Addr} {o : HO} (h : NoT H0) (ho : ∀ ps, o ≠ .tbl ps) : NoT (upd H0 a o) := fun p ps e => by
  unfold L2.upd at e
  split at e
  · exact ho ps (Option.some.inj e)
  · exact h p ps e
structure Past (H0 : Hp) : Prop where
  ex : Ex Tbl.M H0
  nt : NoT H0
theorem Past.upd {H0 : Hp} {a : Addr} {o : HO} (h : Past H0) (e : Ex H0 (upd H0 a o)) (ho : ∀ ps, o ≠ .tbl ps) : Past (upd H0 a o) := ⟨h.ex.trans e, h.nt.upd ho⟩
structure Grow (O : Addr → Prop) (H0 H H0' H' : Hp) : Prop where
  ex0 : Ex H0 H0'
  keep : ∀ p o, H p = some o → ¬ O p → (∀ ps, o ≠ .tbl ps) → H' p = some o
  old : ∀ p, H p ≠ none → ¬ O p → H0' p = H0 p
  live : ∀ p, H p ≠ none → H' p ≠ none
  tab : Tabs H → Tabs H'
  nt : NoT H0 → NoT H0'
theorem Grow.refl (O : Addr → Prop) (H0 H : Hp) : Grow O H0 H H0 H := ⟨Ex.refl _, fun _ _ h _ _ => h, fun _ _ _ => rfl, fun _ h => h, fun h => h, fun h => h⟩
theorem Grow.trans {O O' : Addr → Prop} {H0 H H01 H1 H02 H2 : Hp} (a : Grow O H0 H H01 H1) (b : Grow O' H01 H1 H02 H2) (h : ∀ p, O' p → O p ∨ H p = none) : Grow O H0 H H02 H2 where
  ex0 := a.ex0.trans b.ex0
  keep := fun p o e n y => b.keep p o (a.keep p o e n y) (fun z => (h p z).elim n fun q => by rw [e] at q; cases q) y
  old := fun p e n => by
    have n' : ¬ O' p := fun z => (h p z).elim n e
    rw [b.old p (a.live p e) n', a.old p e n]
  live := fun p e => b.live p (a.live p e)
  tab := fun t => b.tab (a.tab t)
  nt := fun t => b.nt (a.nt t)
theorem Grow.wide {O O' : Addr → Prop} {H0 H H01 H1 : Hp} (a : Grow O H0 H H01 H1) (h : ∀ p, O p → O' p) : Grow O' H0 H H01 H1 :=
  ⟨a.ex0, fun p o e n => a.keep p o e fun z => n (h p z), fun p e n => a.old p e fun z => n (h p z), a.live, a.tab, a.nt⟩

structure EnvOk (K : PySem.W.Frag) (B : Bg) (σ : L2.St) (Γ : Ga) (H0 H : Hp) : Prop where
  sub : Ex H0 H
  len : Γ.length = σ.length
  dat : ∀ (i : Nat) x, Γ[i]? = some (.d x) → ∃ v, σ[i]? = some (some v) ∧ Rp K H0 v x
  scr : ∀ (i : Nat) ns, Γ[i]? = some (.scr ns) → ∃ a, σ[i]? = some (some (.ref a)) ∧ SqL K H0 a (ns.map V.int)
  own : ∀ (i : Nat) b xs, Γ[i]? = some (.own b xs) → ∃ a vs, σ[i]? = some (some (.ref a)) ∧ H0 a = none ∧ H a = some (.lst vs) ∧ RpAll K H0 vs xs ∧ (b = true → B.io i = some a) ∧ (b = false → B.He a = none)
  apart : ∀ (i j : Nat) b c xs ys a, i ≠ j → Γ[i]? = some (.own b xs) → Γ[j]? = some (.own c ys) → σ[i]? = some (some (.ref a)) → σ[j]? ≠ some (some (.ref a))
  grow : Grow (fun p => ∃ i, B.io i = some p) B.He0 B.He H0 H
  tabs : Tabs H
  past : Past H0
  cl : ∀ i : Nat, Γ[i]? = some .cl → σ[i]? = some (some (.ref Tbl.F))

omit [Tbl] in
theorem cl_of_set {Γ : Ga} {j : Nat} {s : Sl} (hs : s ≠ .cl) (i : Nat) (h : (Γ.set j s)[i]? = some .cl) : Γ[i]? = some .cl := by
  rw [List.getElem?_set] at h
  split at h
  · split at h
    · exact absurd (Option.some.inj h) hs
    · cases h
  · exact h
def Less (Γ Γ' : Ga) : Prop := ∀ (i : Nat) b ys, Γ'[i]? = some (.own b ys) → ∃ xs, Γ[i]? = some (.own b xs)
theorem Less.refl (Γ : Ga) : Less Γ Γ := fun _ _ _ h => ⟨_, h⟩
theorem Less.trans {Γ Γ1 Γ2 : Ga} (a : Less Γ Γ1) (b : Less Γ1 Γ2) : Less Γ Γ2 := fun i c ys h => let ⟨_, h1⟩ := b i c ys h; a i c _ h1
theorem Less.own {Γ Γ' : Ga} (l : Less Γ Γ') {σ : L2.St} {p : Addr} (h : OwnOf σ Γ' p) : OwnOf σ Γ p := by
  obtain ⟨i, b, xs, h1, h2⟩ := h
  obtain ⟨ys, h3⟩ := l i b xs h1
  exact ⟨i, b, ys, h3, h2⟩

section
variable {K : PySem.W.Frag} {B : Bg} {σ : L2.St} {Γ Γ' : Ga} {H0 H H0' H' : Hp}
theorem EnvOk.ownLive (ok : EnvOk K B σ Γ H0 H) {p : Addr} (h : OwnOf σ Γ p) : H p ≠ none ∧ H0 p = none := by
  obtain ⟨i, b, xs, h1, h2⟩ := h
  obtain ⟨a, vs, e1, e2, e3, _⟩ := ok.own i b xs h1
  rw [h2] at e1; cases e1
  exact ⟨by rw [e3]; simp, e2⟩
theorem EnvOk.ioOr (ok : EnvOk K B σ Γ H0 H) {p : Addr} (h : OwnOf σ Γ p) : (∃ i, B.io i = some p) ∨ B.He p = none := by
  obtain ⟨i, b, xs, h1, h2⟩ := h
  obtain ⟨a, vs, e1, e2, e3, e4, e5, e6⟩ := ok.own i b xs h1
  rw [h2] at e1; cases e1
  cases b with
  | true => exact .inl ⟨i, e5 rfl⟩
  | false => exact .inr (e6 rfl)
theorem EnvOk.step (ok : EnvOk K B σ Γ H0 H) (g : Grow (OwnOf σ Γ) H0 H H0' H') (sub : Ex H0' H')
    (hd : ∀ (i : Nat) x, Γ'[i]? = some (.d x) → Γ[i]? = some (.d x) ∨ ∃ v, σ[i]? = some (some v) ∧ Rp K H0' v x)
    (hs : ∀ (i : Nat) ns, Γ'[i]? = some (.scr ns) → Γ[i]? = some (.scr ns))
    (ho : ∀ (i : Nat) b ys, Γ'[i]? = some (.own b ys) → ∃ xs, Γ[i]? = some (.own b xs) ∧ ∀ a, σ[i]? = some (some (.ref a)) → H0' a = none ∧ ∃ vs, H' a = some (.lst vs) ∧ RpAll K H0' vs ys) (hl : Γ'.length = Γ.length := by simp) (hc : ∀ i : Nat, Γ'[i]? = some .cl → Γ[i]? = some .cl := by first | exact fun _ h => h | exact cl_of_set (by nofun)) : EnvOk K B σ Γ' H0' H' where
  sub := sub
  len := hl.trans ok.len
  dat := fun i x e => by
    rcases hd i x e with h | h
    · obtain ⟨v, e1, r⟩ := ok.dat i x h
      exact ⟨v, e1, r.m g.ex0⟩
    · exact h
  scr := fun i ns e => by
    obtain ⟨a, e1, r⟩ := ok.scr i ns (hs i ns e)
    exact ⟨a, e1, ex_l g.ex0 r⟩
  own := fun i b ys e => by
    obtain ⟨xs, e1, h⟩ := ho i b ys e
    obtain ⟨a, vs, q1, q2, q3, q4, q5, q6⟩ := ok.own i b xs e1
    obtain ⟨n0, ws, w1, w2⟩ := h a q1
    exact ⟨a, ws, q1, n0, w1, w2, q5, q6⟩
  apart := fun i j b c xs ys a hij e1 e2 => by
    obtain ⟨_, h1, _⟩ := ho i b xs e1
    obtain ⟨_, h2, _⟩ := ho j c ys e2
    exact ok.apart i j b c _ _ a hij h1 h2
  grow := ok.grow.trans g fun p z => ok.ioOr z
  tabs := g.tab ok.tabs
  past := ⟨ok.past.ex.trans g.ex0, g.nt ok.past.nt⟩
  cl := fun i h => ok.cl i (hc i h)
/-- the same slots; the owned lists untouched -/
theorem EnvOk.same (ok : EnvOk K B σ Γ H0 H) (g : Grow (fun _ => False) H0 H H0' H') (sub : Ex H0' H') : EnvOk K B σ Γ H0' H' :=
  ok.step (g.wide fun _ h => h.elim) sub (fun _ _ h => .inl h) (fun _ _ h => h) fun i b ys h => ⟨ys, h, fun a e => by
    obtain ⟨a', vs, q1, q2, q3, q4, _⟩ := ok.own i b ys h
    rw [e] at q1; cases q1
    refine ⟨?_, vs, g.keep _ _ q3 id nofun, q4.m g.ex0⟩
    rw [g.old a (by rw [q3]; simp) id]; exact q2⟩
/-- a new object that is data -/
theorem Grow.data {O : Addr → Prop} {p : Addr} {o : HO} (h : H p = none) (sub : Ex H0 H) (ho : ∀ ps, o ≠ .tbl ps := by intro _ z; cases z) : Grow O H0 H (upd H0 p o) (upd H p o) :=
  ⟨Ex.new (fresh_back sub h), fun q u e _ _ => by rw [upd_ne (ne_of_none e h)]; exact e, fun q e _ => upd_ne fun z => e (by rw [z]; exact h),
    fun q e => by
      unfold upd; split
      · simp
      · exact e, tabs_upd (.inr h), fun t => t.upd ho⟩
/-- a new object that is not yet data -/
theorem Grow.fresh {O : Addr → Prop} {p : Addr} {o : HO} (h : H p = none) : Grow O H0 H H0 (upd H p o) :=
  ⟨Ex.refl _, fun q u e _ _ => by rw [upd_ne (ne_of_none e h)]; exact e, fun q e _ => rfl,
    fun q e => by
      unfold upd; split
      · simp
      · exact e, tabs_upd (.inr h), fun t => t⟩
theorem Ex.upd2 {p : Addr} {o : HO} (h : Ex H0 H) : Ex (upd H0 p o) (upd H p o) := fun q u e => by
  unfold upd at e ⊢
  split
  · rename_i z; rw [if_pos z] at e; exact e
  · rename_i z; rw [if_neg z] at e; exact h q u e
theorem Ex.upd1 {p : Addr} {o : HO} (h : Ex H0 H) (n : H0 p = none) : Ex H0 (upd H p o) := h.mut n
end

/-! ### what is wanted -/
section
variable (X : Cx) (B : Bg) (E : XK)
def XW (c : Str) (x : D) : Prop := ∀ C d v H0' H', X.mg c = some (.ref C) → H' d = some (.xd [(fieldOf c, v)]) → Rp X.K H0' v x → Ex H0' H' → Grow (fun p => ∃ i, B.io i = some p) B.He0 B.He H0' H' → E (.ref C) (some d) H'
/-- what is known of a value: data; a new list -/
inductive RV (K : PySem.W.Frag) (H0 H H0' H' : Hp) : R → V → Prop
  | d {x : D} {v : V} : Rp K H0' v x → RV K H0 H H0' H' (.d x) v
  | f {xs : List D} {a : Addr} {vs : List V} : H a = none → H0' a = none → H' a = some (.lst vs) → RpAll K H0' vs xs → RV K H0 H H0' H' (.f xs) (.ref a)
def EW (σ : L2.St) (Γ : Ga) (H0 H : Hp) (r : Res (Ga × R)) (Q : VK) : Prop := match r with
  | .ok (Γ', x) => ∀ v H0' H', EnvOk X.K B σ Γ' H0' H' → Grow (OwnOf σ Γ) H0 H H0' H' → Less Γ Γ' → RV X.K H0 H H0' H' x v → Q v H'
  | .exc c x => XW X B E c x
  | .stuck => False
def DW (σ : L2.St) (Γ : Ga) (H0 H : Hp) (r : Res (Ga × D)) (Q : VK) : Prop := match r with
  | .ok (Γ', x) => ∀ v H0' H', EnvOk X.K B σ Γ' H0' H' → Grow (OwnOf σ Γ) H0 H H0' H' → Less Γ Γ' → Rp X.K H0' v x → Q v H'
  | .exc c x => XW X B E c x
  | .stuck => False
def TW (σ : L2.St) (Γ : Ga) (H0 H : Hp) (r : Res (Ga × Bool)) (Q : Bool → Hp → Prop) : Prop := match r with
  | .ok (Γ', b) => ∀ H0' H', EnvOk X.K B σ Γ' H0' H' → Grow (OwnOf σ Γ) H0 H H0' H' → Less Γ Γ' → Q b H'
  | .exc c x => XW X B E c x
  | .stuck => False
def AW (σ : L2.St) (Γ : Ga) (H0 H : Hp) (r : Res (Ga × List D)) (Q : List V → Hp → Prop) : Prop := match r with
  | .ok (Γ', xs) => ∀ vs H0' H', EnvOk X.K B σ Γ' H0' H' → Grow (OwnOf σ Γ) H0 H H0' H' → Less Γ Γ' → RpAll X.K H0' vs xs → Q vs H'
  | .exc c x => XW X B E c x
  | .stuck => False
end
structure JE (X : Cx) (E : XK) (e : Expr) (s : Ga → Res (Ga × R)) : Prop where
  ex : ∃ t, PE X e t ∧ ∀ B σ Γ H0 H Q, EnvOk X.K B σ Γ H0 H → EW X B E σ Γ H0 H (s Γ) Q → t σ H Q
structure JD (X : Cx) (E : XK) (e : Expr) (s : Ga → Res (Ga × D)) : Prop where
  ex : ∃ t, PE X e t ∧ ∀ B σ Γ H0 H Q, EnvOk X.K B σ Γ H0 H → DW X B E σ Γ H0 H (s Γ) Q → t σ H Q
structure JT (X : Cx) (E : XK) (e : Expr) (s : Ga → Res (Ga × Bool)) : Prop where
  ex : ∃ t, PT X e t ∧ ∀ B σ Γ H0 H Q, EnvOk X.K B σ Γ H0 H → TW X B E σ Γ H0 H (s Γ) Q → t σ H Q
structure JA (X : Cx) (E : XK) (es : List Expr) (s : Ga → Res (Ga × List D)) : Prop where
  ex : ∃ t, PA X es t ∧ ∀ B σ Γ H0 H Q, EnvOk X.K B σ Γ H0 H → AW X B E σ Γ H0 H (s Γ) Q → t σ H Q

def pubR : R → D
  | .d x => x
  | .f xs => .list xs
def sPub (s : Ga → Res (Ga × R)) : Ga → Res (Ga × D) := fun Γ => (s Γ).bind fun p => .ok (p.1, pubR p.2)
def sDat (s : Ga → Res (Ga × D)) : Ga → Res (Ga × R) := fun Γ => (s Γ).bind fun p => .ok (p.1, .d p.2)

section
variable {X : Cx} {E : XK} {e a b : Expr} {B : Bg} {σ : L2.St} {Γ Γ1 : Ga} {H0 H H01 H1 : Hp}
/-- a new list is made data -/
theorem pub_ok {K : PySem.W.Frag} {x : R} {v : V} (ok0 : EnvOk K B σ Γ H0 H) (ok : EnvOk K B σ Γ1 H01 H1) (g : Grow (OwnOf σ Γ) H0 H H01 H1) (l : Less Γ Γ1) (r : RV K H0 H H01 H1 x v) :
    ∃ H02, EnvOk K B σ Γ1 H02 H1 ∧ Grow (OwnOf σ Γ) H0 H H02 H1 ∧ Rp K H02 v (pubR x) := by
  cases r with
  | d r => exact ⟨H01, ok, g, r⟩
  | @f xs a vs na n0 e r =>
    have ex : Ex H01 (upd H01 a (.lst vs)) := Ex.new n0
    have sub : Ex (upd H01 a (.lst vs)) H1 := fun q u eq => by
      unfold upd at eq
      split at eq
      · rename_i z; cases eq; rw [z]; exact e
      · exact ok.sub q u eq
    have no : ¬ OwnOf σ Γ1 a := fun z => (ok0.ownLive (l.own z)).1 na
    have hb : B.He a = none := by
      cases q : B.He a with
      | none => rfl
      | some o => exact absurd na (ok0.grow.live a (by rw [q]; simp))
    have g2 : Grow (fun p => p = a) H01 H1 (upd H01 a (.lst vs)) H1 := ⟨ex, fun _ _ q _ _ => q, fun p _ n => upd_ne n, fun _ q => q, fun q => q, fun q => q.upd (by nofun)⟩
    refine ⟨upd H01 a (.lst vs), ?_, ?_, .lst upd_same (r.m ex)⟩
    · refine ⟨sub, ok.len, fun i x q => ?_, fun i ns q => ?_, fun i b xs q => ?_, ok.apart, ok.grow.trans g2 fun p z => .inr (by rw [z]; exact hb), ok.tabs, ok.past.upd ex (by nofun), ok.cl⟩
      · obtain ⟨v, e1, r1⟩ := ok.dat i x q
        exact ⟨v, e1, r1.m ex⟩
      · obtain ⟨v, e1, r1⟩ := ok.scr i ns q
        exact ⟨v, e1, ex_l ex r1⟩
      · obtain ⟨a', ws, q1, q2, q3, q4, q5, q6⟩ := ok.own i b xs q
        refine ⟨a', ws, q1, ?_, q3, q4.m ex, q5, q6⟩
        rw [upd_ne fun z => no ⟨i, b, xs, q, by rw [← z]; exact q1⟩]; exact q2
    · exact g.trans g2 fun p z => .inr (by rw [z]; exact na)
end
end Mi
namespace Mi
open PySem L2 Evl
variable [Tbl]

/-- a value that is read at once: data, or a list of the def's own -/
def RpB (K : PySem.W.Frag) (H0 H : Hp) (v : V) (x : D) : Prop := Rp K H0 v x ∨ ∃ a vs xs, v = .ref a ∧ x = .list xs ∧ H a = some (.lst vs) ∧ RpAll K H0 vs xs
section
variable {K : PySem.W.Frag} {H0 H : Hp} {v : V} {x : D}
omit [Tbl] in
theorem RpB.dp (r : RpB K H0 H v x) (s : Ex H0 H) : Dp K H v x := by
  rcases r with r | ⟨a, vs, xs, rfl, rfl, e, r⟩
  · exact (r.m s).dp
  · exact .lst (SqL.of e) (r.m s).dp
omit [Tbl] in
theorem RpB.lst {xs : List D} (r : RpB K H0 H v (.list xs)) (s : Ex H0 H) : ∃ a vs, v = .ref a ∧ H a = some (.lst vs) ∧ RpAll K H0 vs xs := by
  rcases r with r | ⟨a, vs, ys, rfl, e, h, r⟩
  · cases r with
    | lst h1 h2 => exact ⟨_, _, rfl, s _ _ h1, h2⟩
  · cases e; exact ⟨a, vs, rfl, h, r⟩
omit [Tbl] in
theorem RpB.tup {xs : List D} (r : RpB K H0 H v (.tuple xs)) (s : Ex H0 H) : ∃ a vs, v = .ref a ∧ SqT K H a vs ∧ RpAll K H0 vs xs := by
  rcases r with r | ⟨a, vs, ys, rfl, e, h, r⟩
  · cases r with
    | tup h1 h2 => exact ⟨_, _, rfl, ex_t s h1, h2⟩
  · cases e
omit [Tbl] in
theorem RpB.int {i : Int} (r : RpB K H0 H v (.int i)) : v = .int i := by
  rcases r with r | ⟨a, vs, ys, rfl, e, h, r⟩
  · cases r; rfl
  · cases e
omit [Tbl] in
theorem RpB.bl {i : Bool} (r : RpB K H0 H v (.bool i)) : v = .bl i := by
  rcases r with r | ⟨a, vs, ys, rfl, e, h, r⟩
  · cases r; rfl
  · cases e
omit [Tbl] in
theorem RpB.str {i : Str} (r : RpB K H0 H v (.str i)) : v = .str i := by
  rcases r with r | ⟨a, vs, ys, rfl, e, h, r⟩
  · cases r; rfl
  · cases e
omit [Tbl] in
theorem RpB.non (r : RpB K H0 H v .none) : v = .non := by
  rcases r with r | ⟨a, vs, ys, rfl, e, h, r⟩
  · cases r; rfl
  · cases e
omit [Tbl] in
theorem Rp.ofInt {i : Int} (r : Rp K H0 v (.int i)) : v = .int i := by cases r; rfl
omit [Tbl] in
theorem Rp.ofBl {i : Bool} (r : Rp K H0 v (.bool i)) : v = .bl i := by cases r; rfl
omit [Tbl] in
theorem Rp.ofStr {i : Str} (r : Rp K H0 v (.str i)) : v = .str i := by cases r; rfl
omit [Tbl] in
theorem Rp.ofNon (r : Rp K H0 v .none) : v = .non := by cases r; rfl
def isNonD : D → Bool
  | .none => true
  | _ => false
omit [Tbl] in
theorem Rp.isNon (r : RpB K H0 H v x) : decide (v = .non) = isNonD x := by
  rcases r with r | ⟨a, vs, ys, rfl, rfl, h, r⟩
  · cases r <;> simp [isNonD]
  · simp [isNonD]
end
def BW (X : Cx) (B : Bg) (E : XK) (σ : L2.St) (Γ : Ga) (H0 H : Hp) (r : Res (Ga × D)) (Q : VK) : Prop := match r with
  | .ok (Γ', x) => ∀ v H0' H', EnvOk X.K B σ Γ' H0' H' → Grow (OwnOf σ Γ) H0 H H0' H' → Less Γ Γ' → RpB X.K H0' H' v x → Q v H'
  | .exc c x => XW X B E c x
  | .stuck => False
structure JB (X : Cx) (E : XK) (e : Expr) (s : Ga → Res (Ga × D)) : Prop where
  ex : ∃ t, PE X e t ∧ ∀ B σ Γ H0 H Q, EnvOk X.K B σ Γ H0 H → BW X B E σ Γ H0 H (s Γ) Q → t σ H Q
/-- what is wanted, whatever it is of -/
structure WOk (X : Cx) (B : Bg) (E : XK) (σ : L2.St) {β : Type} (W : Ga → Hp → Hp → Res β → Prop) : Prop where
  exc : ∀ Γ H0 H c x, W Γ H0 H (.exc c x) → XW X B E c x
  stuck : ∀ Γ H0 H, ¬ W Γ H0 H .stuck
  shift : ∀ Γ H0 H Γ1 H01 H1 r, EnvOk X.K B σ Γ H0 H → Grow (OwnOf σ Γ) H0 H H01 H1 → Less Γ Γ1 → W Γ H0 H r → W Γ1 H01 H1 r
section
variable {X : Cx} {B : Bg} {E : XK} {σ : L2.St}
theorem RV.back {K : PySem.W.Frag} {H0 H H01 H1 H02 H2 : Hp} {r : R} {v : V} {O : Addr → Prop} (g : Grow O H0 H H01 H1) (h : RV K H01 H1 H02 H2 r v) : RV K H0 H H02 H2 r v := by
  cases h with
  | d r => exact .d r
  | f n n0 e r => exact .f (by
      cases q : H _ with
      | none => rfl
      | some o => exact absurd n (g.live _ (by rw [q]; simp))) n0 e r
theorem shift_g {Γ Γ1 : Ga} {H0 H H01 H1 H02 H2 : Hp} (g : Grow (OwnOf σ Γ) H0 H H01 H1) (l : Less Γ Γ1) (g2 : Grow (OwnOf σ Γ1) H01 H1 H02 H2) : Grow (OwnOf σ Γ) H0 H H02 H2 := g.trans g2 fun p z => .inl (l.own z)
theorem wok_E {Q : VK} : WOk X B E σ fun Γ H0 H r => EW X B E σ Γ H0 H r Q where
  exc := fun _ _ _ _ _ h => h
  stuck := fun _ _ _ h => h
  shift := fun Γ H0 H Γ1 H01 H1 r ok g l w => by
    cases r with
    | stuck => exact w
    | exc c x => exact w
    | ok p => exact fun v H0' H' o' g' l' r' => w v H0' H' o' (shift_g g l g') (l.trans l') (r'.back g)
theorem wok_D {Q : VK} : WOk X B E σ fun Γ H0 H r => DW X B E σ Γ H0 H r Q where
  exc := fun _ _ _ _ _ h => h
  stuck := fun _ _ _ h => h
  shift := fun Γ H0 H Γ1 H01 H1 r ok g l w => by
    cases r with
    | stuck => exact w
    | exc c x => exact w
    | ok p => exact fun v H0' H' o' g' l' r' => w v H0' H' o' (shift_g g l g') (l.trans l') r'
theorem wok_B {Q : VK} : WOk X B E σ fun Γ H0 H r => BW X B E σ Γ H0 H r Q where
  exc := fun _ _ _ _ _ h => h
  stuck := fun _ _ _ h => h
  shift := fun Γ H0 H Γ1 H01 H1 r ok g l w => by
    cases r with
    | stuck => exact w
    | exc c x => exact w
    | ok p => exact fun v H0' H' o' g' l' r' => w v H0' H' o' (shift_g g l g') (l.trans l') r'
theorem wok_T {Q : Bool → Hp → Prop} : WOk X B E σ fun Γ H0 H r => TW X B E σ Γ H0 H r Q where
  exc := fun _ _ _ _ _ h => h
  stuck := fun _ _ _ h => h
  shift := fun Γ H0 H Γ1 H01 H1 r ok g l w => by
    cases r with
    | stuck => exact w
    | exc c x => exact w
    | ok p => exact fun H0' H' o' g' l' => w H0' H' o' (shift_g g l g') (l.trans l')
theorem wok_A {Q : List V → Hp → Prop} : WOk X B E σ fun Γ H0 H r => AW X B E σ Γ H0 H r Q where
  exc := fun _ _ _ _ _ h => h
  stuck := fun _ _ _ h => h
  shift := fun Γ H0 H Γ1 H01 H1 r ok g l w => by
    cases r with
    | stuck => exact w
    | exc c x => exact w
    | ok p => exact fun v H0' H' o' g' l' r' => w v H0' H' o' (shift_g g l g') (l.trans l') r'
section
variable {β : Type} {W : Ga → Hp → Hp → Res β → Prop} {Γ : Ga} {H0 H : Hp}
theorem d_then {t : TE} {s : Ga → Res (Ga × D)} {f : Ga × D → Res β} {Q : VK} (ha : ∀ B σ Γ H0 H Q, EnvOk X.K B σ Γ H0 H → DW X B E σ Γ H0 H (s Γ) Q → t σ H Q) (wo : WOk X B E σ W) (ok : EnvOk X.K B σ Γ H0 H) (w : W Γ H0 H ((s Γ).bind f))
    (k : ∀ Γ1 x v H01 H1, W Γ1 H01 H1 (f (Γ1, x)) → EnvOk X.K B σ Γ1 H01 H1 → Grow (OwnOf σ Γ) H0 H H01 H1 → Less Γ Γ1 → Rp X.K H01 v x → Q v H1) : t σ H Q := by
  refine ha B σ Γ H0 H Q ok ?_
  cases hs : s Γ with
  | stuck => rw [hs] at w; exact (wo.stuck _ _ _ w).elim
  | exc c x => rw [hs] at w; exact wo.exc _ _ _ _ _ w
  | ok p =>
    rw [hs] at w
    exact fun v H01 H1 ok1 g l r => k _ _ v H01 H1 (wo.shift _ _ _ _ _ _ _ ok g l w) ok1 g l r
theorem b_then {t : TE} {s : Ga → Res (Ga × D)} {f : Ga × D → Res β} {Q : VK} (ha : ∀ B σ Γ H0 H Q, EnvOk X.K B σ Γ H0 H → BW X B E σ Γ H0 H (s Γ) Q → t σ H Q) (wo : WOk X B E σ W) (ok : EnvOk X.K B σ Γ H0 H) (w : W Γ H0 H ((s Γ).bind f))
    (k : ∀ Γ1 x v H01 H1, W Γ1 H01 H1 (f (Γ1, x)) → EnvOk X.K B σ Γ1 H01 H1 → Grow (OwnOf σ Γ) H0 H H01 H1 → Less Γ Γ1 → RpB X.K H01 H1 v x → Q v H1) : t σ H Q := by
  refine ha B σ Γ H0 H Q ok ?_
  cases hs : s Γ with
  | stuck => rw [hs] at w; exact (wo.stuck _ _ _ w).elim
  | exc c x => rw [hs] at w; exact wo.exc _ _ _ _ _ w
  | ok p =>
    rw [hs] at w
    exact fun v H01 H1 ok1 g l r => k _ _ v H01 H1 (wo.shift _ _ _ _ _ _ _ ok g l w) ok1 g l r
theorem t_then {t : TT} {s : Ga → Res (Ga × Bool)} {f : Ga × Bool → Res β} {Q : Bool → Hp → Prop} (ha : ∀ B σ Γ H0 H Q, EnvOk X.K B σ Γ H0 H → TW X B E σ Γ H0 H (s Γ) Q → t σ H Q) (wo : WOk X B E σ W) (ok : EnvOk X.K B σ Γ H0 H) (w : W Γ H0 H ((s Γ).bind f))
    (k : ∀ Γ1 b H01 H1, W Γ1 H01 H1 (f (Γ1, b)) → EnvOk X.K B σ Γ1 H01 H1 → Grow (OwnOf σ Γ) H0 H H01 H1 → Less Γ Γ1 → Q b H1) : t σ H Q := by
  refine ha B σ Γ H0 H Q ok ?_
  cases hs : s Γ with
  | stuck => rw [hs] at w; exact (wo.stuck _ _ _ w).elim
  | exc c x => rw [hs] at w; exact wo.exc _ _ _ _ _ w
  | ok p =>
    rw [hs] at w
    exact fun H01 H1 ok1 g l => k _ _ H01 H1 (wo.shift _ _ _ _ _ _ _ ok g l w) ok1 g l
theorem a_then {t : TA} {s : Ga → Res (Ga × List D)} {f : Ga × List D → Res β} {Q : List V → Hp → Prop} (ha : ∀ B σ Γ H0 H Q, EnvOk X.K B σ Γ H0 H → AW X B E σ Γ H0 H (s Γ) Q → t σ H Q) (wo : WOk X B E σ W) (ok : EnvOk X.K B σ Γ H0 H) (w : W Γ H0 H ((s Γ).bind f))
    (k : ∀ Γ1 x v H01 H1, W Γ1 H01 H1 (f (Γ1, x)) → EnvOk X.K B σ Γ1 H01 H1 → Grow (OwnOf σ Γ) H0 H H01 H1 → Less Γ Γ1 → RpAll X.K H01 v x → Q v H1) : t σ H Q := by
  refine ha B σ Γ H0 H Q ok ?_
  cases hs : s Γ with
  | stuck => rw [hs] at w; exact (wo.stuck _ _ _ w).elim
  | exc c x => rw [hs] at w; exact wo.exc _ _ _ _ _ w
  | ok p =>
    rw [hs] at w
    exact fun v H01 H1 ok1 g l r => k _ _ v H01 H1 (wo.shift _ _ _ _ _ _ _ ok g l w) ok1 g l r
theorem e_then {t : TE} {s : Ga → Res (Ga × R)} {f : Ga × R → Res β} {Q : VK} (ha : ∀ B σ Γ H0 H Q, EnvOk X.K B σ Γ H0 H → EW X B E σ Γ H0 H (s Γ) Q → t σ H Q) (wo : WOk X B E σ W) (ok : EnvOk X.K B σ Γ H0 H) (w : W Γ H0 H ((s Γ).bind f))
    (k : ∀ Γ1 x v H01 H1, W Γ1 H01 H1 (f (Γ1, x)) → EnvOk X.K B σ Γ1 H01 H1 → Grow (OwnOf σ Γ) H0 H H01 H1 → Less Γ Γ1 → RV X.K H0 H H01 H1 x v → Q v H1) : t σ H Q := by
  refine ha B σ Γ H0 H Q ok ?_
  cases hs : s Γ with
  | stuck => rw [hs] at w; exact (wo.stuck _ _ _ w).elim
  | exc c x => rw [hs] at w; exact wo.exc _ _ _ _ _ w
  | ok p =>
    rw [hs] at w
    exact fun v H01 H1 ok1 g l r => k _ _ v H01 H1 (wo.shift _ _ _ _ _ _ _ ok g l w) ok1 g l r
end
end

/-! ### from one judgement to another -/
section
variable {X : Cx} {E : XK} {e a b c : Expr} {pos : Pos}
theorem JE.toD {s : Ga → Res (Ga × R)} (h : JE X E e s) : JD X E e (sPub s) := by
  obtain ⟨t, p, ha⟩ := h.ex
  refine ⟨t, p, fun B σ Γ H0 H Q ok w => ?_⟩
  refine ha B σ Γ H0 H Q ok ?_
  unfold sPub at w
  cases hs : s Γ with
  | stuck => rw [hs] at w; exact w
  | exc c x => rw [hs] at w; exact w
  | ok p =>
    rw [hs] at w
    intro v H01 H1 ok1 g l r
    obtain ⟨H02, o2, g2, r2⟩ := pub_ok ok ok1 g l r
    exact w v H02 H1 o2 g2 l r2
theorem JD.toE {s : Ga → Res (Ga × D)} (h : JD X E e s) : JE X E e (sDat s) := by
  obtain ⟨t, p, ha⟩ := h.ex
  refine ⟨t, p, fun B σ Γ H0 H Q ok w => ?_⟩
  exact d_then ha wok_E ok w fun Γ1 x v H01 H1 w1 ok1 g l r => w1 v H01 H1 ok1 (Grow.refl _ _ _) (Less.refl _) (.d r)
theorem JD.toB {s : Ga → Res (Ga × D)} (h : JD X E e s) : JB X E e s := by
  obtain ⟨t, p, ha⟩ := h.ex
  refine ⟨t, p, fun B σ Γ H0 H Q ok w => ?_⟩
  refine ha B σ Γ H0 H Q ok ?_
  cases hs : s Γ with
  | stuck => rw [hs] at w; exact w
  | exc c x => rw [hs] at w; exact w
  | ok p => rw [hs] at w; exact fun v H01 H1 ok1 g l r => w v H01 H1 ok1 g l (.inl r)
theorem JE.toB {s : Ga → Res (Ga × R)} (h : JE X E e s) : JB X E e (sPub s) := h.toD.toB

/-! ### names, constants -/
def sName (i : Nat) : Ga → Res (Ga × D) := fun Γ => match Γ[i]? with
  | some (.d x) => .ok (Γ, x)
  | some (.own false xs) => .ok (Γ.set i (.d (.list xs)), .list xs)
  | _ => .stuck
def slD (Γ : Ga) (i : Nat) : Res D := match Γ[i]? with
  | some (.d x) => .ok x
  | some (.own _ xs) => .ok (.list xs)
  | _ => .stuck
def sBor (i : Nat) : Ga → Res (Ga × D) := fun Γ => (slD Γ i).bind fun x => .ok (Γ, x)
theorem slD_ok {K : PySem.W.Frag} {B : Bg} {σ : L2.St} {Γ : Ga} {H0 H : Hp} {i : Nat} {x : D} (ok : EnvOk K B σ Γ H0 H) (h : slD Γ i = .ok x) : ∃ v, σ[i]? = some (some v) ∧ RpB K H0 H v x := by
  unfold slD at h
  split at h
  · rename_i y hy
    cases h
    obtain ⟨v, e, r⟩ := ok.dat i _ hy
    exact ⟨v, e, .inl r⟩
  · rename_i b xs hy
    cases h
    obtain ⟨a, vs, q1, q2, q3, q4, _⟩ := ok.own i _ _ hy
    exact ⟨_, q1, .inr ⟨a, vs, xs, rfl, rfl, q3, q4⟩⟩
  · cases h
theorem jb_name (i : Nat) {t : TE} (h : PE X e t) (ht : t = tVar i) : JB X E e (sBor i) := by
  subst ht
  refine ⟨_, h, fun B σ Γ H0 H Q ok w => ?_⟩
  unfold sBor at w
  cases hs : slD Γ i with
  | stuck => rw [hs] at w; exact w.elim
  | exc c x =>
    unfold slD at hs
    split at hs <;> cases hs
  | ok x =>
    rw [hs] at w
    obtain ⟨v, e1, r⟩ := slD_ok ok hs
    exact ⟨v, e1, w v H0 H ok (Grow.refl _ _ _) (Less.refl _) r⟩
theorem jd_name (i : Nat) {t : TE} (h : PE X e t) (ht : t = tVar i) : JD X E e (sName i) := by
  subst ht
  refine ⟨_, h, fun B σ Γ H0 H Q ok w => ?_⟩
  unfold sName at w
  split at w
  · rename_i x hx
    obtain ⟨v, e1, r⟩ := ok.dat i x hx
    exact ⟨v, e1, w v H0 H ok (Grow.refl _ _ _) (Less.refl _) r⟩
  · rename_i xs hx
    obtain ⟨a, vs, q1, q2, q3, q4, q5, q6⟩ := ok.own i _ _ hx
    have ex : Ex H0 (upd H0 a (.lst vs)) := Ex.new q2
    have hb : B.He a = none := q6 rfl
    have sub : Ex (upd H0 a (.lst vs)) H := fun q u eq => by
      unfold upd at eq
      split at eq
      · rename_i z; cases eq; rw [z]; exact q3
      · exact ok.sub q u eq
    have hi : i < Γ.length := (List.getElem?_eq_some_iff.mp hx).1
    have back : ∀ (j : Nat) s, (Γ.set i (.d (.list xs)))[j]? = some s → (j = i ∧ s = .d (.list xs)) ∨ (j ≠ i ∧ Γ[j]? = some s) := fun j s hj => by
      by_cases z : j = i
      · subst z; rw [List.getElem?_set_self hi] at hj; cases hj; exact .inl ⟨rfl, rfl⟩
      · rw [List.getElem?_set_ne (Ne.symm z)] at hj; exact .inr ⟨z, hj⟩
    have g2 : Grow (fun p => p = a) H0 H (upd H0 a (.lst vs)) H := ⟨ex, fun _ _ q _ _ => q, fun p _ n => upd_ne n, fun _ q => q, fun q => q, fun q => q.upd (by nofun)⟩
    have ok1 : EnvOk X.K B σ (Γ.set i (.d (.list xs))) (upd H0 a (.lst vs)) H := by
      refine ⟨sub, by rw [List.length_set]; exact ok.len, fun j x q => ?_, fun j ns q => ?_, fun j b ys q => ?_, fun j k b c ys zs p hjk h1 h2 => ?_, ok.grow.trans g2 fun p z => .inr (by rw [z]; exact hb), ok.tabs, ok.past.upd ex (by nofun), fun j h => ok.cl j (cl_of_set (by nofun) j h)⟩
      · rcases back j _ q with ⟨z, z2⟩ | ⟨z, z2⟩
        · cases z2; rw [z]; exact ⟨.ref a, q1, .lst upd_same (q4.m ex)⟩
        · obtain ⟨v, e1, r1⟩ := ok.dat j x z2
          exact ⟨v, e1, r1.m ex⟩
      · rcases back j _ q with ⟨z, z2⟩ | ⟨z, z2⟩
        · cases z2
        · obtain ⟨v, e1, r1⟩ := ok.scr j ns z2
          exact ⟨v, e1, ex_l ex r1⟩
      · rcases back j _ q with ⟨z, z2⟩ | ⟨z, z2⟩
        · cases z2
        · obtain ⟨a', ws, p1, p2, p3, p4, p5, p6⟩ := ok.own j b ys z2
          refine ⟨a', ws, p1, ?_, p3, p4.m ex, p5, p6⟩
          rw [upd_ne fun z3 => ok.apart j i _ _ _ _ a' z z2 hx p1 (by rw [q1, z3])]; exact p2
      · rcases back j _ h1 with ⟨z, z2⟩ | ⟨z, z2⟩
        · cases z2
        · rcases back k _ h2 with ⟨y, y2⟩ | ⟨y, y2⟩
          · cases y2
          · exact ok.apart j k _ _ _ _ p hjk z2 y2
    refine ⟨.ref a, q1, w (.ref a) _ H ok1 (g2.wide fun p z => ⟨i, false, xs, hx, by rw [z]; exact q1⟩) (fun j b ys q => ?_) (.lst upd_same (q4.m ex))⟩
    rcases back j _ q with ⟨z, z2⟩ | ⟨z, z2⟩
    · cases z2
    · exact ⟨ys, z2⟩
  · exact w.elim
def sC (x : D) : Ga → Res (Ga × D) := fun Γ => .ok (Γ, x)
theorem jd_const {x : D} {v : V} {t : TE} (h : PE X e t) (ht : t = tC v) (r : ∀ K H, Rp K H v x) : JD X E e (sC x) := by
  subst ht
  exact ⟨_, h, fun B σ Γ H0 H Q ok w => w v H0 H ok (Grow.refl _ _ _) (Less.refl _) (r _ _)⟩
theorem jd_int {i : Int} {j} : JD X E (.Constant (.int i) j pos) (sC (.int i)) := jd_const pe_int rfl fun _ _ => .int i
theorem jd_bl {i : Bool} {j} : JD X E (.Constant (.bool i) j pos) (sC (.bool i)) := jd_const pe_bl rfl fun _ _ => .bl i
theorem jd_non {j} : JD X E (.Constant .none j pos) (sC .none) := jd_const pe_non rfl fun _ _ => .non
theorem jd_str {x : Str} {j} : JD X E (.Constant (.str x) j pos) (sC (.str x)) := jd_const pe_str rfl fun _ _ => .str x

/-! ### two-place operations -/
def OpD (X : Cx) (E : XK) (f : Value → Value → Sem Value) (g : D → D → Res R) : Prop :=
  ∃ r, OpR X f r ∧ ∀ B σ Γ H0 H Q v u x y, EnvOk X.K B σ Γ H0 H → RpB X.K H0 H v x → RpB X.K H0 H u y → EW X B E σ Γ H0 H ((g x y).bind fun z => .ok (Γ, z)) Q → r v u H Q
def sBin (g : D → D → Res R) (sa sb : Ga → Res (Ga × D)) : Ga → Res (Ga × R) := fun Γ => (sa Γ).bind fun p => (sb p.1).bind fun q => (g p.2 q.2).bind fun z => .ok (q.1, z)
/-- the left one a name, read behind the right one -/
def sBinN (g : D → D → Res R) (i : Nat) (sb : Ga → Res (Ga × D)) : Ga → Res (Ga × R) := fun Γ => (slD Γ i).bind fun _ => (sb Γ).bind fun q => (slD q.1 i).bind fun x => (g x q.2).bind fun z => .ok (q.1, z)
theorem bin_sound {f : Value → Value → Sem Value} {g : D → D → Res R} {sa sb : Ga → Res (Ga × D)} {r : R2} {ta tb : TE}
    (hr : ∀ B σ Γ H0 H Q v u x y, EnvOk X.K B σ Γ H0 H → RpB X.K H0 H v x → RpB X.K H0 H u y → EW X B E σ Γ H0 H ((g x y).bind fun z => .ok (Γ, z)) Q → r v u H Q)
    (ha : ∀ B σ Γ H0 H Q, EnvOk X.K B σ Γ H0 H → DW X B E σ Γ H0 H (sa Γ) Q → ta σ H Q) (hb : ∀ B σ Γ H0 H Q, EnvOk X.K B σ Γ H0 H → BW X B E σ Γ H0 H (sb Γ) Q → tb σ H Q) :
    ∀ B σ Γ H0 H Q, EnvOk X.K B σ Γ H0 H → EW X B E σ Γ H0 H (sBin g sa sb Γ) Q → tOp r ta tb σ H Q := fun B σ Γ H0 H Q ok w => by
  show ta σ H fun x H1 => tb σ H1 fun y H2 => r x y H2 Q
  refine d_then ha wok_E ok w fun Γ1 x v H01 H1 w1 ok1 g1 l1 r1 => ?_
  refine b_then hb wok_E ok1 w1 fun Γ2 y u H02 H2 w2 ok2 g2 l2 r2 => ?_
  exact hr B σ Γ2 H02 H2 Q v u x y ok2 (.inl (r1.m g2.ex0)) r2 w2
theorem binN_sound {g : D → D → Res R} {i : Nat} {sb : Ga → Res (Ga × D)} {r : R2} {tb : TE}
    (hr : ∀ B σ Γ H0 H Q v u x y, EnvOk X.K B σ Γ H0 H → RpB X.K H0 H v x → RpB X.K H0 H u y → EW X B E σ Γ H0 H ((g x y).bind fun z => .ok (Γ, z)) Q → r v u H Q)
    (hb : ∀ B σ Γ H0 H Q, EnvOk X.K B σ Γ H0 H → BW X B E σ Γ H0 H (sb Γ) Q → tb σ H Q) :
    ∀ B σ Γ H0 H Q, EnvOk X.K B σ Γ H0 H → EW X B E σ Γ H0 H (sBinN g i sb Γ) Q → tOp r (tVar i) tb σ H Q := fun B σ Γ H0 H Q ok w => by
  unfold sBinN at w
  cases h0 : slD Γ i with
  | stuck => rw [h0] at w; exact w.elim
  | exc c x => unfold slD at h0; split at h0 <;> cases h0
  | ok x0 =>
    rw [h0] at w
    obtain ⟨v, ev, _⟩ := slD_ok ok h0
    refine ⟨v, ev, ?_⟩
    show tb σ H fun y H2 => r v y H2 Q
    refine b_then hb wok_E ok w fun Γ2 y u H02 H2 w2 ok2 g2 l2 r2 => ?_
    cases hs : slD Γ2 i with
    | stuck => simp only [hs] at w2; exact w2.elim
    | exc c x => unfold slD at hs; split at hs <;> cases hs
    | ok x =>
      simp only [hs] at w2
      obtain ⟨v', e', r'⟩ := slD_ok ok2 hs
      rw [ev] at e'; cases e'
      exact hr B σ Γ2 H02 H2 Q v u x y ok2 r' r2 w2
end
end Mi
namespace Mi
open PySem L2 Evl
variable [Tbl]

section
variable {X : Cx} {E : XK} {e a b c : Expr} {pos : Pos}
theorem opd_d {B : Bg} {σ : L2.St} {Γ : Ga} {H0 H : Hp} {Q : VK} {x : D} {v : V} (ok : EnvOk X.K B σ Γ H0 H) (w : EW X B E σ Γ H0 H (.ok (Γ, .d x)) Q) (r : Rp X.K H0 v x) : Q v H :=
  w v H0 H ok (Grow.refl _ _ _) (Less.refl _) (.d r)
/-- a new tuple as data -/
theorem opd_tup {B : Bg} {σ : L2.St} {Γ : Ga} {H0 H : Hp} {Q : VK} {xs : List D} {vs : List V} {p : Addr} (ok : EnvOk X.K B σ Γ H0 H) (w : EW X B E σ Γ H0 H (.ok (Γ, .d (.tuple xs))) Q) (r : RpAll X.K H0 vs xs) (hp : H p = none) : Q (.ref p) (upd H p (.tup vs)) :=
  w (.ref p) (upd H0 p (.tup vs)) _ (ok.same (Grow.data hp ok.sub) (Ex.upd2 ok.sub)) (Grow.data hp ok.sub) (Less.refl _) (.d (.tup (SqT.of upd_same) (r.m (Ex.new (fresh_back ok.sub hp)))))
/-- a new list -/
theorem opd_lst {B : Bg} {σ : L2.St} {Γ : Ga} {H0 H : Hp} {Q : VK} {xs : List D} {vs : List V} {p : Addr} (ok : EnvOk X.K B σ Γ H0 H) (w : EW X B E σ Γ H0 H (.ok (Γ, .f xs)) Q) (r : RpAll X.K H0 vs xs) (hp : H p = none) : Q (.ref p) (upd H p (.lst vs)) :=
  w (.ref p) H0 _ (ok.same (Grow.fresh hp) (Ex.upd1 ok.sub (fresh_back ok.sub hp))) (Grow.fresh hp) (Less.refl _) (.f hp (fresh_back ok.sub hp) upd_same r)

/-! ### arithmetic -/
def addG : D → D → Res R
  | .int i, .int j => .ok (.d (.int (i + j)))
  | .tuple xs, .tuple ys => if xs.length + ys.length ≤ sizeLine then .ok (.d (.tuple (xs ++ ys))) else .stuck
  | .list xs, .list ys => if xs.length + ys.length ≤ sizeLine then .ok (.f (xs ++ ys)) else .stuck
  | .str x, .str y => if x.length + y.length ≤ sizeLine then .ok (.d (.str (x ++ y))) else .stuck
  | _, _ => .stuck
theorem opd_add : OpD X E (binaryOp .Add) addG := by
  refine ⟨_, op_add.or (op_catA.or (op_cat.or op_add_str)), fun B σ Γ H0 H Q v u x y ok rx ry w => ?_⟩
  unfold addG at w
  split at w
  · cases rx.int; cases ry.int
    exact .inl ⟨_, _, rfl, rfl, opd_d ok w (.int _)⟩
  · split at w
    · rename_i xs ys hz
      obtain ⟨p, vs, rfl, h1, r1⟩ := rx.tup ok.sub
      obtain ⟨q, us, rfl, h2, r2⟩ := ry.tup ok.sub
      refine .inr (.inl ⟨p, q, vs, us, rfl, rfl, h1, h2, by rw [r1.len, r2.len]; exact hz, fun e => ?_, fun _ e => ?_, fun _ _ o ho => opd_tup ok w (r1.app r2) ho⟩)
      · subst e
        cases xs with
        | cons _ _ => cases r1
        | nil =>
          rcases ry with r | ⟨_, _, _, e1, e2, _⟩
          · exact opd_d ok w r
          · cases e2
      · subst e
        cases ys with
        | cons _ _ => cases r2
        | nil =>
          rw [List.append_nil] at w
          rcases rx with r | ⟨_, _, _, e1, e2, _⟩
          · exact opd_d ok w r
          · cases e2
    · exact w.elim
  · split at w
    · rename_i xs ys hz
      obtain ⟨p, vs, rfl, h1, r1⟩ := rx.lst ok.sub
      obtain ⟨q, us, rfl, h2, r2⟩ := ry.lst ok.sub
      exact .inr (.inr (.inl ⟨p, q, vs, us, rfl, rfl, h1, h2, by rw [r1.len, r2.len]; exact hz, fun o ho => opd_lst ok w (r1.app r2) ho⟩))
    · exact w.elim
  · split at w
    · rename_i hz
      cases rx.str; cases ry.str
      exact .inr (.inr (.inr ⟨_, _, rfl, rfl, hz, opd_d ok w (.str _)⟩))
    · exact w.elim
  · exact w.elim
def subG : D → D → Res R
  | .int i, .int j => .ok (.d (.int (i - j)))
  | _, _ => .stuck
theorem opd_sub : OpD X E (binaryOp .Sub) subG := by
  refine ⟨_, op_sub, fun B σ Γ H0 H Q v u x y ok rx ry w => ?_⟩
  unfold subG at w
  split at w
  · cases rx.int; cases ry.int
    exact ⟨_, _, rfl, rfl, opd_d ok w (.int _)⟩
  · exact w.elim
/-- a condition that the kernel does not try to reckon -/
noncomputable def okB (p : Prop) : Bool := @decide p (Classical.propDecidable p)
omit [Tbl] in
theorem okB_iff {p : Prop} : okB p = true ↔ p := by unfold okB; exact @decide_eq_true_iff p (Classical.propDecidable p)
omit [Tbl] in
theorem okB_of {p : Prop} (h : p) : okB p = true := okB_iff.mpr h
noncomputable def mulOk (i j : Int) : Bool := okB ((-(2 ^ 64) < i ∧ i < 2 ^ 64) ∨ (-(2 ^ 64) < j ∧ j < 2 ^ 64) ∨ i.natAbs.log2 + j.natAbs.log2 < 1000000)
noncomputable def mulG : D → D → Res R
  | .int i, .int j => if mulOk i j = true then .ok (.d (.int (i * j))) else .stuck
  | .list xs, .int k => if okB (xs.length * k.toNat ≤ sizeLine ∧ -(2 ^ 63) ≤ k ∧ k < 2 ^ 63) = true then .ok (.f (List.replicate k.toNat xs).flatten) else .stuck
  | _, _ => .stuck
theorem opd_mul : OpD X E (binaryOp .Mult) mulG := by
  refine ⟨_, op_mul.or (op_mulW.or op_rep), fun B σ Γ H0 H Q v u x y ok rx ry w => ?_⟩
  unfold mulG at w
  split at w
  · split at w
    · rename_i hz
      cases rx.int; cases ry.int
      unfold mulOk at hz
      have hz := okB_iff.mp hz
      rcases hz with hz | hz | hz
      · exact .inl ⟨_, _, rfl, rfl, .inl hz, opd_d ok w (.int _)⟩
      · exact .inl ⟨_, _, rfl, rfl, .inr hz, opd_d ok w (.int _)⟩
      · exact .inr (.inl ⟨_, _, rfl, rfl, hz, opd_d ok w (.int _)⟩)
    · exact w.elim
  · split at w
    · rename_i xs k hz
      have hz := okB_iff.mp hz
      obtain ⟨p, vs, rfl, h1, r1⟩ := rx.lst ok.sub
      cases ry.int
      exact .inr (.inr ⟨p, _, vs, rfl, rfl, h1, hz.2.1, hz.2.2, by rw [r1.len]; exact hz.1, fun o ho => opd_lst ok w (r1.rep _) ho⟩)
    · exact w.elim
  · exact w.elim
noncomputable def modG : D → D → Res R
  | .int i, .int j => if okB (0 < j) = true then .ok (.d (.int (i % j))) else .stuck
  | _, _ => .stuck
theorem opd_mod : OpD X E (binaryOp .Mod) modG := by
  refine ⟨_, op_mod, fun B σ Γ H0 H Q v u x y ok rx ry w => ?_⟩
  unfold modG at w
  split at w
  · split at w
    · cases rx.int; cases ry.int
      exact ⟨_, _, rfl, rfl, okB_iff.mp (by assumption), opd_d ok w (.int _)⟩
    · exact w.elim
  · exact w.elim
noncomputable def fdivG : D → D → Res R
  | .int i, .int j => if okB (0 < j ∧ j.natAbs.log2 < 9000) = true then .ok (.d (.int (i / j))) else .stuck
  | _, _ => .stuck
theorem opd_fdiv : OpD X E (binaryOp .FloorDiv) fdivG := by
  refine ⟨_, op_fdivW, fun B σ Γ H0 H Q v u x y ok rx ry w => ?_⟩
  unfold fdivG at w
  split at w
  · split at w
    · cases rx.int; cases ry.int
      exact ⟨_, _, rfl, rfl, okB_iff.mp (by assumption), opd_d ok w (.int _)⟩
    · exact w.elim
  · exact w.elim
noncomputable def powG : D → D → Res R
  | .int i, .int j => if okB (0 ≤ j ∧ j ≤ 1000000 ∧ i.natAbs < 2 ^ 64) = true then .ok (.d (.int (i ^ j.toNat))) else .stuck
  | _, _ => .stuck
theorem opd_pow : OpD X E (binaryOp .Pow) powG := by
  refine ⟨_, op_pow, fun B σ Γ H0 H Q v u x y ok rx ry w => ?_⟩
  unfold powG at w
  split at w
  · split at w
    · cases rx.int; cases ry.int
      exact ⟨_, _, rfl, rfl, okB_iff.mp (by assumption), opd_d ok w (.int _)⟩
    · exact w.elim
  · exact w.elim

/-! ### comparisons -/
def eqG : D → D → Res R := fun x y => if (SeqAt.shaped x && SeqAt.shaped y) = true then .ok (.d (.bool (PyData.eqv x y))) else .stuck
def neG : D → D → Res R := fun x y => if (SeqAt.shaped x && SeqAt.shaped y) = true then .ok (.d (.bool (!PyData.eqv x y))) else .stuck
theorem opd_eq (hu : X.A.units + 64 < cLine) : OpD X E (compareOp .Eq) eqG := by
  refine ⟨_, op_eqD hu, fun B σ Γ H0 H Q v u x y ok rx ry w => ?_⟩
  unfold eqG at w
  split at w
  · rename_i hz
    rw [Bool.and_eq_true] at hz
    exact ⟨x, y, rx.dp ok.sub, ry.dp ok.sub, hz.1, hz.2, opd_d ok w (.bl _)⟩
  · exact w.elim
theorem opd_ne (hu : X.A.units + 64 < cLine) : OpD X E (compareOp .NotEq) neG := by
  refine ⟨_, op_neD hu, fun B σ Γ H0 H Q v u x y ok rx ry w => ?_⟩
  unfold neG at w
  split at w
  · rename_i hz
    rw [Bool.and_eq_true] at hz
    exact ⟨x, y, rx.dp ok.sub, ry.dp ok.sub, hz.1, hz.2, opd_d ok w (.bl _)⟩
  · exact w.elim
def ltG : D → D → Res R
  | .int i, .int j => .ok (.d (.bool (decide (i < j))))
  | _, _ => .stuck
def leG : D → D → Res R
  | .int i, .int j => .ok (.d (.bool (decide (i ≤ j))))
  | _, _ => .stuck
def gtG : D → D → Res R
  | .int i, .int j => .ok (.d (.bool (decide (j < i))))
  | _, _ => .stuck
def geG : D → D → Res R
  | .int i, .int j => .ok (.d (.bool (decide (j ≤ i))))
  | _, _ => .stuck
theorem opd_lt : OpD X E (compareOp .Lt) ltG := by
  refine ⟨_, op_lt, fun B σ Γ H0 H Q v u x y ok rx ry w => ?_⟩
  unfold ltG at w
  split at w
  · cases rx.int; cases ry.int
    exact ⟨_, _, rfl, rfl, opd_d ok w (.bl _)⟩
  · exact w.elim
theorem opd_le : OpD X E (compareOp .LtE) leG := by
  refine ⟨_, op_le, fun B σ Γ H0 H Q v u x y ok rx ry w => ?_⟩
  unfold leG at w
  split at w
  · cases rx.int; cases ry.int
    exact ⟨_, _, rfl, rfl, opd_d ok w (.bl _)⟩
  · exact w.elim
theorem opd_gt : OpD X E (compareOp .Gt) gtG := by
  refine ⟨_, op_gt, fun B σ Γ H0 H Q v u x y ok rx ry w => ?_⟩
  unfold gtG at w
  split at w
  · cases rx.int; cases ry.int
    exact ⟨_, _, rfl, rfl, opd_d ok w (.bl _)⟩
  · exact w.elim
theorem opd_ge : OpD X E (compareOp .GtE) geG := by
  refine ⟨_, op_ge, fun B σ Γ H0 H Q v u x y ok rx ry w => ?_⟩
  unfold geG at w
  split at w
  · cases rx.int; cases ry.int
    exact ⟨_, _, rfl, rfl, opd_d ok w (.bl _)⟩
  · exact w.elim
/-- x is None | True | False -/
def isG : D → D → Res R := fun x y => match y with
  | .none => .ok (.d (.bool (isNonD x)))
  | .bool b => (match x with | .bool a => .ok (.d (.bool (decide (a = b)))) | _ => .stuck)
  | _ => .stuck
def isnotG : D → D → Res R := fun x y => match y with
  | .none => .ok (.d (.bool (!isNonD x)))
  | .bool b => (match x with | .bool a => .ok (.d (.bool (!decide (a = b)))) | _ => .stuck)
  | _ => .stuck
theorem opd_is : OpD X E (compareOp .Is) isG := by
  refine ⟨_, op_isN.or op_isBl, fun B σ Γ H0 H Q v u x y ok rx ry w => ?_⟩
  unfold isG at w
  split at w
  · cases ry.non
    refine .inl ⟨rfl, ?_⟩
    rw [Rp.isNon rx]
    exact opd_d ok w (.bl _)
  · split at w
    · cases rx.bl; cases ry.bl
      exact .inr ⟨_, _, rfl, rfl, opd_d ok w (.bl _)⟩
    · exact w.elim
  · exact w.elim
theorem opd_isnot : OpD X E (compareOp .IsNot) isnotG := by
  refine ⟨_, op_notN.or op_notBl, fun B σ Γ H0 H Q v u x y ok rx ry w => ?_⟩
  unfold isnotG at w
  split at w
  · cases ry.non
    refine .inl ⟨rfl, ?_⟩
    rw [Rp.isNon rx]
    exact opd_d ok w (.bl _)
  · split at w
    · cases rx.bl; cases ry.bl
      exact .inr ⟨_, _, rfl, rfl, opd_d ok w (.bl _)⟩
    · exact w.elim
  · exact w.elim

/-! ### the rules with two places -/
theorem je_bin {op : Operator} {g : D → D → Res R} {sa sb : Ga → Res (Ga × D)} (o : OpD X E (binaryOp op) g) (ha : JD X E a sa) (hb : JB X E b sb) : JE X E (.BinOp a op b pos) (sBin g sa sb) := by
  obtain ⟨r, h, hr⟩ := o
  obtain ⟨ta, pa, ha⟩ := ha.ex
  obtain ⟨tb, pb, hb⟩ := hb.ex
  exact ⟨_, pe_op h pa pb, bin_sound (f := binaryOp op) hr ha hb⟩
theorem je_binN {op : Operator} {g : D → D → Res R} {i : Nat} {sb : Ga → Res (Ga × D)} (o : OpD X E (binaryOp op) g) (pa : PE X a (tVar i)) (hb : JB X E b sb) : JE X E (.BinOp a op b pos) (sBinN g i sb) := by
  obtain ⟨r, h, hr⟩ := o
  obtain ⟨tb, pb, hb⟩ := hb.ex
  exact ⟨_, pe_op h pa pb, binN_sound hr hb⟩
theorem je_cmp {op : CmpOp} {g : D → D → Res R} {sa sb : Ga → Res (Ga × D)} (o : OpD X E (compareOp op) g) (ha : JD X E a sa) (hb : JB X E b sb) (hm : behindInMarks op b = false) : JE X E (.Compare a [op] [b] pos) (sBin g sa sb) := by
  obtain ⟨r, h, hr⟩ := o
  obtain ⟨ta, pa, ha⟩ := ha.ex
  obtain ⟨tb, pb, hb⟩ := hb.ex
  exact ⟨_, pe_cmpR h pa pb hm, bin_sound (f := compareOp op) hr ha hb⟩
theorem je_cmpN {op : CmpOp} {g : D → D → Res R} {i : Nat} {sb : Ga → Res (Ga × D)} (o : OpD X E (compareOp op) g) (pa : PE X a (tVar i)) (hb : JB X E b sb) (hm : behindInMarks op b = false) : JE X E (.Compare a [op] [b] pos) (sBinN g i sb) := by
  obtain ⟨r, h, hr⟩ := o
  obtain ⟨tb, pb, hb⟩ := hb.ex
  exact ⟨_, pe_cmpR h pa pb hm, binN_sound hr hb⟩
/-! ### tests -/
def asB : Ga × R → Res (Ga × Bool) := fun p => match p.2 with
  | .d (.bool b) => .ok (p.1, b)
  | _ => .stuck
def sTst (s : Ga → Res (Ga × R)) : Ga → Res (Ga × Bool) := fun Γ => (s Γ).bind asB
theorem tst_sound {s : Ga → Res (Ga × R)} {t : TE} (ha : ∀ B σ Γ H0 H Q, EnvOk X.K B σ Γ H0 H → EW X B E σ Γ H0 H (s Γ) Q → t σ H Q) :
    ∀ B σ Γ H0 H Q, EnvOk X.K B σ Γ H0 H → TW X B E σ Γ H0 H (sTst s Γ) Q → tTest t σ H Q := fun B σ Γ H0 H Q ok w => by
  show t σ H fun x H' => ∃ k, x = .bl k ∧ Q k H'
  refine e_then ha wok_T ok w fun Γ1 x v H01 H1 w1 ok1 g1 l1 r1 => ?_
  unfold asB at w1
  split at w1
  · rename_i b hx
    have hx : x = .d (.bool b) := hx
    subst hx
    cases r1 with
    | d r =>
      cases r
      exact ⟨_, rfl, w1 H01 H1 ok1 (Grow.refl _ _ _) (Less.refl _)⟩
  · exact w1.elim
theorem jt_cmp {op : CmpOp} {g : D → D → Res R} {sa sb : Ga → Res (Ga × D)} (o : OpD X E (compareOp op) g) (ha : JD X E a sa) (hb : JB X E b sb) (hm : behindInMarks op b = false) : JT X E (.Compare a [op] [b] pos) (sTst (sBin g sa sb)) := by
  obtain ⟨r, h, hr⟩ := o
  obtain ⟨ta, pa, ha⟩ := ha.ex
  obtain ⟨tb, pb, hb⟩ := hb.ex
  exact ⟨_, pt_cmpR h pa pb hm, tst_sound (bin_sound (f := compareOp op) hr ha hb)⟩
theorem jt_cmpN {op : CmpOp} {g : D → D → Res R} {i : Nat} {sb : Ga → Res (Ga × D)} (o : OpD X E (compareOp op) g) (pa : PE X a (tVar i)) (hb : JB X E b sb) (hm : behindInMarks op b = false) : JT X E (.Compare a [op] [b] pos) (sTst (sBinN g i sb)) := by
  obtain ⟨r, h, hr⟩ := o
  obtain ⟨tb, pb, hb⟩ := hb.ex
  exact ⟨_, pt_cmpR h pa pb hm, tst_sound (binN_sound hr hb)⟩
theorem jt_val {s : Ga → Res (Ga × R)} (h : JE X E e s) (he : ∀ whole, isTrue e X.env whole = (do let v ← whole; standAt e.pos; holding [v] (truthy v)) := by intro _; rfl) : JT X E e (sTst s) := by
  obtain ⟨t, p, ha⟩ := h.ex
  exact ⟨_, pt_val p he, tst_sound ha⟩
structure JW (X : Cx) (E : XK) (e : Expr) (s : Ga → Res (Ga × Bool)) : Prop where
  ex : ∃ t, PW X e t ∧ ∀ B σ Γ H0 H Q, EnvOk X.K B σ Γ H0 H → TW X B E σ Γ H0 H (s Γ) Q → t σ H Q
theorem JW.t {s : Ga → Res (Ga × Bool)} (h : JW X E e s) : JT X E e s := let ⟨t, p, q⟩ := h.ex; ⟨t, p.pt, q⟩
def sAnd (s u : Ga → Res (Ga × Bool)) : Ga → Res (Ga × Bool) := fun Γ => (s Γ).bind fun p => if p.2 = true then u p.1 else .ok (p.1, false)
def sOr (s u : Ga → Res (Ga × Bool)) : Ga → Res (Ga × Bool) := fun Γ => (s Γ).bind fun p => if p.2 = true then .ok (p.1, true) else u p.1
def sNot (s : Ga → Res (Ga × Bool)) : Ga → Res (Ga × Bool) := fun Γ => (s Γ).bind fun p => .ok (p.1, !p.2)
variable {sa sb : Ga → Res (Ga × Bool)} {rest : List Expr}
theorem jw_and1 (h : JT X E a sa) : JW X E (.BoolOp .And [a] pos) sa := let ⟨t, p, q⟩ := h.ex; ⟨t, pw_and1 p, q⟩
theorem jw_or1 (h : JT X E a sa) : JW X E (.BoolOp .Or [a] pos) sa := let ⟨t, p, q⟩ := h.ex; ⟨t, pw_or1 p, q⟩
theorem jw_and (ha : JT X E a sa) (hb : JW X E (.BoolOp .And (b :: rest) pos) sb) : JW X E (.BoolOp .And (a :: b :: rest) pos) (sAnd sa sb) := by
  obtain ⟨ta, pa, ha⟩ := ha.ex
  obtain ⟨tb, pb, hb⟩ := hb.ex
  refine ⟨_, pw_and pa pb, fun B σ Γ H0 H Q ok w => ?_⟩
  show ta σ H fun c H1 => if c = true then tb σ H1 Q else Q false H1
  refine t_then ha wok_T ok w fun Γ1 c H01 H1 w1 ok1 g1 l1 => ?_
  cases c with
  | true => exact hb B σ Γ1 H01 H1 Q ok1 w1
  | false => exact w1 H01 H1 ok1 (Grow.refl _ _ _) (Less.refl _)
theorem jw_or (ha : JT X E a sa) (hb : JW X E (.BoolOp .Or (b :: rest) pos) sb) : JW X E (.BoolOp .Or (a :: b :: rest) pos) (sOr sa sb) := by
  obtain ⟨ta, pa, ha⟩ := ha.ex
  obtain ⟨tb, pb, hb⟩ := hb.ex
  refine ⟨_, pw_or pa pb, fun B σ Γ H0 H Q ok w => ?_⟩
  show ta σ H fun c H1 => if c = true then Q true H1 else tb σ H1 Q
  refine t_then ha wok_T ok w fun Γ1 c H01 H1 w1 ok1 g1 l1 => ?_
  cases c with
  | false => exact hb B σ Γ1 H01 H1 Q ok1 w1
  | true => exact w1 H01 H1 ok1 (Grow.refl _ _ _) (Less.refl _)
theorem jt_not (ha : JT X E a sa) : JT X E (.UnaryOp .Not a pos) (sNot sa) := by
  obtain ⟨ta, pa, ha⟩ := ha.ex
  refine ⟨_, pt_not pa, fun B σ Γ H0 H Q ok w => ?_⟩
  show ta σ H fun c H1 => Q (!c) H1
  exact t_then ha wok_T ok w fun Γ1 c H01 H1 w1 ok1 g1 l1 => w1 H01 H1 ok1 (Grow.refl _ _ _) (Less.refl _)
/-- a test's answer as a value -/
def sVal (s : Ga → Res (Ga × Bool)) : Ga → Res (Ga × R) := fun Γ => (s Γ).bind fun p => .ok (p.1, .d (.bool p.2))
theorem val_use {s : Ga → Res (Ga × R)} {t : TE} {β : Type} {W : Ga → Hp → Hp → Res β → Prop} {B : Bg} {σ : L2.St} {Γ : Ga} {H0 H : Hp} {f : Ga × Bool → Res β} {Q : VK}
    (ha : ∀ B σ Γ H0 H Q, EnvOk X.K B σ Γ H0 H → EW X B E σ Γ H0 H (s Γ) Q → t σ H Q) (wo : WOk X B E σ W) (ok : EnvOk X.K B σ Γ H0 H) (w : W Γ H0 H ((sTst s Γ).bind f))
    (k : ∀ Γ1 b H01 H1, W Γ1 H01 H1 (f (Γ1, b)) → EnvOk X.K B σ Γ1 H01 H1 → Q (.bl b) H1) : t σ H Q := by
  unfold sTst at w
  have e : ((s Γ).bind asB).bind f = (s Γ).bind fun p => (asB p).bind f := by cases s Γ <;> rfl
  rw [e] at w
  refine e_then ha wo ok w fun Γ1 x v H01 H1 w1 ok1 g1 l1 r1 => ?_
  unfold asB at w1
  split at w1
  · rename_i b hx
    have hx : x = .d (.bool b) := hx
    subst hx
    cases r1 with
    | d r => cases r; exact k _ _ _ _ w1 ok1
  · exact (wo.stuck _ _ _ w1).elim
variable {se sf : Ga → Res (Ga × R)}
/-- bools joined as values -/
theorem je_one {op} (h : JE X E a se) : JE X E (.BoolOp op [a] pos) (sVal (sTst se)) := by
  obtain ⟨t, p, ha⟩ := h.ex
  refine ⟨_, pe_one p, fun B σ Γ H0 H Q ok w => ?_⟩
  exact val_use ha wok_E ok w fun Γ1 b H01 H1 w1 ok1 => w1 _ H01 H1 ok1 (Grow.refl _ _ _) (Less.refl _) (.d (.bl _))
theorem je_and (ha : JE X E a se) (hb : JE X E (.BoolOp .And (b :: rest) pos) (sVal sb)) : JE X E (.BoolOp .And (a :: b :: rest) pos) (sVal (sAnd (sTst se) sb)) := by
  obtain ⟨ta, pa, ha⟩ := ha.ex
  obtain ⟨tb, pb, hb⟩ := hb.ex
  refine ⟨_, pe_and pa pb, fun B σ Γ H0 H Q ok w => ?_⟩
  show ta σ H fun x H1 => ∃ c, x = .bl c ∧ if c = true then tb σ H1 Q else Q (.bl false) H1
  have e : sVal (sAnd (sTst se) sb) Γ = (sTst se Γ).bind fun p => if p.2 = true then sVal sb p.1 else .ok (p.1, .d (.bool false)) := by
    unfold sVal sAnd
    cases sTst se Γ with
    | ok p =>
      show (if p.2 = true then sb p.1 else .ok (p.1, false)).bind _ = if p.2 = true then _ else _
      split <;> rfl
    | exc c x => rfl
    | stuck => rfl
  rw [e] at w
  refine val_use ha wok_E ok w fun Γ1 c H01 H1 w1 ok1 => ⟨c, rfl, ?_⟩
  cases c with
  | true => exact hb B σ Γ1 H01 H1 Q ok1 w1
  | false => exact w1 _ H01 H1 ok1 (Grow.refl _ _ _) (Less.refl _) (.d (.bl _))
theorem je_or (ha : JE X E a se) (hb : JE X E (.BoolOp .Or (b :: rest) pos) (sVal sb)) : JE X E (.BoolOp .Or (a :: b :: rest) pos) (sVal (sOr (sTst se) sb)) := by
  obtain ⟨ta, pa, ha⟩ := ha.ex
  obtain ⟨tb, pb, hb⟩ := hb.ex
  refine ⟨_, pe_or pa pb, fun B σ Γ H0 H Q ok w => ?_⟩
  show ta σ H fun x H1 => ∃ c, x = .bl c ∧ if c = true then Q (.bl true) H1 else tb σ H1 Q
  have e : sVal (sOr (sTst se) sb) Γ = (sTst se Γ).bind fun p => if p.2 = true then .ok (p.1, .d (.bool true)) else sVal sb p.1 := by
    unfold sVal sOr
    cases sTst se Γ with
    | ok p =>
      show (if p.2 = true then .ok (p.1, true) else sb p.1 : Res (Ga × Bool)).bind _ = if p.2 = true then _ else _
      split <;> rfl
    | exc c x => rfl
    | stuck => rfl
  rw [e] at w
  refine val_use ha wok_E ok w fun Γ1 c H01 H1 w1 ok1 => ⟨c, rfl, ?_⟩
  cases c with
  | false => exact hb B σ Γ1 H01 H1 Q ok1 w1
  | true => exact w1 _ H01 H1 ok1 (Grow.refl _ _ _) (Less.refl _) (.d (.bl _))
theorem je_not (ha : JE X E a se) : JE X E (.UnaryOp .Not a pos) (sVal (sNot (sTst se))) := by
  obtain ⟨ta, pa, ha⟩ := ha.ex
  refine ⟨_, pe_not pa, fun B σ Γ H0 H Q ok w => ?_⟩
  show ta σ H fun x H1 => ∃ c, x = .bl c ∧ Q (.bl (!c)) H1
  have e : sVal (sNot (sTst se)) Γ = (sTst se Γ).bind fun p => .ok (p.1, .d (.bool (!p.2))) := by
    unfold sVal sNot
    cases sTst se Γ <;> rfl
  rw [e] at w
  exact val_use ha wok_E ok w fun Γ1 c H01 H1 w1 ok1 => ⟨c, rfl, w1 _ H01 H1 ok1 (Grow.refl _ _ _) (Less.refl _) (.d (.bl _))⟩
def sIf (c : Ga → Res (Ga × Bool)) (s u : Ga → Res (Ga × R)) : Ga → Res (Ga × R) := fun Γ => (c Γ).bind fun p => if p.2 = true then s p.1 else u p.1
theorem je_if (hc : JT X E c sa) (ha : JE X E a se) (hb : JE X E b sf) : JE X E (.IfExp c a b pos) (sIf sa se sf) := by
  obtain ⟨tc, pc, hc⟩ := hc.ex
  obtain ⟨ta, pa, ha⟩ := ha.ex
  obtain ⟨tb, pb, hb⟩ := hb.ex
  refine ⟨_, pe_ifExp pc pa pb, fun B σ Γ H0 H Q ok w => ?_⟩
  show tc σ H fun c H1 => if c = true then ta σ H1 Q else tb σ H1 Q
  refine t_then hc wok_E ok w fun Γ1 c H01 H1 w1 ok1 g1 l1 => ?_
  cases c with
  | true => exact ha B σ Γ1 H01 H1 Q ok1 w1
  | false => exact hb B σ Γ1 H01 H1 Q ok1 w1
def sUn (g : D → Res R) (s : Ga → Res (Ga × D)) : Ga → Res (Ga × R) := fun Γ => (s Γ).bind fun p => (g p.2).bind fun z => .ok (p.1, z)
def negG : D → Res R
  | .int i => .ok (.d (.int (-i)))
  | _ => .stuck
theorem je_neg {s : Ga → Res (Ga × D)} (ha : JD X E a s) : JE X E (.UnaryOp .USub a pos) (sUn negG s) := by
  obtain ⟨ta, pa, ha⟩ := ha.ex
  refine ⟨_, pe_un un_neg pa, fun B σ Γ H0 H Q ok w => ?_⟩
  show ta σ H fun x H1 => ∃ i, x = .int i ∧ Q (.int (-i)) H1
  refine d_then ha wok_E ok w fun Γ1 x v H01 H1 w1 ok1 g1 l1 r1 => ?_
  unfold negG at w1
  split at w1
  · rename_i i hx
    have hx : x = .int i := hx
    subst hx
    cases r1
    exact ⟨_, rfl, opd_d ok1 w1 (.int _)⟩
  · exact w1.elim
end
end Mi
namespace Mi
open PySem L2 Evl
variable [Tbl]

section
variable {X : Cx} {E : XK} {e a b c : Expr} {es : List Expr} {pos : Pos}
/-! ### lists of values -/
def sNil : Ga → Res (Ga × List D) := fun Γ => .ok (Γ, [])
def sCons (s : Ga → Res (Ga × D)) (r : Ga → Res (Ga × List D)) : Ga → Res (Ga × List D) := fun Γ => (s Γ).bind fun p => (r p.1).bind fun q => .ok (q.1, p.2 :: q.2)
def starD : D → Res (List D)
  | .tuple xs => .ok xs
  | .list xs => .ok xs
  | _ => .stuck
def sStar (s : Ga → Res (Ga × D)) (r : Ga → Res (Ga × List D)) : Ga → Res (Ga × List D) := fun Γ => (s Γ).bind fun p => (starD p.2).bind fun xs => (r p.1).bind fun q => .ok (q.1, xs ++ q.2)
theorem ja_nil : JA X E [] sNil := ⟨_, pa_nil, fun B σ Γ H0 H Q ok w => w [] H0 H ok (Grow.refl _ _ _) (Less.refl _) .nil⟩
theorem ja_cons {s : Ga → Res (Ga × D)} {r : Ga → Res (Ga × List D)} (h : JD X E e s) (hr : JA X E es r) (hs : starEach (e :: es) X.env = (false, eval e X.env) :: starEach es X.env := by rfl) : JA X E (e :: es) (sCons s r) := by
  obtain ⟨t, p, ha⟩ := h.ex
  obtain ⟨u, q, hb⟩ := hr.ex
  refine ⟨_, pa_cons p q hs, fun B σ Γ H0 H Q ok w => ?_⟩
  show t σ H fun x H1 => u σ H1 fun xs H2 => Q (x :: xs) H2
  refine d_then ha wok_A ok w fun Γ1 x v H01 H1 w1 ok1 g1 l1 r1 => ?_
  refine a_then hb wok_A ok1 w1 fun Γ2 xs vs H02 H2 w2 ok2 g2 l2 r2 => ?_
  exact w2 _ H02 H2 ok2 (Grow.refl _ _ _) (Less.refl _) (.cons (r1.m g2.ex0) r2)
theorem ja_star {s : Ga → Res (Ga × D)} {r : Ga → Res (Ga × List D)} {p : Pos} (h : JD X E e s) (hr : JA X E es r) (hs : starEach (.Starred e p :: es) X.env = (true, eval e X.env) :: starEach es X.env := by rfl) : JA X E (.Starred e p :: es) (sStar s r) := by
  obtain ⟨t, p, ha⟩ := h.ex
  obtain ⟨u, q, hb⟩ := hr.ex
  refine ⟨_, StX.pa_star p q hs, fun B σ Γ H0 H Q ok w => ?_⟩
  show t σ H fun x H1 => ∃ p xs, x = V.ref p ∧ (SqT X.K H1 p xs ∨ SqL X.K H1 p xs) ∧ u σ H1 fun ys H2 => Q (xs ++ ys) H2
  refine d_then ha wok_A ok w fun Γ1 x v H01 H1 w1 ok1 g1 l1 r1 => ?_
  unfold starD at w1
  split at w1
  · rename_i xs hx
    have hx : x = .tuple xs := hx
    subst hx
    cases r1 with
    | tup h1 h2 =>
      refine ⟨_, _, rfl, .inl (ex_t ok1.sub h1), a_then hb wok_A ok1 w1 fun Γ2 ys us H02 H2 w2 ok2 g2 l2 r2 => ?_⟩
      exact w2 _ H02 H2 ok2 (Grow.refl _ _ _) (Less.refl _) ((h2.m g2.ex0).app r2)
  · rename_i xs hx
    have hx : x = .list xs := hx
    subst hx
    cases r1 with
    | lst h1 h2 =>
      refine ⟨_, _, rfl, .inr (SqL.of (ok1.sub _ _ h1)), a_then hb wok_A ok1 w1 fun Γ2 ys us H02 H2 w2 ok2 g2 l2 r2 => ?_⟩
      exact w2 _ H02 H2 ok2 (Grow.refl _ _ _) (Less.refl _) ((h2.m g2.ex0).app r2)
  · exact w1.elim
def sTup (s : Ga → Res (Ga × List D)) : Ga → Res (Ga × R) := fun Γ => (s Γ).bind fun p => if p.2.length ≤ sizeLine then .ok (p.1, .d (.tuple p.2)) else .stuck
def sLst (s : Ga → Res (Ga × List D)) : Ga → Res (Ga × R) := fun Γ => (s Γ).bind fun p => if p.2.length ≤ sizeLine then .ok (p.1, .f p.2) else .stuck
theorem je_tup {s : Ga → Res (Ga × List D)} {x1} (h : JA X E es s) : JE X E (.Tuple es x1 pos) (sTup s) := by
  obtain ⟨t, p, ha⟩ := h.ex
  refine ⟨_, pe_tup p, fun B σ Γ H0 H Q ok w => ?_⟩
  show t σ H fun xs H1 => xs.length ≤ sizeLine ∧ ∀ p, H1 p = none → Q (.ref p) (upd H1 p (.tup xs))
  refine a_then ha wok_E ok w fun Γ1 xs vs H01 H1 w1 ok1 g1 l1 r1 => ?_
  split at w1
  · exact ⟨by rw [r1.len]; assumption, fun p hp => opd_tup ok1 w1 r1 hp⟩
  · exact w1.elim
theorem je_lst {s : Ga → Res (Ga × List D)} (h : JA X E es s) : JE X E (.List es pos) (sLst s) := by
  obtain ⟨t, p, ha⟩ := h.ex
  refine ⟨_, pe_lst p, fun B σ Γ H0 H Q ok w => ?_⟩
  show t σ H fun xs H1 => xs.length ≤ sizeLine ∧ ∀ p, H1 p = none → Q (.ref p) (upd H1 p (.lst xs))
  refine a_then ha wok_E ok w fun Γ1 xs vs H01 H1 w1 ok1 g1 l1 r1 => ?_
  split at w1
  · exact ⟨by rw [r1.len]; assumption, fun p hp => opd_lst ok1 w1 r1 hp⟩
  · exact w1.elim

/-! ### subscripts -/
def ixG : D → D → Res R
  | .list xs, .int i => match atI xs i with | some x => .ok (.d x) | none => .stuck
  | .tuple xs, .int i => match atI xs i with | some x => .ok (.d x) | none => .stuck
  | .str z, .int i => if z.length ≤ sizeLine then (match atI z.cps.toList i with | some c => .ok (.d (.str ⟨#[c]⟩)) | none => .stuck) else .stuck
  | _, _ => .stuck
omit [Tbl] in
theorem atI_rp {K : PySem.W.Frag} {H : Hp} {xs : List D} {vs : List V} {i : Int} {x : D} (r : RpAll K H vs xs) (h : atI xs i = some x) : ∃ v, atI vs i = some v ∧ Rp K H v x := by
  unfold atI at h ⊢
  rw [r.len]
  cases hj : ixN xs.length i with
  | none => rw [hj] at h; cases h
  | some j =>
    rw [hj] at h
    exact r.get h
theorem ix_sound {r : R2} (hrl : ∀ x y H Q, rIxL X.K x y H Q → r x y H Q) (hrt : ∀ x y H Q, rIxT X.K x y H Q → r x y H Q) (hrs : ∀ x y H Q, rIxS x y H Q → r x y H Q) :
    ∀ B σ Γ H0 H Q v u x y, EnvOk X.K B σ Γ H0 H → RpB X.K H0 H v x → RpB X.K H0 H u y → EW X B E σ Γ H0 H ((ixG x y).bind fun z => .ok (Γ, z)) Q → r v u H Q := fun B σ Γ H0 H Q v u x y ok rx ry w => by
  unfold ixG at w
  split at w
  · split at w
    · rename_i xs i _ z hz
      obtain ⟨p, vs, rfl, h1, r1⟩ := rx.lst ok.sub
      cases ry.int
      obtain ⟨z', e1, r2⟩ := atI_rp r1 hz
      exact hrl _ _ _ _ ⟨p, vs, _, z', rfl, rfl, SqL.of h1, e1, opd_d ok w r2⟩
    · exact w.elim
  · split at w
    · rename_i xs i _ z hz
      obtain ⟨p, vs, rfl, h1, r1⟩ := rx.tup ok.sub
      cases ry.int
      obtain ⟨z', e1, r2⟩ := atI_rp r1 hz
      exact hrt _ _ _ _ ⟨p, vs, _, z', rfl, rfl, h1, e1, opd_d ok w r2⟩
    · exact w.elim
  · split at w
    · split at w
      · rename_i hl _ c hc
        cases rx.str; cases ry.int
        exact hrs _ _ _ _ ⟨_, _, c, rfl, rfl, hl, hc, opd_d ok w (.str _)⟩
      · exact w.elim
    · exact w.elim
  · exact w.elim
theorem je_ix {sa sb : Ga → Res (Ga × D)} (ha : JD X E a sa) (hb : JD X E b sb) (hs : PlainIx b := by intro _ _; rfl) : JE X E (.Subscript a b pos) (sBin ixG sa sb) := by
  obtain ⟨ta, pa, ha⟩ := ha.ex
  obtain ⟨tb, pb, hb⟩ := hb.toB.ex
  exact ⟨_, pe_ix ix_seq pa pb hs, bin_sound (f := fun _ _ => pure .none) (ix_sound (fun _ _ _ _ h => .inl h) (fun _ _ _ _ h => .inr (.inl h)) fun _ _ _ _ h => .inr (.inr h)) ha hb⟩
theorem je_ixN {i : Nat} {sb : Ga → Res (Ga × D)} (pa : PE X a (tVar i)) (hb : JD X E b sb) (hs : PlainIx b := by intro _ _; rfl) : JE X E (.Subscript a b pos) (sBinN ixG i sb) := by
  obtain ⟨tb, pb, hb⟩ := hb.toB.ex
  exact ⟨_, pe_ix ix_seq pa pb hs, binN_sound (ix_sound (fun _ _ _ _ h => .inl h) (fun _ _ _ _ h => .inr (.inl h)) fun _ _ _ _ h => .inr (.inr h)) hb⟩
/-- the script: len, an item -/
def sIxScr (i : Nat) (sb : Ga → Res (Ga × D)) : Ga → Res (Ga × R) := fun Γ => match Γ[i]? with
  | some (.scr ns) => (sb Γ).bind fun q => (match q.2 with | .int k => (match atI ns k with | some n => .ok (q.1, .d (.int n)) | none => .stuck) | _ => .stuck)
  | _ => .stuck
theorem je_ixScr {i : Nat} {sb : Ga → Res (Ga × D)} (pa : PE X a (tVar i)) (hb : JD X E b sb) (hs : PlainIx b := by intro _ _; rfl) : JE X E (.Subscript a b pos) (sIxScr i sb) := by
  obtain ⟨tb, pb, hb⟩ := hb.ex
  refine ⟨_, pe_ix ix_list pa pb hs, fun B σ Γ H0 H Q ok w => ?_⟩
  unfold sIxScr at w
  split at w
  · rename_i ns hns
    obtain ⟨p, e1, hq⟩ := ok.scr i ns hns
    refine ⟨_, e1, ?_⟩
    show tb σ H fun y H2 => rIxL X.K (.ref p) y H2 Q
    refine d_then hb wok_E ok w fun Γ1 x v H01 H1 w1 ok1 g1 l1 r1 => ?_
    split at w1
    · split at w1
      · rename_i k hk _ n hn
        have hk : x = .int k := hk
        subst hk
        cases r1
        refine ⟨p, _, k, .int n, rfl, rfl, ex_l (g1.ex0.trans ok1.sub) hq, ?_, opd_d ok1 w1 (.int _)⟩
        unfold atI at hn ⊢
        rw [List.length_map]
        cases hj : ixN ns.length k with
        | none => rw [hj] at hn; cases hn
        | some j =>
          rw [hj] at hn
          show (ns.map V.int)[j]? = _
          rw [List.getElem?_map, show ns[j]? = some n from hn]
          rfl
      · exact w1.elim
    · exact w1.elim
  · exact w.elim

/-! ### slices -/
def JO (X : Cx) (E : XK) (e : Option Expr) (s : Ga → Res (Ga × Option Int)) : Prop :=
  ∃ t, PO X e t ∧ ∀ B σ Γ H0 H Q, EnvOk X.K B σ Γ H0 H → (match s Γ with
    | .ok (Γ', o) => ∀ H0' H', EnvOk X.K B σ Γ' H0' H' → Grow (OwnOf σ Γ) H0 H H0' H' → Less Γ Γ' → Q o H'
    | .exc c x => XW X B E c x
    | .stuck => False) → t σ H Q
def sNoO : Ga → Res (Ga × Option Int) := fun Γ => .ok (Γ, none)
def sSomeO (s : Ga → Res (Ga × D)) : Ga → Res (Ga × Option Int) := fun Γ => (s Γ).bind fun p => match p.2 with | .int i => .ok (p.1, some i) | _ => .stuck
theorem jo_none : JO X E none sNoO := ⟨_, po_none, fun B σ Γ H0 H Q ok w => w H0 H ok (Grow.refl _ _ _) (Less.refl _)⟩
def OW (X : Cx) (B : Bg) (E : XK) (σ : L2.St) (Γ : Ga) (H0 H : Hp) (r : Res (Ga × Option Int)) (Q : Option Int → Hp → Prop) : Prop := match r with
    | .ok (Γ', o) => ∀ H0' H', EnvOk X.K B σ Γ' H0' H' → Grow (OwnOf σ Γ) H0 H H0' H' → Less Γ Γ' → Q o H'
    | .exc c x => XW X B E c x
    | .stuck => False
theorem wok_O {B : Bg} {σ : L2.St} {Q : Option Int → Hp → Prop} : WOk X B E σ fun Γ H0 H r => OW X B E σ Γ H0 H r Q where
  exc := fun _ _ _ _ _ h => h
  stuck := fun _ _ _ h => h
  shift := fun Γ H0 H Γ1 H01 H1 r ok g l w => by
    cases r with
    | stuck => exact w
    | exc c x => exact w
    | ok p => exact fun H0' H' o' g' l' => w H0' H' o' (shift_g g l g') (l.trans l')
theorem jo_some {s : Ga → Res (Ga × D)} (h : JD X E e s) : JO X E (some e) (sSomeO s) := by
  obtain ⟨t, p, ha⟩ := h.ex
  refine ⟨_, po_some p, fun B σ Γ H0 H Q ok w => ?_⟩
  have w : OW X B E σ Γ H0 H (sSomeO s Γ) Q := w
  show t σ H fun x H1 => ∃ i, x = .int i ∧ Q (some i) H1
  refine d_then ha wok_O ok w fun Γ1 x v H01 H1 w1 ok1 g1 l1 r1 => ?_
  split at w1
  · rename_i i hx
    have hx : x = .int i := hx
    subst hx
    cases r1
    exact ⟨_, rfl, w1 H01 H1 ok1 (Grow.refl _ _ _) (Less.refl _)⟩
  · exact w1.elim
def cutD (xs : List D) (lo hi : Option Int) : List D := (xs.drop (HT.sIx xs.length 0 lo)).take (HT.sIx xs.length xs.length hi - HT.sIx xs.length 0 lo)
omit [Tbl] in
theorem cut_rp {K : PySem.W.Frag} {H : Hp} {xs : List D} {vs : List V} {lo hi : Option Int} (r : RpAll K H vs xs) : RpAll K H (cutV vs lo hi) (cutD xs lo hi) := by
  unfold cutV cutD
  rw [r.len]
  exact (r.drop _).take _
def slG (x : D) (lo hi : Option Int) : Res R := match x with
  | .list xs => .ok (.f (cutD xs lo hi))
  | .tuple xs => .ok (.d (.tuple (cutD xs lo hi)))
  | _ => .stuck
omit [Tbl] in
theorem cut_whole {α : Type} (xs : List α) {i j : Nat} (h0 : i = 0) (h1 : j = xs.length) : (xs.drop i).take (j - i) = xs := by
  subst h0 h1; simp
def sSl (s : Ga → Res (Ga × D)) (lo hi : Ga → Res (Ga × Option Int)) : Ga → Res (Ga × R) := fun Γ => (s Γ).bind fun p => (lo p.1).bind fun q => (hi q.1).bind fun r => (slG p.2 q.2 r.2).bind fun z => .ok (r.1, z)
def sSlN (i : Nat) (lo hi : Ga → Res (Ga × Option Int)) : Ga → Res (Ga × R) := fun Γ => (slD Γ i).bind fun _ => (lo Γ).bind fun q => (hi q.1).bind fun r => (slD r.1 i).bind fun x => (slG x q.2 r.2).bind fun z => .ok (r.1, z)
theorem o_then {β : Type} {W : Ga → Hp → Hp → Res β → Prop} {B : Bg} {σ : L2.St} {Γ : Ga} {H0 H : Hp} {t : TO} {s : Ga → Res (Ga × Option Int)} {f : Ga × Option Int → Res β} {Q : Option Int → Hp → Prop}
    (ha : ∀ B σ Γ H0 H Q, EnvOk X.K B σ Γ H0 H → OW X B E σ Γ H0 H (s Γ) Q → t σ H Q) (wo : WOk X B E σ W) (ok : EnvOk X.K B σ Γ H0 H) (w : W Γ H0 H ((s Γ).bind f))
    (k : ∀ Γ1 o H01 H1, W Γ1 H01 H1 (f (Γ1, o)) → EnvOk X.K B σ Γ1 H01 H1 → Grow (OwnOf σ Γ) H0 H H01 H1 → Less Γ Γ1 → Q o H1) : t σ H Q := by
  refine ha B σ Γ H0 H Q ok ?_
  cases hs : s Γ with
  | stuck => rw [hs] at w; exact (wo.stuck _ _ _ w).elim
  | exc c x => rw [hs] at w; exact wo.exc _ _ _ _ _ w
  | ok p =>
    rw [hs] at w
    exact fun H01 H1 ok1 g l => k _ _ H01 H1 (wo.shift _ _ _ _ _ _ _ ok g l w) ok1 g l
theorem sl_end {B : Bg} {σ : L2.St} {Γ : Ga} {H0 H : Hp} {Q : VK} {x : D} {v : V} {lo hi : Option Int} (ok : EnvOk X.K B σ Γ H0 H) (rx : RpB X.K H0 H v x) (w : EW X B E σ Γ H0 H ((slG x lo hi).bind fun z => .ok (Γ, z)) Q) :
    rSlL X.K v lo hi H Q ∨ rSlA X.K v lo hi H Q := by
  unfold slG at w
  split at w
  · obtain ⟨p, vs, rfl, h1, r1⟩ := rx.lst ok.sub
    exact .inl ⟨p, vs, rfl, SqL.of h1, fun o ho => opd_lst ok w (cut_rp r1) ho⟩
  · rename_i xs
    obtain ⟨p, vs, rfl, h1, r1⟩ := rx.tup ok.sub
    refine .inr ⟨p, vs, rfl, h1, fun ⟨h2, h3⟩ => ?_, fun _ o ho => opd_tup ok w (cut_rp r1) ho⟩
    have e : cutD xs lo hi = xs := by
      unfold cutD
      rw [r1.len] at h2 h3
      exact cut_whole xs h2 h3
    rw [e] at w
    rcases rx with r | ⟨_, _, _, e1, e2, _⟩
    · exact opd_d ok w r
    · cases e2
  · exact w.elim
theorem je_sl {s : Ga → Res (Ga × D)} {lo hi : Ga → Res (Ga × Option Int)} {el eh : Option Expr} {p2 : Pos} (h : JD X E e s) (hl : JO X E el lo) (hh : JO X E eh hi) : JE X E (.Subscript e (.Slice el eh none p2) pos) (sSl s lo hi) := by
  obtain ⟨t, p, ha⟩ := h.ex
  obtain ⟨tl, pl, hl⟩ := hl
  obtain ⟨th, ph, hh⟩ := hh
  refine ⟨_, pe_slice (sl_list.or sl_tupA) p pl ph, fun B σ Γ H0 H Q ok w => ?_⟩
  show t σ H fun x H1 => tl σ H1 fun l H2 => th σ H2 fun u H3 => rSlL X.K x l u H3 Q ∨ rSlA X.K x l u H3 Q
  refine d_then ha wok_E ok w fun Γ1 x v H01 H1 w1 ok1 g1 l1 r1 => ?_
  refine o_then hl wok_E ok1 w1 fun Γ2 l H02 H2 w2 ok2 g2 l2 => ?_
  refine o_then hh wok_E ok2 w2 fun Γ3 u H03 H3 w3 ok3 g3 l3 => ?_
  exact sl_end ok3 (.inl (r1.m (g2.ex0.trans g3.ex0))) w3
theorem je_slN {i : Nat} {lo hi : Ga → Res (Ga × Option Int)} {el eh : Option Expr} {p2 : Pos} (p : PE X e (tVar i)) (hl : JO X E el lo) (hh : JO X E eh hi) : JE X E (.Subscript e (.Slice el eh none p2) pos) (sSlN i lo hi) := by
  obtain ⟨tl, pl, hl⟩ := hl
  obtain ⟨th, ph, hh⟩ := hh
  refine ⟨_, pe_slice (sl_list.or sl_tupA) p pl ph, fun B σ Γ H0 H Q ok w => ?_⟩
  unfold sSlN at w
  cases h0 : slD Γ i with
  | stuck => rw [h0] at w; exact w.elim
  | exc c x => unfold slD at h0; split at h0 <;> cases h0
  | ok x0 =>
    rw [h0] at w
    obtain ⟨v, ev, _⟩ := slD_ok ok h0
    refine ⟨v, ev, ?_⟩
    show tl σ H fun l H2 => th σ H2 fun u H3 => rSlL X.K v l u H3 Q ∨ rSlA X.K v l u H3 Q
    refine o_then hl wok_E ok w fun Γ2 l H02 H2 w2 ok2 g2 l2 => ?_
    refine o_then hh wok_E ok2 w2 fun Γ3 u H03 H3 w3 ok3 g3 l3 => ?_
    cases hs : slD Γ3 i with
    | stuck => simp only [hs] at w3; exact w3.elim
    | exc c x => unfold slD at hs; split at hs <;> cases hs
    | ok x =>
      simp only [hs] at w3
      obtain ⟨v', e', r'⟩ := slD_ok ok3 hs
      rw [ev] at e'; cases e'
      exact sl_end ok3 r' w3
/-- xs[::-1] -/
def sRev (s : Ga → Res (Ga × D)) : Ga → Res (Ga × R) := fun Γ => (s Γ).bind fun p => match p.2 with | .list xs => .ok (p.1, .f xs.reverse) | _ => .stuck
theorem je_rev {s : Ga → Res (Ga × D)} {k : Nat} {p1 p2 p3 : Pos} (h : JB X E e s) : JE X E (.Subscript e (.Slice none none (some (.UnaryOp .USub (.Constant (.int 1) k p1) p2)) p3) pos) (sRev s) := by
  obtain ⟨t, p, ha⟩ := h.ex
  refine ⟨_, pe_revL p, fun B σ Γ H0 H Q ok w => ?_⟩
  show t σ H fun x H1 => ∃ a xs, x = .ref a ∧ SqL X.K H1 a xs ∧ ∀ p, H1 p = none → Q (.ref p) (upd H1 p (.lst xs.reverse))
  refine b_then ha wok_E ok w fun Γ1 x v H01 H1 w1 ok1 g1 l1 r1 => ?_
  split at w1
  · rename_i xs hx
    have hx : x = .list xs := hx
    subst hx
    obtain ⟨p, vs, rfl, h1, r1⟩ := r1.lst ok1.sub
    exact ⟨p, vs, rfl, SqL.of h1, fun o ho => opd_lst ok1 w1 r1.rev ho⟩
  · exact w1.elim

/-! ### built-in functions -/
def CallD1 (X : Cx) (E : XK) (f : Value) (g : D → Res R) : Prop :=
  ∃ r, CallR X f r ∧ ∀ B σ Γ H0 H Q v x, EnvOk X.K B σ Γ H0 H → RpB X.K H0 H v x → EW X B E σ Γ H0 H ((g x).bind fun z => .ok (Γ, z)) Q → r [v] H Q
def CallD (X : Cx) (E : XK) (f : Value) (g : List D → Res R) : Prop :=
  ∃ r, CallR X f r ∧ ∀ B σ Γ H0 H Q vs xs, EnvOk X.K B σ Γ H0 H → RpAll X.K H0 vs xs → EW X B E σ Γ H0 H ((g xs).bind fun z => .ok (Γ, z)) Q → r vs H Q
def sCallB (g : List D → Res R) (s : Ga → Res (Ga × List D)) : Ga → Res (Ga × R) := fun Γ => (s Γ).bind fun p => (g p.2).bind fun z => .ok (p.1, z)
section
variable {x : Str} {p : Pos} {id T : String}
theorem one_sound {r : List V → Hp → VK → Prop} {g : D → Res R} {s : Ga → Res (Ga × D)} {t : TE} (hr : ∀ B σ Γ H0 H Q v x, EnvOk X.K B σ Γ H0 H → RpB X.K H0 H v x → EW X B E σ Γ H0 H ((g x).bind fun z => .ok (Γ, z)) Q → r [v] H Q)
    (ha : ∀ B σ Γ H0 H Q, EnvOk X.K B σ Γ H0 H → BW X B E σ Γ H0 H (s Γ) Q → t σ H Q) : ∀ B σ Γ H0 H Q, EnvOk X.K B σ Γ H0 H → EW X B E σ Γ H0 H (sUn g s Γ) Q → tCB r (tCons t tNil) σ H Q := fun B σ Γ H0 H Q ok w => by
  show t σ H fun x H1 => r [x] H1 Q
  exact b_then ha wok_E ok w fun Γ1 x v H01 H1 w1 ok1 g1 l1 r1 => hr B σ Γ1 H01 H1 Q v x ok1 r1 w1
theorem je_call1 {g : D → Res R} {s : Ga → Res (Ga × D)} (hc : CallD1 X E (.builtin id) g) (hg : Gl X x) (hm : X.mg x = none) (hv : bootBuiltins x = some (.builtin id)) (h : JB X E e s) (hn : x ≠ "__name__" := by decide) (hdb : (x == ("__debug__" : Str)) = false := by decide)
    (hst : starEach (e :: []) X.env = (false, eval e X.env) :: starEach [] X.env := by rfl) : JE X E (.Call (.Name x p) [e] [] pos) (sUn g s) := by
  obtain ⟨r, hcr, hr⟩ := hc
  obtain ⟨t, pp, ha⟩ := h.ex
  exact ⟨_, pe_callB hcr hg hm hv (pa_cons pp pa_nil hst) hn hdb hst rfl, one_sound hr ha⟩
theorem je_callT1 {g : D → Res R} {s : Ga → Res (Ga × D)} (hc : CallD1 X E (.type T) g) (hg : Gl X x) (hm : X.mg x = none) (hv : bootBuiltins x = some (.type T)) (h : JB X E e s) (hn : x ≠ "__name__" := by decide) (hdb : (x == ("__debug__" : Str)) = false := by decide)
    (hst : starEach (e :: []) X.env = (false, eval e X.env) :: starEach [] X.env := by rfl) : JE X E (.Call (.Name x p) [e] [] pos) (sUn g s) := by
  obtain ⟨r, hcr, hr⟩ := hc
  obtain ⟨t, pp, ha⟩ := h.ex
  exact ⟨_, pe_callTy hcr hg hm hv (pa_cons pp pa_nil hst) hn hdb hst rfl, one_sound hr ha⟩
theorem je_callB {g : List D → Res R} {s : Ga → Res (Ga × List D)} (hc : CallD X E (.builtin id) g) (hg : Gl X x) (hm : X.mg x = none) (hv : bootBuiltins x = some (.builtin id)) (h : JA X E (e :: es) s) (hn : x ≠ "__name__" := by decide) (hdb : (x == ("__debug__" : Str)) = false := by decide)
    (he : starEach (e :: es) X.env = (false, eval e X.env) :: starEach es X.env := by rfl) (hpl : (backTo pos (starEach es X.env)).any (·.1) = false := by rfl) : JE X E (.Call (.Name x p) (e :: es) [] pos) (sCallB g s) := by
  obtain ⟨r, hcr, hr⟩ := hc
  obtain ⟨t, pp, ha⟩ := h.ex
  refine ⟨_, pe_callB hcr hg hm hv pp hn hdb he hpl, fun B σ Γ H0 H Q ok w => ?_⟩
  show t σ H fun vs H1 => r vs H1 Q
  exact a_then ha wok_E ok w fun Γ1 xs vs H01 H1 w1 ok1 g1 l1 r1 => hr B σ Γ1 H01 H1 Q vs xs ok1 r1 w1
end
def lenG : D → Res R
  | .list xs => .ok (.d (.int xs.length))
  | .tuple xs => .ok (.d (.int xs.length))
  | .str x => if x.length ≤ sizeLine then .ok (.d (.int x.length)) else .stuck
  | _ => .stuck
theorem cd_len : CallD1 X E (.builtin "len") lenG := by
  refine ⟨_, call_len, fun B σ Γ H0 H Q v x ok rx w => ?_⟩
  unfold lenG at w
  split at w
  · obtain ⟨p, vs, rfl, h1, r1⟩ := rx.lst ok.sub
    refine ⟨_, _, rfl, .inl ⟨vs, SqL.of h1, rfl⟩, ?_⟩
    rw [r1.len]; exact opd_d ok w (.int _)
  · obtain ⟨p, vs, rfl, h1, r1⟩ := rx.tup ok.sub
    refine ⟨_, _, rfl, .inr ⟨vs, h1, rfl⟩, ?_⟩
    rw [r1.len]; exact opd_d ok w (.int _)
  · split at w
    · cases rx.str
      exact ⟨_, _, rfl, ⟨by assumption, rfl⟩, opd_d ok w (.int _)⟩
    · exact w.elim
  · exact w.elim
def listG : D → Res R
  | .list xs => .ok (.f xs)
  | .tuple xs => .ok (.f xs)
  | _ => .stuck
theorem cd_list : CallD1 X E (.type "list") listG := by
  refine ⟨_, call_list_of, fun B σ Γ H0 H Q v x ok rx w => ?_⟩
  unfold listG at w
  split at w
  · obtain ⟨p, vs, rfl, h1, r1⟩ := rx.lst ok.sub
    exact ⟨p, vs, rfl, .inl (SqL.of h1), fun l hl => opd_lst ok w r1 hl⟩
  · obtain ⟨p, vs, rfl, h1, r1⟩ := rx.tup ok.sub
    exact ⟨p, vs, rfl, .inr h1, fun l hl => opd_lst ok w r1 hl⟩
  · exact w.elim
def tupleG : D → Res R
  | .list xs => .ok (.d (.tuple xs))
  | .tuple xs => .ok (.d (.tuple xs))
  | _ => .stuck
theorem cd_tuple : CallD1 X E (.type "tuple") tupleG := by
  refine ⟨_, call_tuple_of, fun B σ Γ H0 H Q v x ok rx w => ?_⟩
  unfold tupleG at w
  split at w
  · obtain ⟨p, vs, rfl, h1, r1⟩ := rx.lst ok.sub
    exact ⟨p, vs, rfl, .inl ⟨SqL.of h1, fun l hl => opd_tup ok w r1 hl⟩⟩
  · obtain ⟨p, vs, rfl, h1, r1⟩ := rx.tup ok.sub
    refine ⟨p, vs, rfl, .inr ⟨h1, ?_⟩⟩
    rcases rx with r | ⟨_, _, _, e1, e2, _⟩
    · exact opd_d ok w r
    · cases e2
  · exact w.elim
def intsOf : List D → Option (List Int)
  | [] => some []
  | .int i :: r => (intsOf r).map (i :: ·)
  | _ :: _ => none
omit [Tbl] in
theorem ints_rp {K : PySem.W.Frag} {H : Hp} : ∀ {xs : List D} {vs : List V} {ns : List Int}, RpAll K H vs xs → intsOf xs = some ns → vs = ns.map V.int
  | [], _, _, r, h => by cases r; cases h; rfl
  | .int i :: xs, _, ns, r, h => by
    unfold intsOf at h
    cases hx : intsOf xs with
    | none => rw [hx] at h; cases h
    | some ms =>
      rw [hx] at h; cases h
      cases r with
      | cons r1 r2 => cases r1; rw [ints_rp r2 hx]; rfl
  | .none :: _, _, _, _, h => by cases h
  | .bool _ :: _, _, _, _, h => by cases h
  | .str _ :: _, _, _, _, h => by cases h
  | .list _ :: _, _, _, _, h => by cases h
  | .tuple _ :: _, _, _, _, h => by cases h
  | .dict _ :: _, _, _, _, h => by cases h
def sumG : D → Res R
  | .list xs => match intsOf xs with | some ns => .ok (.d (.int ns.sum)) | none => .stuck
  | _ => .stuck
theorem cd_sum (hc : X.calm = true) : CallD1 X E (.builtin "sum") sumG := by
  refine ⟨_, cr_sum hc, fun B σ Γ H0 H Q v x ok rx w => ?_⟩
  unfold sumG at w
  split at w
  · split at w
    · rename_i ns hns
      obtain ⟨p, vs, rfl, h1, r1⟩ := rx.lst ok.sub
      rw [ints_rp r1 hns] at h1
      exact ⟨p, ns, rfl, SqL.of h1, opd_d ok w (.int _)⟩
    · exact w.elim
  · exact w.elim
/-- the greatest, the least -/
def maxL : Int → List Int → Int
  | m, [] => m
  | m, x :: r => maxL (if m < x then x else m) r
def minL : Int → List Int → Int
  | m, [] => m
  | m, x :: r => minL (if x < m then x else m) r
omit [Tbl] in
theorem maxL_ge : ∀ (l : List Int) (m : Int), m ≤ maxL m l ∧ ∀ y ∈ l, y ≤ maxL m l
  | [], m => ⟨Int.le_refl _, fun y h => by cases h⟩
  | x :: r, m => by
    obtain ⟨h1, h2⟩ := maxL_ge r (if m < x then x else m)
    refine ⟨?_, fun y hy => ?_⟩
    · show m ≤ maxL (if m < x then x else m) r
      split at h1 <;> rename_i z
      · rw [if_pos z]; omega
      · rw [if_neg z]; omega
    · rcases List.mem_cons.mp hy with e | hy
      · subst e
        show y ≤ maxL (if m < y then y else m) r
        split at h1 <;> rename_i z
        · rw [if_pos z]; omega
        · rw [if_neg z]; omega
      · exact h2 y hy
omit [Tbl] in
theorem minL_le : ∀ (l : List Int) (m : Int), minL m l ≤ m ∧ ∀ y ∈ l, minL m l ≤ y
  | [], m => ⟨Int.le_refl _, fun y h => by cases h⟩
  | x :: r, m => by
    obtain ⟨h1, h2⟩ := minL_le r (if x < m then x else m)
    refine ⟨?_, fun y hy => ?_⟩
    · show minL (if x < m then x else m) r ≤ m
      split at h1 <;> rename_i z
      · rw [if_pos z]; omega
      · rw [if_neg z]; omega
    · rcases List.mem_cons.mp hy with e | hy
      · subst e
        show minL (if y < m then y else m) r ≤ y
        split at h1 <;> rename_i z
        · rw [if_pos z]; omega
        · rw [if_neg z]; omega
      · exact h2 y hy
omit [Tbl] in
theorem maxL_mem : ∀ (l : List Int) (m : Int), maxL m l = m ∨ maxL m l ∈ l
  | [], m => .inl rfl
  | x :: r, m => by
    show maxL (if m < x then x else m) r = m ∨ maxL (if m < x then x else m) r ∈ x :: r
    rcases maxL_mem r (if m < x then x else m) with h | h
    · split at h <;> rename_i z
      · rw [if_pos z, h]; exact .inr List.mem_cons_self
      · rw [if_neg z, h]; exact .inl rfl
    · exact .inr (List.mem_cons_of_mem _ h)
omit [Tbl] in
theorem minL_mem : ∀ (l : List Int) (m : Int), minL m l = m ∨ minL m l ∈ l
  | [], m => .inl rfl
  | x :: r, m => by
    show minL (if x < m then x else m) r = m ∨ minL (if x < m then x else m) r ∈ x :: r
    rcases minL_mem r (if x < m then x else m) with h | h
    · split at h <;> rename_i z
      · rw [if_pos z, h]; exact .inr List.mem_cons_self
      · rw [if_neg z, h]; exact .inl rfl
    · exact .inr (List.mem_cons_of_mem _ h)
def maxG : D → Res R
  | .list xs => match intsOf xs with | some (n :: ns) => .ok (.d (.int (maxL n ns))) | _ => .stuck
  | _ => .stuck
def minG : D → Res R
  | .list xs => match intsOf xs with | some (n :: ns) => .ok (.d (.int (minL n ns))) | _ => .stuck
  | _ => .stuck
theorem cd_max (hc : X.calm = true) : CallD1 X E (.builtin "max") maxG := by
  refine ⟨_, cr_max hc, fun B σ Γ H0 H Q v x ok rx w => ?_⟩
  unfold maxG at w
  split at w
  · split at w
    · rename_i n ns hns
      obtain ⟨p, vs, rfl, h1, r1⟩ := rx.lst ok.sub
      rw [ints_rp r1 hns] at h1
      refine ⟨p, n :: ns, rfl, SqL.of h1, Nat.succ_pos _, fun m hm hy => ?_⟩
      have e : m = maxL n ns := by
        have h2 := maxL_ge ns n
        have h3 : m ≤ maxL n ns := by
          rcases List.mem_cons.mp hm with q | q
          · rw [q]; exact h2.1
          · exact h2.2 m q
        have h4 : maxL n ns ≤ m := by
          rcases maxL_mem ns n with q | q
          · rw [q]; exact hy n List.mem_cons_self
          · exact hy _ (List.mem_cons_of_mem _ q)
        omega
      rw [e]; exact opd_d ok w (.int _)
    · exact w.elim
  · exact w.elim
theorem cd_min (hc : X.calm = true) : CallD1 X E (.builtin "min") minG := by
  refine ⟨_, cr_min hc, fun B σ Γ H0 H Q v x ok rx w => ?_⟩
  unfold minG at w
  split at w
  · split at w
    · rename_i n ns hns
      obtain ⟨p, vs, rfl, h1, r1⟩ := rx.lst ok.sub
      rw [ints_rp r1 hns] at h1
      refine ⟨p, n :: ns, rfl, SqL.of h1, Nat.succ_pos _, fun m hm hy => ?_⟩
      have e : m = minL n ns := by
        have h2 := minL_le ns n
        have h3 : minL n ns ≤ m := by
          rcases List.mem_cons.mp hm with q | q
          · rw [q]; exact h2.1
          · exact h2.2 m q
        have h4 : m ≤ minL n ns := by
          rcases minL_mem ns n with q | q
          · rw [q]; exact hy n List.mem_cons_self
          · exact hy _ (List.mem_cons_of_mem _ q)
        omega
      rw [e]; exact opd_d ok w (.int _)
    · exact w.elim
  · exact w.elim
def max2G : List D → Res R
  | [.int i, .int j] => .ok (.d (.int (if j > i then j else i)))
  | _ => .stuck
def min2G : List D → Res R
  | [.int i, .int j] => .ok (.d (.int (if j < i then j else i)))
  | _ => .stuck
omit [Tbl] in
theorem rp2 {K : PySem.W.Frag} {H : Hp} {vs : List V} {i j : Int} (r : RpAll K H vs [.int i, .int j]) : vs = [.int i, .int j] := by
  cases r with
  | cons r1 r2 =>
    cases r2 with
    | cons r2 r3 => cases r1; cases r2; cases r3; rfl
theorem cd_max2 (hc : X.calm = true) : CallD X E (.builtin "max") max2G := by
  refine ⟨_, call_max2 hc, fun B σ Γ H0 H Q vs xs ok rx w => ?_⟩
  unfold max2G at w
  split at w
  · exact ⟨_, _, rp2 rx, opd_d ok w (.int _)⟩
  · exact w.elim
theorem cd_min2 (hc : X.calm = true) : CallD X E (.builtin "min") min2G := by
  refine ⟨_, call_min2 hc, fun B σ Γ H0 H Q vs xs ok rx w => ?_⟩
  unfold min2G at w
  split at w
  · exact ⟨_, _, rp2 rx, opd_d ok w (.int _)⟩
  · exact w.elim
def divmodG : List D → Res R
  | [.int i, .int j] => if 0 < j ∧ j.natAbs.log2 < 9000 then .ok (.d (.tuple [.int (i / j), .int (i % j)])) else .stuck
  | _ => .stuck
def absG : D → Res R
  | .int i => .ok (.d (.int (if i < 0 then -i else i)))
  | _ => .stuck
theorem cd_abs : CallD1 X E (.builtin "abs") absG := by
  refine ⟨_, call_abs, fun B σ Γ H0 H Q v x ok rx w => ?_⟩
  unfold absG at w
  split at w
  · cases rx.int
    exact ⟨_, rfl, opd_d ok w (.int _)⟩
  · exact w.elim
def intG : D → Res R
  | .int i => .ok (.d (.int i))
  | .bool b => .ok (.d (.int (if b then 1 else 0)))
  | _ => .stuck
theorem cd_int : CallD1 X E (.type "int") intG := by
  refine ⟨_, call_int1, fun B σ Γ H0 H Q v x ok rx w => ?_⟩
  unfold intG at w
  split at w
  · cases rx.int
    exact .inl ⟨_, rfl, opd_d ok w (.int _)⟩
  · cases rx.bl
    exact .inr ⟨_, rfl, opd_d ok w (.int _)⟩
  · exact w.elim
def boolsOf : List D → Option (List Bool)
  | [] => some []
  | .bool i :: r => (boolsOf r).map (i :: ·)
  | _ :: _ => none
omit [Tbl] in
theorem bools_rp {K : PySem.W.Frag} {H : Hp} : ∀ {xs : List D} {vs : List V} {ns : List Bool}, RpAll K H vs xs → boolsOf xs = some ns → vs = ns.map V.bl
  | [], _, _, r, h => by cases r; cases h; rfl
  | .bool i :: xs, _, ns, r, h => by
    unfold boolsOf at h
    cases hx : boolsOf xs with
    | none => rw [hx] at h; cases h
    | some ms =>
      rw [hx] at h; cases h
      cases r with
      | cons r1 r2 => cases r1; rw [bools_rp r2 hx]; rfl
  | .none :: _, _, _, _, h => by cases h
  | .int _ :: _, _, _, _, h => by cases h
  | .str _ :: _, _, _, _, h => by cases h
  | .list _ :: _, _, _, _, h => by cases h
  | .tuple _ :: _, _, _, _, h => by cases h
  | .dict _ :: _, _, _, _, h => by cases h
def allG : D → Res R
  | .list xs => match boolsOf xs with | some ns => .ok (.d (.bool (ns.all id))) | none => .stuck
  | _ => .stuck
theorem cd_all (hc : X.calm = true) : CallD1 X E (.builtin "all") allG := by
  refine ⟨_, cr_all hc, fun B σ Γ H0 H Q v x ok rx w => ?_⟩
  unfold allG at w
  split at w
  · split at w
    · rename_i ns hns
      obtain ⟨p, vs, rfl, h1, r1⟩ := rx.lst ok.sub
      rw [bools_rp r1 hns] at h1
      exact ⟨p, ns, rfl, SqL.of h1, opd_d ok w (.bl _)⟩
    · exact w.elim
  · exact w.elim
/-- isinstance with a built-in class -/
def tyD : D → Option String
  | .none => some "NoneType"
  | .bool _ => some "bool"
  | .int _ => some "int"
  | .str _ => some "str"
  | .list _ => some "list"
  | .tuple _ => some "tuple"
  | .dict _ => none
def isiB (a b : String) : Bool := a == b || (a == "bool" && b == "int")
def kinds5 : List String := ["NoneType", "bool", "int", "str", "list", "tuple"]
omit [Tbl] in
theorem kit_all : ∀ a ∈ kinds5, ∀ b ∈ ["bool", "int", "str", "list", "tuple"], kitB a b = some (isiB a b) := by decide +kernel
def isiG (T : String) : D → Res R := fun x => match tyD x with | some t => .ok (.d (.bool (isiB t T))) | none => .stuck
omit [Tbl] in
theorem tyD_ok {K : PySem.W.Frag} {H0 H : Hp} {v : V} {x : D} {t : String} (s : Ex H0 H) (r : RpB K H0 H v x) (h : tyD x = some t) : TyX K H v (.type t) ∧ t ∈ kinds5 := by
  cases x with
  | none => cases h; cases r.non; exact ⟨.base .non, by decide⟩
  | bool b => cases h; cases r.bl; exact ⟨.base (.bl _), by decide⟩
  | int i => cases h; cases r.int; exact ⟨.base (.int _), by decide⟩
  | str z => cases h; cases r.str; exact ⟨.base (.str _), by decide⟩
  | list xs =>
    cases h
    obtain ⟨p, vs, rfl, h1, _⟩ := r.lst s
    exact ⟨.base (.lst h1), by decide⟩
  | tuple xs =>
    cases h
    obtain ⟨p, vs, rfl, h1, _⟩ := r.tup s
    refine ⟨?_, by decide⟩
    rcases h1 with (h1 | ⟨o, h1⟩) | ⟨o, its, n, h1, h2, _⟩
    · exact .base (.tup h1)
    · exact .fTuple h1
    · exact .kTuple h1 h2
  | dict _ => cases h
theorem je_isi {x : Str} {p q : Pos} {T : String} {y : Str} {s : Ga → Res (Ga × D)} (hT : T ∈ ["bool", "int", "str", "list", "tuple"]) (hg : Gl X x) (hm : X.mg x = none) (hv : bootBuiltins x = some (.builtin "isinstance")) (hg2 : Gl X y) (hm2 : X.mg y = none) (hv2 : bootBuiltins y = some (.type T))
    (h : JB X E e s) (hn : x ≠ "__name__" := by decide) (hdb : (x == ("__debug__" : Str)) = false := by decide) (hn2 : y ≠ "__name__" := by decide) (hdb2 : (y == ("__debug__" : Str)) = false := by decide)
    (hs : starEach (e :: [.Name y q]) X.env = (false, eval e X.env) :: starEach [.Name y q] X.env := by rfl) (hs2 : starEach (Expr.Name y q :: []) X.env = (false, eval (.Name y q) X.env) :: starEach [] X.env := by rfl) (hpl : (backTo pos (starEach [.Name y q] X.env)).any (·.1) = false := by rfl) :
    JE X E (.Call (.Name x p) [e, .Name y q] [] pos) (sUn (isiG T) s) := by
  obtain ⟨t, pp, ha⟩ := h.ex
  refine ⟨_, pe_callB call_isi hg hm hv (pa_cons pp (pa_cons (pe_bltn (v := .ty T) hg2 hm2 hv2 rfl hn2 hdb2) pa_nil hs2) hs) hn hdb hs hpl, fun B σ Γ H0 H Q ok w => ?_⟩
  show t σ H fun x H1 => rIsi X.K [x, .ty T] H1 Q
  refine b_then ha wok_E ok w fun Γ1 x v H01 H1 w1 ok1 g1 l1 r1 => ?_
  unfold isiG at w1
  split at w1
  · rename_i t' ht
    obtain ⟨h1, h2⟩ := tyD_ok ok1.sub r1 ht
    exact ⟨v, .ty T, _, _, _, rfl, .ty T, h1, kit_ty (kit_all _ h2 _ hT), opd_d ok1 w1 (.bl _)⟩
  · exact w1.elim
end
end Mi
namespace Mi
open PySem L2 Evl
variable [Tbl]

/-! ### slots set -/
section
variable {K : PySem.W.Frag} {B : Bg} {σ : L2.St} {Γ : Ga} {H0 H : Hp}
omit [Tbl] in
theorem set_back {α : Type} {l : List α} {i j : Nat} {x y : α} (h : (l.set i x)[j]? = some y) : (j = i ∧ y = x ∧ i < l.length) ∨ (j ≠ i ∧ l[j]? = some y) := by
  by_cases z : j = i
  · subst z
    by_cases hi : j < l.length
    · rw [List.getElem?_set_self hi] at h; cases h; exact .inl ⟨rfl, rfl, hi⟩
    · rw [List.getElem?_eq_none (by simpa using hi)] at h; cases h
  · rw [List.getElem?_set_ne (Ne.symm z)] at h; exact .inr ⟨z, h⟩
omit [Tbl] in
theorem set_at {α : Type} {l : List α} {i : Nat} {x : α} (h : i < l.length) : (l.set i x)[i]? = some x := List.getElem?_set_self h
omit [Tbl] in
theorem upd_live {H : Hp} {p a : Addr} {o : HO} (q : H p ≠ none) : upd H a o p ≠ none := by
  unfold upd
  split
  · simp
  · exact q
theorem EnvOk.setD (ok : EnvOk K B σ Γ H0 H) {v : V} {x : D} (i : Nat) (r : Rp K H0 v x) : EnvOk K B (σ.set i (some v)) (Γ.set i (.d x)) H0 H where
  sub := ok.sub
  len := by simp [ok.len]
  dat := fun j y h => by
    rcases set_back h with ⟨e, e2, hi⟩ | ⟨e, h⟩
    · cases e2; subst e
      exact ⟨v, set_at (by rw [← ok.len]; exact hi), r⟩
    · obtain ⟨w, e1, q⟩ := ok.dat j y h
      exact ⟨w, by rw [List.getElem?_set_ne (Ne.symm e)]; exact e1, q⟩
  scr := fun j y h => by
    rcases set_back h with ⟨e, e2, hi⟩ | ⟨e, h⟩
    · cases e2
    · obtain ⟨w, e1, q⟩ := ok.scr j y h
      exact ⟨w, by rw [List.getElem?_set_ne (Ne.symm e)]; exact e1, q⟩
  own := fun j b xs h => by
    rcases set_back h with ⟨e, e2, hi⟩ | ⟨e, h⟩
    · cases e2
    · obtain ⟨a, vs, e1, q⟩ := ok.own j b xs h
      exact ⟨a, vs, by rw [List.getElem?_set_ne (Ne.symm e)]; exact e1, q⟩
  apart := fun j k b c xs ys a hjk h1 h2 => by
    rcases set_back h1 with ⟨e, e2, hi⟩ | ⟨e, h1⟩
    · cases e2
    · rcases set_back h2 with ⟨e', e2, hi⟩ | ⟨e', h2⟩
      · cases e2
      · rw [List.getElem?_set_ne (Ne.symm e), List.getElem?_set_ne (Ne.symm e')]
        exact ok.apart j k b c xs ys a hjk h1 h2
  grow := ok.grow
  tabs := ok.tabs
  past := ok.past
  cl := fun j h => by
    rcases set_back h with ⟨_, e2, _⟩ | ⟨e, h⟩
    · cases e2
    · rw [List.getElem?_set_ne (Ne.symm e)]; exact ok.cl j h
theorem EnvOk.setF (ok : EnvOk K B σ Γ H0 H) {a : Addr} {vs : List V} {xs : List D} (i : Nat) (hb : B.He a = none) (n0 : H0 a = none) (e : H a = some (.lst vs)) (r : RpAll K H0 vs xs) (no : ¬ OwnOf σ Γ a) :
    EnvOk K B (σ.set i (some (.ref a))) (Γ.set i (.own false xs)) H0 H where
  sub := ok.sub
  len := by simp [ok.len]
  dat := fun j y h => by
    rcases set_back h with ⟨e, e2, hi⟩ | ⟨e, h⟩
    · cases e2
    · obtain ⟨w, e1, q⟩ := ok.dat j y h
      exact ⟨w, by rw [List.getElem?_set_ne (Ne.symm e)]; exact e1, q⟩
  scr := fun j y h => by
    rcases set_back h with ⟨e, e2, hi⟩ | ⟨e, h⟩
    · cases e2
    · obtain ⟨w, e1, q⟩ := ok.scr j y h
      exact ⟨w, by rw [List.getElem?_set_ne (Ne.symm e)]; exact e1, q⟩
  own := fun j b ys h => by
    rcases set_back h with ⟨z, e2, hi⟩ | ⟨z, h⟩
    · cases e2; subst z
      exact ⟨a, vs, set_at (by rw [← ok.len]; exact hi), n0, e, r, (fun q => nomatch q), fun _ => hb⟩
    · obtain ⟨a, vs, e1, q⟩ := ok.own j b ys h
      exact ⟨a, vs, by rw [List.getElem?_set_ne (Ne.symm z)]; exact e1, q⟩
  apart := fun j k b c ys zs p hjk h1 h2 => by
    rcases set_back h1 with ⟨z, e2, hi⟩ | ⟨z, h1'⟩
    · cases e2; subst z
      rcases set_back h2 with ⟨z', e2, hi⟩ | ⟨z', h2'⟩
      · exact absurd z'.symm hjk
      · rw [set_at (by rw [← ok.len]; exact hi), List.getElem?_set_ne (Ne.symm z')]
        intro q q2
        cases q
        exact no ⟨k, c, zs, h2', q2⟩
    · rcases set_back h2 with ⟨z', e2, hi⟩ | ⟨z', h2'⟩
      · cases e2; subst z'
        rw [set_at (by rw [← ok.len]; exact hi), List.getElem?_set_ne (Ne.symm z)]
        intro q q2
        cases q2
        exact no ⟨j, b, ys, h1', q⟩
      · rw [List.getElem?_set_ne (Ne.symm z), List.getElem?_set_ne (Ne.symm z')]
        exact ok.apart j k b c ys zs p hjk h1' h2'
  grow := ok.grow
  tabs := ok.tabs
  past := ok.past
  cl := fun j h => by
    rcases set_back h with ⟨_, e2, _⟩ | ⟨e, h⟩
    · cases e2
    · rw [List.getElem?_set_ne (Ne.symm e)]; exact ok.cl j h
/-- a list of the def's own is changed -/
theorem Grow.own {i : Nat} {b : Bool} {xs : List D} {a : Addr} {o : HO} (h : Γ[i]? = some (.own b xs)) (e : σ[i]? = some (some (.ref a))) (hl : ∃ vs, H a = some (.lst vs)) : Grow (OwnOf σ Γ) H0 H H0 (upd H a o) :=
  ⟨Ex.refl _, fun p u q n _ => by rw [upd_ne fun z => n ⟨i, b, xs, h, by rw [← z] at e; exact e⟩]; exact q, fun _ _ _ => rfl, fun p q => upd_live q, tabs_upd (.inl hl), fun q => q⟩
theorem EnvOk.setOwn (ok : EnvOk K B σ Γ H0 H) {i : Nat} {b : Bool} {xs ys : List D} {a : Addr} {ws : List V} (h : Γ[i]? = some (.own b xs)) (e : σ[i]? = some (some (.ref a))) (r : RpAll K H0 ws ys) :
    EnvOk K B σ (Γ.set i (.own b ys)) H0 (upd H a (.lst ws)) := by
  obtain ⟨a', vs, q1, q2, q3, q4, q5, q6⟩ := ok.own i b xs h
  rw [e] at q1; cases q1
  refine ok.step (Grow.own h e ⟨_, q3⟩) (ok.sub.mut q2) (fun j x hj => ?_) (fun j ns hj => ?_) fun j c zs hj => ?_
  · rcases set_back hj with ⟨_, z, _⟩ | ⟨_, z⟩
    · cases z
    · exact .inl z
  · rcases set_back hj with ⟨_, z, _⟩ | ⟨_, z⟩
    · cases z
    · exact z
  · rcases set_back hj with ⟨z1, z, _⟩ | ⟨z1, z⟩
    · cases z; subst z1
      exact ⟨xs, h, fun p hp => by rw [e] at hp; cases hp; exact ⟨q2, ws, upd_same, r⟩⟩
    · refine ⟨zs, z, fun p hp => ?_⟩
      obtain ⟨p', us, p1, p2, p3, p4, _⟩ := ok.own j c zs z
      rw [hp] at p1; cases p1
      refine ⟨p2, us, ?_, p4⟩
      rw [upd_ne fun y => ok.apart j i c b zs xs p z1 z h hp (by rw [e, y])]; exact p3
omit [Tbl] in
theorem Less.setOwn {i : Nat} {b : Bool} {xs ys : List D} (h : Γ[i]? = some (.own b xs)) : Less Γ (Γ.set i (.own b ys)) := fun j c zs hj => by
  rcases set_back hj with ⟨z1, z, _⟩ | ⟨_, z⟩
  · cases z; subst z1; exact ⟨xs, h⟩
  · exact ⟨zs, z⟩
/-- an object that is neither data nor a slot's changes -/
theorem Grow.poke {D : Addr} {o : HO} (hl : (∃ vs, H D = some (.lst vs)) ∨ H D = none) : Grow (fun p => p = D) H0 H H0 (upd H D o) :=
  ⟨Ex.refl _, fun p u q n _ => by rw [upd_ne n]; exact q, fun _ _ _ => rfl, fun p q => upd_live q, tabs_upd hl, fun q => q⟩
theorem EnvOk.poke (ok : EnvOk K B σ Γ H0 H) {D : Addr} {o : HO} (n0 : H0 D = none) (no : ¬ OwnOf σ Γ D) (hb : B.He D = none) (hl : (∃ vs, H D = some (.lst vs)) ∨ H D = none) : EnvOk K B σ Γ H0 (upd H D o) where
  sub := ok.sub.mut n0
  len := ok.len
  dat := ok.dat
  scr := ok.scr
  own := fun i b xs h => by
    obtain ⟨a, vs, q1, q2, q3, q⟩ := ok.own i b xs h
    exact ⟨a, vs, q1, q2, by rw [upd_ne fun z => no ⟨i, b, xs, h, by rw [← z]; exact q1⟩]; exact q3, q⟩
  apart := ok.apart
  grow := ok.grow.trans (Grow.poke hl) fun p z => .inr (by rw [z]; exact hb)
  tabs := tabs_upd hl ok.tabs
  past := ok.past
  cl := ok.cl
end

/-! ### statements -/
inductive RVB (K : PySem.W.Frag) (B : Bg) (H0 H : Hp) : R → V → Prop
  | d {x : D} {v : V} : Rp K H0 v x → RVB K B H0 H (.d x) v
  | f {xs : List D} {a : Addr} {vs : List V} : B.He a = none → H0 a = none → H a = some (.lst vs) → RpAll K H0 vs xs → RVB K B H0 H (.f xs) (.ref a)
def FlOk (K : PySem.W.Frag) (B : Bg) (H0 H : Hp) (σ : L2.St) (Dn : Ends) : Fl → Prop
  | .nx => Dn.nx σ H
  | .bk => Dn.bk σ H
  | .ct => Dn.ct σ H
  | .rt r => ∀ v, RVB K B H0 H r v → Dn.rt v H
def SW (X : Cx) (B : Bg) (E : XK) (H0 : Hp) (r : Res (Ga × Fl)) (Dn : Ends) : Prop := match r with
  | .ok (Γ', fl) => ∀ σ' H0' H', EnvOk X.K B σ' Γ' H0' H' → Ex H0 H0' → FlOk X.K B H0' H' σ' Dn fl
  | .exc c x => XW X B E c x
  | .stuck => False
structure JS (X : Cx) (E : XK) (st : Stmt) (s : Ga → Res (Ga × Fl)) : Prop where
  ex : ∃ t, PS X st t ∧ ∀ B σ Γ H0 H Dn, EnvOk X.K B σ Γ H0 H → SW X B E H0 (s Γ) Dn → t Dn σ H
structure JSs (X : Cx) (E : XK) (st : List Stmt) (s : Ga → Res (Ga × Fl)) : Prop where
  ex : ∃ t, PSs X st t ∧ ∀ B σ Γ H0 H Dn, EnvOk X.K B σ Γ H0 H → SW X B E H0 (s Γ) Dn → t Dn σ H
structure JG (X : Cx) (tg : Expr) (g : D → Ga → Option Ga) : Prop where
  ex : ∃ t, PG X tg t ∧ ∀ B σ Γ H0 H v x Γ' Q, EnvOk X.K B σ Γ H0 H → Rp X.K H0 v x → g x Γ = some Γ' → (∀ σ', EnvOk X.K B σ' Γ' H0 H → Q σ' H) → t v σ H Q
structure JGs (X : Cx) (tg : List Expr) (g : List D → Ga → Option Ga) : Prop where
  ex : ∃ t, PGs X tg t ∧ ∀ B σ Γ H0 H v x Γ' Q, EnvOk X.K B σ Γ H0 H → RpAll X.K H0 v x → g x Γ = some Γ' → (∀ σ', EnvOk X.K B σ' Γ' H0 H → Q σ' H) → t v σ H Q
section
variable {X : Cx} {E : XK} {B : Bg} {st : Stmt} {rest : List Stmt} {s u : Ga → Res (Ga × Fl)} {e a b c tg : Expr} {pos pos' : Pos}
theorem wok_S {σ : L2.St} {Dn : Ends} : WOk X B E σ fun (Γ : Ga) H0 (H : Hp) r => SW X B E H0 r Dn where
  exc := fun _ _ _ _ _ h => h
  stuck := fun _ _ _ h => h
  shift := fun Γ H0 H Γ1 H01 H1 r ok g l w => by
    cases r with
    | stuck => exact w
    | exc c x => exact w
    | ok p => exact fun σ' H0' H' o' e' => w σ' H0' H' o' (g.ex0.trans e')
def sSkip : Ga → Res (Ga × Fl) := fun Γ => .ok (Γ, .nx)
def sSeq (s u : Ga → Res (Ga × Fl)) : Ga → Res (Ga × Fl) := fun Γ => (s Γ).bind fun p => match p.2 with | .nx => u p.1 | fl => .ok (p.1, fl)
theorem jss_nil : JSs X E [] sSkip := ⟨_, pss_nil, fun B σ Γ H0 H Dn ok w => w σ H0 H ok (Ex.refl _)⟩
theorem jss_one (h : JS X E st s) : JSs X E [st] s := let ⟨t, p, q⟩ := h.ex; ⟨t, pss_one p, q⟩
theorem jss_cons (h : JS X E st s) (hr : JSs X E rest u) : JSs X E (st :: rest) (sSeq s u) := by
  obtain ⟨t, p, ha⟩ := h.ex
  obtain ⟨t', p', hb⟩ := hr.ex
  refine ⟨_, pss_cons p p', fun B σ Γ H0 H Dn ok w => ?_⟩
  show t { Dn with nx := t' Dn } σ H
  refine ha B σ Γ H0 H _ ok ?_
  unfold sSeq at w
  cases hs : s Γ with
  | stuck => rw [hs] at w; exact w
  | exc c x => rw [hs] at w; exact w
  | ok q =>
    obtain ⟨Γ1, fl⟩ := q
    rw [hs] at w
    intro σ1 H01 H1 ok1 e1
    cases fl with
    | nx =>
      refine hb B σ1 Γ1 H01 H1 Dn ok1 ?_
      have w : SW X B E H0 (u Γ1) Dn := w
      cases hu : u Γ1 with
      | stuck => rw [hu] at w; exact w
      | exc c x => rw [hu] at w; exact w
      | ok q => rw [hu] at w; exact fun σ' H0' H' o' e' => w σ' H0' H' o' (e1.trans e')
    | bk => exact w σ1 H01 H1 ok1 e1
    | ct => exact w σ1 H01 H1 ok1 e1
    | rt r => exact w σ1 H01 H1 ok1 e1
theorem js_pass : JS X E (.Pass pos) sSkip := ⟨_, ps_pass, fun B σ Γ H0 H Dn ok w => w σ H0 H ok (Ex.refl _)⟩
def sBrk : Ga → Res (Ga × Fl) := fun Γ => .ok (Γ, .bk)
def sCnt : Ga → Res (Ga × Fl) := fun Γ => .ok (Γ, .ct)
theorem js_break : JS X E (.Break pos) sBrk := ⟨_, ps_break, fun B σ Γ H0 H Dn ok w => w σ H0 H ok (Ex.refl _)⟩
theorem js_continue : JS X E (.Continue pos) sCnt := ⟨_, ps_continue, fun B σ Γ H0 H Dn ok w => w σ H0 H ok (Ex.refl _)⟩
def sNever : Ga → Res (Ga × Fl) := fun _ => .stuck
theorem js_never : JS X E st sNever := ⟨_, ps_never, fun B σ Γ H0 H Dn ok w => w.elim⟩
def sCond (c : Ga → Res (Ga × Bool)) (s u : Ga → Res (Ga × Fl)) : Ga → Res (Ga × Fl) := fun Γ => (c Γ).bind fun p => if p.2 = true then s p.1 else u p.1
theorem js_if {sc : Ga → Res (Ga × Bool)} {ss us : List Stmt} (hc : JT X E c sc) (ha : JSs X E ss s) (hb : JSs X E us u) : JS X E (.If c ss us pos) (sCond sc s u) := by
  obtain ⟨tc, pc, hc⟩ := hc.ex
  obtain ⟨ta, pa, ha⟩ := ha.ex
  obtain ⟨tb, pb, hb⟩ := hb.ex
  refine ⟨_, ps_if pc pa pb, fun B σ Γ H0 H Dn ok w => ?_⟩
  show tc σ H fun b H1 => if b = true then ta Dn σ H1 else tb Dn σ H1
  refine t_then hc wok_S ok w fun Γ1 c H01 H1 w1 ok1 g1 l1 => ?_
  cases c with
  | true => exact ha B σ Γ1 H01 H1 Dn ok1 w1
  | false => exact hb B σ Γ1 H01 H1 Dn ok1 w1
def slotOf : R → Sl
  | .d x => .d x
  | .f xs => .own false xs
def sSet (i : Nat) (s : Ga → Res (Ga × R)) : Ga → Res (Ga × Fl) := fun Γ => (s Γ).bind fun p => .ok (p.1.set i (slotOf p.2), .nx)
theorem RV.he {K : PySem.W.Frag} {σ : L2.St} {Γ : Ga} {H0 H : Hp} {a : Addr} (ok : EnvOk K B σ Γ H0 H) (n : H a = none) : B.He a = none := by
  cases q : B.He a with
  | none => rfl
  | some o => exact absurd n (ok.grow.live a (by rw [q]; simp))
theorem set_ok {K : PySem.W.Frag} {σ : L2.St} {Γ Γ1 : Ga} {H0 H H01 H1 : Hp} {x : R} {v : V} (i : Nat) (ok0 : EnvOk K B σ Γ H0 H) (ok : EnvOk K B σ Γ1 H01 H1) (l : Less Γ Γ1) (r : RV K H0 H H01 H1 x v) : EnvOk K B (σ.set i (some v)) (Γ1.set i (slotOf x)) H01 H1 := by
  cases r with
  | d r => exact ok.setD i r
  | f n n0 e r => exact ok.setF i (RV.he ok0 n) n0 e r fun z => (ok0.ownLive (l.own z)).1 n
/-- x = e -/
theorem js_set {i : Nat} {x : Str} {se : Ga → Res (Ga × R)} (hN : X.N.Nodup) (hi : X.N[i]? = some x) (hx : Loc X.env.scope x) (he : JE X E e se) (hs : swapsWith e (some (.Name x pos')) pos.line X.env = pure false := by rfl)
    (hf : X.fn x = true ∨ X.env.scope.names.lookup x = some .local := by first | exact .inl rfl | exact .inr rfl | assumption) : JS X E (.Assign [.Name x pos'] e pos) (sSet i se) := by
  obtain ⟨t, p, ha⟩ := he.ex
  refine ⟨_, ps_set hN hi hx p hs hf, fun B σ Γ H0 H Dn ok w => ?_⟩
  show t σ H fun x H1 => Dn.nx (σ.set i (some x)) H1
  refine e_then ha wok_S ok w fun Γ1 x v H01 H1 w1 ok1 g1 l1 r1 => ?_
  exact w1 _ H01 H1 (set_ok i ok ok1 l1 r1) (Ex.refl _)
def sRet (s : Ga → Res (Ga × R)) : Ga → Res (Ga × Fl) := fun Γ => (s Γ).bind fun p => .ok (p.1, .rt p.2)
theorem js_ret {se : Ga → Res (Ga × R)} (he : JE X E e se) : JS X E (.Return (some e) pos) (sRet se) := by
  obtain ⟨t, p, ha⟩ := he.ex
  refine ⟨_, ps_ret p, fun B σ Γ H0 H Dn ok w => ?_⟩
  show t σ H Dn.rt
  refine e_then ha wok_S ok w fun Γ1 x v H01 H1 w1 ok1 g1 l1 r1 => ?_
  refine w1 σ H01 H1 ok1 (Ex.refl _) v ?_
  cases r1 with
  | d r => exact .d r
  | f n n0 e r => exact .f (RV.he ok n) n0 e r
theorem js_retN : JS X E (.Return none pos) (fun Γ => .ok (Γ, .rt (.d .none))) := ⟨_, ps_retN, fun B σ Γ H0 H Dn ok w => w σ H0 H ok (Ex.refl _) .non (.d .non)⟩
/-- return x: a list of the def's own goes out as a new one -/
def sRetN (i : Nat) : Ga → Res (Ga × Fl) := fun Γ => match Γ[i]? with
  | some (.d x) => .ok (Γ, .rt (.d x))
  | some (.own false xs) => .ok (Γ.set i .un, .rt (.f xs))
  | _ => .stuck
theorem EnvOk.drop {K : PySem.W.Frag} {σ : L2.St} {Γ : Ga} {H0 H : Hp} (ok : EnvOk K B σ Γ H0 H) (i : Nat) : EnvOk K B σ (Γ.set i .un) H0 H where
  sub := ok.sub
  len := by simp [ok.len]
  dat := fun j y h => by
    rcases set_back h with ⟨e, e2, hi⟩ | ⟨e, h⟩
    · cases e2
    · exact ok.dat j y h
  scr := fun j y h => by
    rcases set_back h with ⟨e, e2, hi⟩ | ⟨e, h⟩
    · cases e2
    · exact ok.scr j y h
  own := fun j b xs h => by
    rcases set_back h with ⟨e, e2, hi⟩ | ⟨e, h⟩
    · cases e2
    · exact ok.own j b xs h
  apart := fun j k b c xs ys a hjk h1 h2 => by
    rcases set_back h1 with ⟨e, e2, hi⟩ | ⟨e, h1⟩
    · cases e2
    · rcases set_back h2 with ⟨e', e2, hi⟩ | ⟨e', h2⟩
      · cases e2
      · exact ok.apart j k b c xs ys a hjk h1 h2
  grow := ok.grow
  tabs := ok.tabs
  past := ok.past
  cl := fun j h => ok.cl j (cl_of_set (by nofun) j h)
theorem js_retName {i : Nat} (h : PE X e (tVar i)) : JS X E (.Return (some e) pos) (sRetN i) := by
  refine ⟨_, ps_ret h, fun B σ Γ H0 H Dn ok w => ?_⟩
  show ∃ v, σ[i]? = some (some v) ∧ Dn.rt v H
  unfold sRetN at w
  split at w
  · rename_i x hx
    obtain ⟨v, e1, r⟩ := ok.dat i x hx
    exact ⟨v, e1, w σ H0 H ok (Ex.refl _) v (.d r)⟩
  · rename_i xs hx
    obtain ⟨a, vs, q1, q2, q3, q4, q5, q6⟩ := ok.own i _ _ hx
    exact ⟨.ref a, q1, w σ H0 H (ok.drop i) (Ex.refl _) _ (.f (q6 rfl) q2 q3 q4)⟩
  · exact w.elim
def sDrop (s : Ga → Res (Ga × R)) : Ga → Res (Ga × Fl) := fun Γ => (s Γ).bind fun p => .ok (p.1, .nx)
theorem js_expr {se : Ga → Res (Ga × R)} (he : JE X E e se) (hs : swapsWith e none pos.line X.env = pure false := by rfl) : JS X E (.Expr e pos) (sDrop se) := by
  obtain ⟨t, p, ha⟩ := he.ex
  refine ⟨_, ps_expr p hs, fun B σ Γ H0 H Dn ok w => ?_⟩
  show t σ H fun _ H1 => Dn.nx σ H1
  exact e_then ha wok_S ok w fun Γ1 x v H01 H1 w1 ok1 g1 l1 r1 => w1 σ H01 H1 ok1 (Ex.refl _)
theorem js_doc {x j} : JS X E (.Expr (.Constant (.str x) j pos) pos') sSkip := ⟨_, ps_doc, fun B σ Γ H0 H Dn ok w => w σ H0 H ok (Ex.refl _)⟩

/-! ### targets -/
def gN (i : Nat) : D → Ga → Option Ga := fun x Γ => some (Γ.set i (.d x))
theorem jg_name {i : Nat} {x : Str} (hN : X.N.Nodup) (hi : X.N[i]? = some x) (hx : Loc X.env.scope x) (hf : X.fn x = true ∨ X.env.scope.names.lookup x = some .local := by first | exact .inl rfl | exact .inr rfl | assumption) : JG X (.Name x pos) (gN i) :=
  ⟨_, pg_name hN hi hx hf, fun B σ Γ H0 H v x Γ' Q ok r e k => by cases e; exact k _ (ok.setD i r)⟩
def gNil' : List D → Ga → Option Ga := fun xs Γ => match xs with | [] => some Γ | _ => none
def gCons' (g : D → Ga → Option Ga) (h : List D → Ga → Option Ga) : List D → Ga → Option Ga := fun xs Γ => match xs with | x :: r => (g x Γ).bind (h r) | [] => none
theorem jgs_nil : JGs X [] gNil' := ⟨_, pgs_nil, fun B σ Γ H0 H v x Γ' Q ok r e k => by
  cases r with
  | nil => cases e; exact ⟨rfl, k σ ok⟩
  | cons _ _ => cases e⟩
theorem jgs_cons {es : List Expr} {g : D → Ga → Option Ga} {h : List D → Ga → Option Ga} (h1 : JG X e g) (h2 : JGs X es h) (hs : (assignEach (e :: es) X.env).map (·.2) = assign e X.env :: (assignEach es X.env).map (·.2) := by rfl) : JGs X (e :: es) (gCons' g h) := by
  obtain ⟨t, p, ha⟩ := h1.ex
  obtain ⟨t', p', hb⟩ := h2.ex
  refine ⟨_, pgs_cons p p' hs, fun B σ Γ H0 H v x Γ' Q ok r e k => ?_⟩
  cases r with
  | nil => cases e
  | cons r1 r2 =>
    rename_i v1 vs x1 xs
    have e : (g x1 Γ).bind (h xs) = some Γ' := e
    cases hg : g x1 Γ with
    | none => rw [hg] at e; cases e
    | some Γ1 =>
      rw [hg] at e
      exact ⟨v1, vs, rfl, ha B σ Γ H0 H v1 x1 Γ1 _ ok r1 hg fun σ1 ok1 => hb B σ1 Γ1 H0 H vs xs Γ' Q ok1 r2 e k⟩
def gTup' (h : List D → Ga → Option Ga) (n : Nat) : D → Ga → Option Ga := fun x Γ => match x with | .tuple xs => if xs.length = n then h xs Γ else none | _ => none
theorem jg_tup {es : List Expr} {k n : Nat} {h : List D → Ga → Option Ga} (hc : X.calm = true) (hh : JGs X es h) (hn : (assignEach es X.env).length = n := by rfl) (hst : (assignEach es X.env).findIdx? (·.1) = none := by rfl) : JG X (.Tuple es k pos) (gTup' h n) := by
  obtain ⟨t, p, ha⟩ := hh.ex
  refine ⟨_, pg_tup hc p hn hst, fun B σ Γ H0 H v x Γ' Q ok r e k => ?_⟩
  unfold gTup' at e
  split at e
  · split at e
    · rename_i xs hl
      cases r with
      | tup h1 h2 => exact ⟨_, _, rfl, ex_t ok.sub h1, by rw [h2.len]; exact hl, ha B σ Γ H0 H _ xs Γ' Q ok h2 e k⟩
    · cases e
  · cases e
/-- target = e -/
def sAsg (g : D → Ga → Option Ga) (s : Ga → Res (Ga × D)) : Ga → Res (Ga × Fl) := fun Γ => (s Γ).bind fun p => match g p.2 p.1 with | some Γ' => .ok (Γ', .nx) | none => .stuck
theorem js_asg {g : D → Ga → Option Ga} {se : Ga → Res (Ga × D)} (he : JD X E e se) (hg : JG X tg g) (hs : swapsWithSole [tg] e pos.line X.env = pure false := by rfl) (hw : swappedStores [tg] e X.env = pure none := by rfl)
    (h1 : (assignEach [tg] X.env).map (·.2) = [assign tg X.env] := by rfl) : JS X E (.Assign [tg] e pos) (sAsg g se) := by
  obtain ⟨t, p, ha⟩ := he.ex
  obtain ⟨t', p', hb⟩ := hg.ex
  refine ⟨_, ps_asg p p' hs hw h1, fun B σ Γ H0 H Dn ok w => ?_⟩
  show t σ H fun x H1 => t' x σ H1 Dn.nx
  refine d_then ha wok_S ok w fun Γ1 x v H01 H1 w1 ok1 g1 l1 r1 => ?_
  cases hg : g x Γ1 with
  | none => simp only [hg] at w1; exact w1.elim
  | some Γ2 =>
    simp only [hg] at w1
    exact hb B σ Γ1 H01 H1 v x Γ2 _ ok1 r1 hg fun σ2 ok2 => w1 σ2 H01 H1 ok2 (Ex.refl _)
end
end Mi
namespace Mi
open PySem L2 Evl
variable [Tbl]

/-! ### what is walked -/
/-- the walk J yields the data xs, one by one, while H0 stands -/
structure ItOk (K : PySem.W.Frag) (J : It) (xs : List D) (H0 : Hp) : Prop where
  stop : ∀ (i : Nat) H0i Hi, Ex H0 H0i → Ex H0i Hi → xs.length ≤ i → J.stop i Hi
  go : ∀ (i : Nat) H0i Hi, Ex H0 H0i → Ex H0i Hi → i < xs.length → J.go i Hi
  yld : ∀ (i : Nat) x H0i Hi v H', Ex H0 H0i → Ex H0i Hi → xs[i]? = some x → J.yld i Hi v H' → ∃ H0', Grow (fun _ => False) H0i Hi H0' H' ∧ Ex H0' H' ∧ Rp K H0' v x
structure JI (X : Cx) (E : XK) (tg iter : Expr) (s : Ga → Res (Ga × List D)) : Prop where
  ex : ∃ wi, PI X tg iter wi ∧ ∀ B σ Γ H0 H R, EnvOk X.K B σ Γ H0 H → (match s Γ with
    | .ok (Γ', xs) => ∀ J H0' H', EnvOk X.K B σ Γ' H0' H' → Grow (OwnOf σ Γ) H0 H H0' H' → Less Γ Γ' → ItOk X.K J xs H0' → R J H'
    | .exc c x => XW X B E c x
    | .stuck => False) → wi σ H R
section
variable {X : Cx} {E : XK} {e a b tg iter elt : Expr} {pos : Pos} {K : PySem.W.Frag}
theorem itok_list {p : Addr} {vs : List V} {xs : List D} {H0 : Hp} (h : H0 p = some (.lst vs)) (r : RpAll K H0 vs xs) : ItOk K (Itl K p) xs H0 where
  stop := fun i H0i Hi e1 e2 hi => ⟨vs, SqL.of (e2 _ _ (e1 _ _ h)), by rw [r.len]; exact hi⟩
  go := fun i H0i Hi e1 e2 hi => ⟨vs, vs[i]'(by rw [r.len]; exact hi), SqL.of (e2 _ _ (e1 _ _ h)), List.getElem?_eq_getElem _⟩
  yld := fun i x H0i Hi v H' e1 e2 hx y => by
    obtain ⟨rfl, hv⟩ := y
    have e := hv vs (SqL.of (e2 _ _ (e1 _ _ h)))
    obtain ⟨w, e', r'⟩ := r.get hx
    rw [e] at e'; cases e'
    exact ⟨H0i, Grow.refl _ _ _, e2, r'.m e1⟩
theorem itok_tup {p : Addr} {vs : List V} {xs : List D} {H0 : Hp} (h : SqT K H0 p vs) (r : RpAll K H0 vs xs) : ItOk K (Itt K p) xs H0 where
  stop := fun i H0i Hi e1 e2 hi => ⟨vs, ex_t e2 (ex_t e1 h), by rw [r.len]; exact hi⟩
  go := fun i H0i Hi e1 e2 hi => ⟨vs, vs[i]'(by rw [r.len]; exact hi), ex_t e2 (ex_t e1 h), List.getElem?_eq_getElem _⟩
  yld := fun i x H0i Hi v H' e1 e2 hx y => by
    obtain ⟨rfl, hv⟩ := y
    have e := hv vs (ex_t e2 (ex_t e1 h))
    obtain ⟨w, e', r'⟩ := r.get hx
    rw [e] at e'; cases e'
    exact ⟨H0i, Grow.refl _ _ _, e2, r'.m e1⟩
def rangeD (lo : Int) (n : Nat) : List D := (List.range n).map fun (i : Nat) => .int (lo + i)
theorem itok_rng {lo : Int} {n : Nat} {H0 : Hp} : ItOk K (Itr lo n) (rangeD lo n) H0 where
  stop := fun i H0i Hi e1 e2 hi => by simp only [rangeD, List.length_map, List.length_range] at hi; exact hi
  go := fun i H0i Hi e1 e2 hi => by simp only [rangeD, List.length_map, List.length_range] at hi; exact hi
  yld := fun i x H0i Hi v H' e1 e2 hx y => by
    obtain ⟨rfl, rfl⟩ := y
    have : x = .int (lo + i) := by
      unfold rangeD at hx
      rw [List.getElem?_map] at hx
      cases q : (List.range n)[i]? with
      | none => rw [q] at hx; cases hx
      | some j =>
        rw [q] at hx
        have := List.getElem?_range (n := n) (i := i) (by
          have := (List.getElem?_eq_some_iff.mp q).1; simpa using this)
        rw [q] at this; cases this; cases hx; rfl
    subst this
    exact ⟨H0i, Grow.refl _ _ _, e2, .int _⟩
def pairUp (xs ys : List D) : List D := (xs.zip ys).map fun p => .tuple [p.1, p.2]
def numb : Int → List D → List D
  | _, [] => []
  | i, x :: r => .tuple [.int i, x] :: numb (i + 1) r
omit [Tbl] in
theorem numb_len : ∀ (xs : List D) (i : Int), (numb i xs).length = xs.length
  | [], _ => rfl
  | _ :: r, i => by simp [numb, numb_len r]
omit [Tbl] in
theorem numb_get : ∀ (xs : List D) (i : Int) (j : Nat), (numb i xs)[j]? = (xs[j]?).map fun x => .tuple [.int (i + j), x]
  | [], _, _ => by simp [numb]
  | x :: r, i, 0 => by simp [numb]
  | x :: r, i, j + 1 => by
    simp only [numb, List.getElem?_cons_succ, numb_get r]
    congr 1; funext y; congr 3; omega
theorem new_tup {H0i Hi : Hp} {T : Addr} {vs : List V} {xs : List D} (hT : Hi T = none) (e2 : Ex H0i Hi) (r : RpAll K H0i vs xs) : ∃ H0', Grow (fun _ => False) H0i Hi H0' (upd Hi T (.tup vs)) ∧ Ex H0' (upd Hi T (.tup vs)) ∧ Rp K H0' (.ref T) (.tuple xs) :=
  ⟨upd H0i T (.tup vs), Grow.data hT e2, Ex.upd2 e2, .tup (SqT.of upd_same) (r.m (Ex.new (fresh_back e2 hT)))⟩
theorem itok_enum {p : Addr} {vs : List V} {xs : List D} {H0 : Hp} (h : H0 p = some (.lst vs)) (r : RpAll K H0 vs xs) : ItOk K (Ite K p) (numb 0 xs) H0 where
  stop := fun i H0i Hi e1 e2 hi => ⟨vs, SqL.of (e2 _ _ (e1 _ _ h)), by rw [r.len, ← numb_len xs 0]; exact hi⟩
  go := fun i H0i Hi e1 e2 hi => ⟨vs, vs[i]'(by rw [r.len, ← numb_len xs 0]; exact hi), SqL.of (e2 _ _ (e1 _ _ h)), List.getElem?_eq_getElem _⟩
  yld := fun i x H0i Hi v H' e1 e2 hx y => by
    obtain ⟨T, w, rfl, hT, rfl, hv⟩ := y
    have e := hv vs (SqL.of (e2 _ _ (e1 _ _ h)))
    rw [numb_get] at hx
    obtain ⟨z, hz, rfl⟩ := Option.map_eq_some_iff.mp hx
    obtain ⟨w', e', r'⟩ := r.get hz
    rw [e] at e'; cases e'
    refine new_tup hT e2 (.cons ?_ (.one (r'.m e1)))
    rw [Int.zero_add]; exact .int _
omit [Tbl] in
theorem pair_get {xs ys : List D} {i : Nat} {z : D} (h : (pairUp xs ys)[i]? = some z) : ∃ x y, xs[i]? = some x ∧ ys[i]? = some y ∧ z = .tuple [x, y] := by
  unfold pairUp at h
  rw [List.getElem?_map] at h
  obtain ⟨p, hp, rfl⟩ := Option.map_eq_some_iff.mp h
  obtain ⟨h1, h2⟩ := List.getElem?_zip_eq_some.mp hp
  exact ⟨p.1, p.2, h1, h2, rfl⟩
omit [Tbl] in
theorem pair_len (xs ys : List D) : (pairUp xs ys).length = min xs.length ys.length := by simp [pairUp]
theorem itok_zip {p q : Addr} {vs us : List V} {xs ys : List D} {H0 : Hp} (h : H0 p = some (.lst vs)) (r : RpAll K H0 vs xs) (h' : H0 q = some (.lst us)) (r' : RpAll K H0 us ys) : ItOk K (Itz K p q) (pairUp xs ys) H0 where
  stop := fun i H0i Hi e1 e2 hi => ⟨vs, us, SqL.of (e2 _ _ (e1 _ _ h)), SqL.of (e2 _ _ (e1 _ _ h')), by rw [r.len, r'.len]; rw [pair_len] at hi; omega⟩
  go := fun i H0i Hi e1 e2 hi => by
    rw [pair_len] at hi
    exact ⟨vs, us, vs[i]'(by rw [r.len]; omega), us[i]'(by rw [r'.len]; omega), SqL.of (e2 _ _ (e1 _ _ h)), SqL.of (e2 _ _ (e1 _ _ h')), List.getElem?_eq_getElem _, List.getElem?_eq_getElem _⟩
  yld := fun i x H0i Hi v H' e1 e2 hx y => by
    obtain ⟨T, w, w', rfl, hT, rfl, hv, hv'⟩ := y
    have e := hv vs (SqL.of (e2 _ _ (e1 _ _ h)))
    have e' := hv' us (SqL.of (e2 _ _ (e1 _ _ h')))
    obtain ⟨z, z', hz, hz', rfl⟩ := pair_get hx
    obtain ⟨_, q1, r1⟩ := r.get hz
    obtain ⟨_, q2, r2⟩ := r'.get hz'
    rw [e] at q1; cases q1
    rw [e'] at q2; cases q2
    exact new_tup hT e2 (.cons (r1.m e1) (.one (r2.m e1)))
theorem itok_zipT {p q : Addr} {vs us : List V} {xs ys : List D} {H0 : Hp} (h : SqT K H0 p vs) (r : RpAll K H0 vs xs) (h' : SqT K H0 q us) (r' : RpAll K H0 us ys) : ItOk K (RZ.ItzT K p q) (pairUp xs ys) H0 where
  stop := fun i H0i Hi e1 e2 hi => ⟨vs, us, ex_t e2 (ex_t e1 h), ex_t e2 (ex_t e1 h'), by rw [r.len, r'.len]; rw [pair_len] at hi; omega⟩
  go := fun i H0i Hi e1 e2 hi => by
    rw [pair_len] at hi
    exact ⟨vs, us, vs[i]'(by rw [r.len]; omega), us[i]'(by rw [r'.len]; omega), ex_t e2 (ex_t e1 h), ex_t e2 (ex_t e1 h'), List.getElem?_eq_getElem _, List.getElem?_eq_getElem _⟩
  yld := fun i x H0i Hi v H' e1 e2 hx y => by
    obtain ⟨T, w, w', rfl, hT, rfl, hv, hv'⟩ := y
    have e := hv vs (ex_t e2 (ex_t e1 h))
    have e' := hv' us (ex_t e2 (ex_t e1 h'))
    obtain ⟨z, z', hz, hz', rfl⟩ := pair_get hx
    obtain ⟨_, q1, r1⟩ := r.get hz
    obtain ⟨_, q2, r2⟩ := r'.get hz'
    rw [e] at q1; cases q1
    rw [e'] at q2; cases q2
    exact new_tup hT e2 (.cons (r1.m e1) (.one (r2.m e1)))
def IW (X : Cx) (B : Bg) (E : XK) (σ : L2.St) (Γ : Ga) (H0 H : Hp) (r : Res (Ga × List D)) (R : It → Hp → Prop) : Prop := match r with
    | .ok (Γ', xs) => ∀ J H0' H', EnvOk X.K B σ Γ' H0' H' → Grow (OwnOf σ Γ) H0 H H0' H' → Less Γ Γ' → ItOk X.K J xs H0' → R J H'
    | .exc c x => XW X B E c x
    | .stuck => False
theorem wok_I {B : Bg} {σ : L2.St} {R : It → Hp → Prop} : WOk X B E σ fun Γ H0 H r => IW X B E σ Γ H0 H r R where
  exc := fun _ _ _ _ _ h => h
  stuck := fun _ _ _ h => h
  shift := fun Γ H0 H Γ1 H01 H1 r ok g l w => by
    cases r with
    | stuck => exact w
    | exc c x => exact w
    | ok p => exact fun J H0' H' o' g' l' r' => w J H0' H' o' (shift_g g l g') (l.trans l') r'
def iterL (x : D) : Res (List D) := match x with | .list xs => .ok xs | _ => .stuck
def iterT (x : D) : Res (List D) := match x with | .tuple xs => .ok xs | _ => .stuck
def sIt (f : D → Res (List D)) (s : Ga → Res (Ga × D)) : Ga → Res (Ga × List D) := fun Γ => (s Γ).bind fun p => (f p.2).bind fun xs => .ok (p.1, xs)
theorem ji_list {s : Ga → Res (Ga × D)} (h : JD X E e s) : JI X E tg e (sIt iterL s) := by
  obtain ⟨t, p, ha⟩ := h.ex
  refine ⟨_, pi_list p, fun B σ Γ H0 H R ok w => ?_⟩
  have w : IW X B E σ Γ H0 H (sIt iterL s Γ) R := w
  show t σ H fun x H1 => ∃ a, x = .ref a ∧ (∃ xs, SqL X.K H1 a xs) ∧ R (Itl X.K a) H1
  refine d_then ha wok_I ok w fun Γ1 x v H01 H1 w1 ok1 g1 l1 r1 => ?_
  unfold iterL at w1
  split at w1
  · rename_i xs hx
    have hx : x = .list xs := hx
    subst hx
    cases r1 with
    | lst h1 h2 => exact ⟨_, rfl, ⟨_, SqL.of (ok1.sub _ _ h1)⟩, w1 _ H01 H1 ok1 (Grow.refl _ _ _) (Less.refl _) (itok_list h1 h2)⟩
  · exact w1.elim
theorem ji_tup {s : Ga → Res (Ga × D)} (h : JD X E e s) : JI X E tg e (sIt iterT s) := by
  obtain ⟨t, p, ha⟩ := h.ex
  refine ⟨_, pi_tup p, fun B σ Γ H0 H R ok w => ?_⟩
  have w : IW X B E σ Γ H0 H (sIt iterT s Γ) R := w
  show t σ H fun x H1 => ∃ a, x = .ref a ∧ (∃ xs, SqT X.K H1 a xs) ∧ R (Itt X.K a) H1
  refine d_then ha wok_I ok w fun Γ1 x v H01 H1 w1 ok1 g1 l1 r1 => ?_
  unfold iterT at w1
  split at w1
  · rename_i xs hx
    have hx : x = .tuple xs := hx
    subst hx
    cases r1 with
    | tup h1 h2 => exact ⟨_, rfl, ⟨_, ex_t ok1.sub h1⟩, w1 _ H01 H1 ok1 (Grow.refl _ _ _) (Less.refl _) (itok_tup h1 h2)⟩
  · exact w1.elim
/-- a list or a tuple -/
def iterA (x : D) : Res (List D) := match x with | .list xs => .ok xs | .tuple xs => .ok xs | _ => .stuck
theorem ji_any {s : Ga → Res (Ga × D)} (h : JD X E e s) : JI X E tg e (sIt iterA s) := by
  obtain ⟨t, p, ha⟩ := h.ex
  refine ⟨fun σ H R => t σ H fun x H1 => (∃ a, x = .ref a ∧ (∃ xs, SqL X.K H1 a xs) ∧ R (Itl X.K a) H1) ∨ (∃ a, x = .ref a ∧ (∃ xs, SqT X.K H1 a xs) ∧ R (Itt X.K a) H1), ⟨fun pins s1 σ H R I hw => ?_⟩, fun B σ Γ H0 H R ok w => ?_⟩
  · refine thn (p.run pins s1 σ H _ I hw) fun v s2 ⟨x, H1, I1, r1, q1⟩ => ?_
    rcases q1 with ⟨a, ea, ⟨xs, hq⟩, q⟩ | ⟨a, ea, ⟨xs, hq⟩, q⟩
    · subst ea
      cases r1
      obtain ⟨its, rv, p, hz⟩ := I1.list hq
      refine wpAny_pyIter_list p.isList ?_
      refine ⟨s2.heap.objs.size, [s2.heap.objs.size], _, _, H1, rfl, I1.kept (t' := s2.toks) fun b o e => Heap.get?_push_of_some _ e, turn_list a _, ⟨_, Heap.get?_push_size _ rfl, rfl, rfl⟩, fun b hb => ?_, q⟩
      have e : b = s2.heap.objs.size := by simpa using hb
      subst e
      exact I1.fpOk (Nat.le_refl _) (I1.hok.fresh (Nat.le_refl _))
    · subst ea
      cases r1
      obtain ⟨its, rv, p, hz⟩ := I1.tuple hq
      refine wpAny_pyIter_tuple (show s2.heap.IsTuple a its.toArray from p) ?_
      refine ⟨s2.heap.objs.size, [s2.heap.objs.size], _, _, H1, rfl, I1.kept (t' := s2.toks) fun b o e => Heap.get?_push_of_some _ e, turn_tuple a _, ⟨_, Heap.get?_push_size _ rfl, rfl, rfl⟩, fun b hb => ?_, q⟩
      have e : b = s2.heap.objs.size := by simpa using hb
      subst e
      exact I1.fpOk (Nat.le_refl _) (I1.hok.fresh (Nat.le_refl _))
  · have w : IW X B E σ Γ H0 H (sIt iterA s Γ) R := w
    refine d_then ha wok_I ok w fun Γ1 x v H01 H1 w1 ok1 g1 l1 r1 => ?_
    unfold iterA at w1
    split at w1
    · rename_i xs hx
      have hx : x = .list xs := hx
      subst hx
      cases r1 with
      | lst h1 h2 => exact .inl ⟨_, rfl, ⟨_, SqL.of (ok1.sub _ _ h1)⟩, w1 _ H01 H1 ok1 (Grow.refl _ _ _) (Less.refl _) (itok_list h1 h2)⟩
    · rename_i xs hx
      have hx : x = .tuple xs := hx
      subst hx
      cases r1 with
      | tup h1 h2 => exact .inr ⟨_, rfl, ⟨_, ex_t ok1.sub h1⟩, w1 _ H01 H1 ok1 (Grow.refl _ _ _) (Less.refl _) (itok_tup h1 h2)⟩
    · exact w1.elim
noncomputable def fits62 (i : Int) : Bool := okB (-(2 ^ 62) ≤ i ∧ i < 2 ^ 62)
noncomputable def rng1 : List D → Res (List D)
  | [.int j] => if fits62 j = true then .ok (rangeD 0 j.toNat) else .stuck
  | _ => .stuck
noncomputable def rng2 : List D → Res (List D)
  | [.int i, .int j] => if fits62 i = true ∧ fits62 j = true then .ok (rangeD i (j - i).toNat) else .stuck
  | _ => .stuck
def sItA (f : List D → Res (List D)) (s : Ga → Res (Ga × List D)) : Ga → Res (Ga × List D) := fun Γ => (s Γ).bind fun p => (f p.2).bind fun xs => .ok (p.1, xs)
omit [Tbl] in
theorem fits62_iff {i : Int} (h : fits62 i = true) : -(2 ^ 62) ≤ i ∧ i < 2 ^ 62 := by
  unfold fits62 at h
  exact okB_iff.mp h
omit [Tbl] in
theorem rp1 {H : Hp} {vs : List V} {i : Int} (r : RpAll K H vs [.int i]) : vs = [.int i] := by
  cases r with
  | cons r1 r2 => cases r1; cases r2; rfl
theorem ji_range1 {p : Pos} {s : Ga → Res (Ga × List D)} (hg : Gl X "range") (hm : X.mg "range" = none) (h : JA X E [a] s) (hs : starEach [a] X.env = [(false, eval a X.env)] := by rfl) : JI X E tg (.Call (.Name "range" p) [a] [] pos) (sItA rng1 s) := by
  obtain ⟨t, pp, ha⟩ := h.ex
  refine ⟨_, pi_range1 hg hm pp hs, fun B σ Γ H0 H R ok w => ?_⟩
  have w : IW X B E σ Γ H0 H (sItA rng1 s Γ) R := w
  show t σ H fun vs H1 => ∃ j : Int, vs = [.int j] ∧ -(2 ^ 62) ≤ j ∧ j < 2 ^ 62 ∧ R (Itr 0 j.toNat) H1
  refine a_then ha wok_I ok w fun Γ1 x v H01 H1 w1 ok1 g1 l1 r1 => ?_
  unfold rng1 at w1
  split at w1
  · rename_i j hx
    have hx : x = [.int j] := hx
    subst hx
    split at w1
    · rename_i hz
      exact ⟨j, rp1 r1, (fits62_iff hz).1, (fits62_iff hz).2, w1 _ H01 H1 ok1 (Grow.refl _ _ _) (Less.refl _) itok_rng⟩
    · exact w1.elim
  · exact w1.elim
theorem ji_range2 {p : Pos} {s : Ga → Res (Ga × List D)} (hg : Gl X "range") (hm : X.mg "range" = none) (h : JA X E [a, b] s) (hs : starEach [a, b] X.env = [(false, eval a X.env), (false, eval b X.env)] := by rfl) (hs2 : starEach [b] X.env = [(false, eval b X.env)] := by rfl) :
    JI X E tg (.Call (.Name "range" p) [a, b] [] pos) (sItA rng2 s) := by
  obtain ⟨t, pp, ha⟩ := h.ex
  refine ⟨_, pi_range2 hg hm pp hs hs2, fun B σ Γ H0 H R ok w => ?_⟩
  have w : IW X B E σ Γ H0 H (sItA rng2 s Γ) R := w
  show t σ H fun vs H1 => ∃ i j : Int, vs = [.int i, .int j] ∧ (-(2 ^ 62) ≤ i ∧ i < 2 ^ 62 ∧ -(2 ^ 62) ≤ j ∧ j < 2 ^ 62) ∧ R (Itr i (j - i).toNat) H1
  refine a_then ha wok_I ok w fun Γ1 x v H01 H1 w1 ok1 g1 l1 r1 => ?_
  unfold rng2 at w1
  split at w1
  · rename_i i j hx
    have hx : x = [.int i, .int j] := hx
    subst hx
    split at w1
    · rename_i hz
      obtain ⟨h1, h2⟩ := fits62_iff hz.1
      obtain ⟨h3, h4⟩ := fits62_iff hz.2
      exact ⟨i, j, rp2 r1, ⟨h1, h2, h3, h4⟩, w1 _ H01 H1 ok1 (Grow.refl _ _ _) (Less.refl _) itok_rng⟩
    · exact w1.elim
  · exact w1.elim
def enumL : List D → Res (List D)
  | [.list xs] => .ok (numb 0 xs)
  | _ => .stuck
theorem ji_enum {p tpos : Pos} {elts : List Expr} {kk : Nat} {s : Ga → Res (Ga × List D)} (hg : Gl X "enumerate") (hm : X.mg "enumerate" = none) (h : JA X E [e] s) (hs : starEach [e] X.env = [(false, eval e X.env)] := by rfl) :
    JI X E (.Tuple elts kk tpos) (.Call (.Name "enumerate" p) [e] [] pos) (sItA enumL s) := by
  obtain ⟨t, pp, ha⟩ := h.ex
  refine ⟨_, pi_enum hg hm pp hs, fun B σ Γ H0 H R ok w => ?_⟩
  have w : IW X B E σ Γ H0 H (sItA enumL s Γ) R := w
  show t σ H fun vs H1 => ∃ a xs, vs = [.ref a] ∧ SqL X.K H1 a xs ∧ R (Ite X.K a) H1
  refine a_then ha wok_I ok w fun Γ1 x v H01 H1 w1 ok1 g1 l1 r1 => ?_
  unfold enumL at w1
  split at w1
  · rename_i xs hx
    have hx : x = [.list xs] := hx
    subst hx
    cases r1 with
    | cons r1 r2 =>
      cases r2
      cases r1 with
      | lst h1 h2 => exact ⟨_, _, rfl, SqL.of (ok1.sub _ _ h1), w1 _ H01 H1 ok1 (Grow.refl _ _ _) (Less.refl _) (itok_enum h1 h2)⟩
  · exact w1.elim
def zipLT : List D → Res (List D)
  | [.list xs, .list ys] => .ok (pairUp xs ys)
  | [.tuple xs, .tuple ys] => .ok (pairUp xs ys)
  | _ => .stuck
theorem zip_end {B : Bg} {σ : L2.St} {Γ1 : Ga} {H01 H1 : Hp} {R : It → Hp → Prop} {x : List D} {v : List V} (ok1 : EnvOk X.K B σ Γ1 H01 H1) (r1 : RpAll X.K H01 v x) (w1 : IW X B E σ Γ1 H01 H1 ((zipLT x).bind fun xs => .ok (Γ1, xs)) R) :
    ∃ a b xs ys, v = [.ref a, .ref b] ∧ ((SqL X.K H1 a xs ∧ SqL X.K H1 b ys ∧ R (Itz X.K a b) H1) ∨ (SqT X.K H1 a xs ∧ SqT X.K H1 b ys ∧ R (RZ.ItzT X.K a b) H1)) := by
  unfold zipLT at w1
  split at w1
  · cases r1 with
    | cons r1 r2 =>
      cases r2 with
      | cons r2 r3 =>
        cases r3
        cases r1 with
        | lst h1 h2 =>
          cases r2 with
          | lst h3 h4 => exact ⟨_, _, _, _, rfl, .inl ⟨SqL.of (ok1.sub _ _ h1), SqL.of (ok1.sub _ _ h3), w1 _ H01 H1 ok1 (Grow.refl _ _ _) (Less.refl _) (itok_zip h1 h2 h3 h4)⟩⟩
  · cases r1 with
    | cons r1 r2 =>
      cases r2 with
      | cons r2 r3 =>
        cases r3
        cases r1 with
        | tup h1 h2 =>
          cases r2 with
          | tup h3 h4 => exact ⟨_, _, _, _, rfl, .inr ⟨ex_t ok1.sub h1, ex_t ok1.sub h3, w1 _ H01 H1 ok1 (Grow.refl _ _ _) (Less.refl _) (itok_zipT h1 h2 h3 h4)⟩⟩
  · exact w1.elim
theorem ji_zip {p tpos : Pos} {elts : List Expr} {kk : Nat} {s : Ga → Res (Ga × List D)} (hg : Gl X "zip") (hm : X.mg "zip" = none) (h : JA X E [a, b] s)
    (hs : starEach [a, b] X.env = (false, eval a X.env) :: starEach [b] X.env := by rfl) (hpl : (backTo pos (starEach [b] X.env)).any (·.1) = false := by rfl) :
    JI X E (.Tuple elts kk tpos) (.Call (.Name "zip" p) [a, b] [] pos) (sItA zipLT s) := by
  obtain ⟨t, pp, ha⟩ := h.ex
  refine ⟨_, RZ.pi_zipA hg hm pp hs hpl, fun B σ Γ H0 H R ok w => ?_⟩
  have w : IW X B E σ Γ H0 H (sItA zipLT s Γ) R := w
  show t σ H fun vs H1 => ∃ a b xs ys, vs = [.ref a, .ref b] ∧ ((SqL X.K H1 a xs ∧ SqL X.K H1 b ys ∧ R (Itz X.K a b) H1) ∨ (SqT X.K H1 a xs ∧ SqT X.K H1 b ys ∧ R (RZ.ItzT X.K a b) H1))
  exact a_then ha wok_I ok w fun Γ1 x v H01 H1 w1 ok1 g1 l1 r1 => zip_end ok1 r1 w1

/-! ### for -/
def forL (g : D → Ga → Option Ga) (b : Ga → Res (Ga × Fl)) : List D → Ga → Res (Ga × Fl)
  | [], Γ => .ok (Γ, .nx)
  | x :: xs, Γ => match g x Γ with
    | some Γ1 => (b Γ1).bind fun q => match q.2 with
      | .nx => forL g b xs q.1
      | .ct => forL g b xs q.1
      | .bk => .ok (q.1, .nx)
      | .rt r => .ok (q.1, .rt r)
    | none => .stuck
def sFor (s : Ga → Res (Ga × List D)) (g : D → Ga → Option Ga) (b : Ga → Res (Ga × Fl)) : Ga → Res (Ga × Fl) := fun Γ => (s Γ).bind fun p => forL g b p.2 p.1
theorem i_then {β : Type} {W : Ga → Hp → Hp → Res β → Prop} {B : Bg} {σ : L2.St} {Γ : Ga} {H0 H : Hp} {t : TI} {s : Ga → Res (Ga × List D)} {f : Ga × List D → Res β} {R : It → Hp → Prop}
    (ha : ∀ B σ Γ H0 H R, EnvOk X.K B σ Γ H0 H → IW X B E σ Γ H0 H (s Γ) R → t σ H R) (wo : WOk X B E σ W) (ok : EnvOk X.K B σ Γ H0 H) (w : W Γ H0 H ((s Γ).bind f))
    (k : ∀ Γ1 xs J H01 H1, W Γ1 H01 H1 (f (Γ1, xs)) → EnvOk X.K B σ Γ1 H01 H1 → Grow (OwnOf σ Γ) H0 H H01 H1 → Less Γ Γ1 → ItOk X.K J xs H01 → R J H1) : t σ H R := by
  refine ha B σ Γ H0 H R ok ?_
  cases hs : s Γ with
  | stuck => rw [hs] at w; exact (wo.stuck _ _ _ w).elim
  | exc c x => rw [hs] at w; exact wo.exc _ _ _ _ _ w
  | ok p =>
    rw [hs] at w
    exact fun J H01 H1 ok1 g l r => k _ _ J H01 H1 (wo.shift _ _ _ _ _ _ _ ok g l w) ok1 g l r
theorem SW.later {B : Bg} {H0 H01 : Hp} {r : Res (Ga × Fl)} {Dn : Ends} (w : SW X B E H0 r Dn) (e : Ex H0 H01) : SW X B E H01 r Dn := by
  cases r with
  | stuck => exact w
  | exc c x => exact w
  | ok p => exact fun σ' H0' H' o' e' => w σ' H0' H' o' (e.trans e')
theorem js_for {s : Ga → Res (Ga × List D)} {g : D → Ga → Option Ga} {ss : List Stmt} {b : Ga → Res (Ga × Fl)} (hp : PassesOwn (model X.prog X.w) X.A X.env X.xe) (hc : X.calm = true) (hi : JI X E tg iter s) (hg : JG X tg g) (hb : JSs X E ss b)
    (hs : ∀ x, foldedSetIterable iter X.env x = pure x := by intro _; rfl) : JS X E (.For tg iter ss [] pos) (sFor s g b) := by
  obtain ⟨wi, pi, hi⟩ := hi.ex
  obtain ⟨tg', pg, hg⟩ := hg.ex
  obtain ⟨tb, pb, hb⟩ := hb.ex
  refine ⟨_, ps_for hp hc pi pg pb hs, fun B σ Γ H0 H Dn ok w => ?_⟩
  refine i_then (R := fun J H1 => ∃ W : Nat → Nat → L2.St → Hp → Prop, (∃ m, W 0 m σ H1) ∧ ∀ i m σ H, W i m σ H → (J.stop i H ∧ Dn.nx σ H) ∨ (J.go i H ∧ ∃ N : L2.St → Hp → Prop, (∀ σ' H', N σ' H' → ∃ m', m' < m ∧ W (i + 1) m' σ' H') ∧ ∀ x H', J.yld i H x H' → tg' x σ H' fun σ2 H2 => tb { Dn with nx := N, ct := N, bk := Dn.nx } σ2 H2))
    hi wok_S ok w fun Γ1 xs J H01 H1 w1 ok1 g1 l1 it => ?_
  refine ⟨fun i m σi Hi => ∃ Γi H0i, EnvOk X.K B σi Γi H0i Hi ∧ Ex H01 H0i ∧ SW X B E H0i (forL g b (xs.drop i) Γi) Dn ∧ m = xs.length - i, ⟨xs.length, Γ1, H01, ok1, Ex.refl _, by simpa using w1, by simp⟩, ?_⟩
  rintro i m σi Hi ⟨Γi, H0i, oki, ei, wi, rfl⟩
  by_cases hlt : i < xs.length
  · refine .inr ⟨it.go i H0i Hi ei oki.sub hlt, fun σ' H' => ∃ Γ' H0', EnvOk X.K B σ' Γ' H0' H' ∧ Ex H01 H0' ∧ SW X B E H0' (forL g b (xs.drop (i + 1)) Γ') Dn, fun σ' H' ⟨Γ', H0', q1, q2, q3⟩ => ⟨xs.length - (i + 1), by omega, Γ', H0', q1, q2, q3, rfl⟩, fun v H' y => ?_⟩
    have hx : xs[i]? = some xs[i] := List.getElem?_eq_getElem hlt
    obtain ⟨H0y, gy, sy, ry⟩ := it.yld i xs[i] H0i Hi v H' ei oki.sub hx y
    have oky := oki.same gy sy
    have ey := ei.trans gy.ex0
    have hd : xs.drop i = xs[i] :: xs.drop (i + 1) := List.drop_eq_getElem_cons hlt
    rw [hd] at wi
    unfold forL at wi
    cases hgx : g xs[i] Γi with
    | none => rw [hgx] at wi; exact wi.elim
    | some Γg =>
      rw [hgx] at wi
      refine hg B σi Γi H0y H' v xs[i] Γg _ oky ry hgx fun σg okg => ?_
      refine hb B σg Γg H0y H' _ okg ?_
      have wi := SW.later wi gy.ex0
      cases hbb : b Γg with
      | stuck => simp only [hbb] at wi; exact wi
      | exc c x => simp only [hbb] at wi; exact wi
      | ok q =>
        obtain ⟨Γb, fl⟩ := q
        simp only [hbb] at wi
        intro σb H0b Hb okb eb
        cases fl with
        | nx => exact ⟨Γb, H0b, okb, ey.trans eb, SW.later wi eb⟩
        | ct => exact ⟨Γb, H0b, okb, ey.trans eb, SW.later wi eb⟩
        | bk => exact wi σb H0b Hb okb eb
        | rt r => exact wi σb H0b Hb okb eb
  · refine .inl ⟨it.stop i H0i Hi ei oki.sub (by omega), ?_⟩
    rw [List.drop_eq_nil_of_le (by omega)] at wi
    exact wi σi H0i Hi oki (Ex.refl _)

/-! ### while -/
def whileN (c : Ga → Res (Ga × Bool)) (b : Ga → Res (Ga × Fl)) : Nat → Ga → Option (Res (Ga × Fl))
  | 0, _ => none
  | n + 1, Γ => match c Γ with
    | .stuck => some .stuck
    | .exc k x => some (.exc k x)
    | .ok (Γ1, false) => some (.ok (Γ1, .nx))
    | .ok (Γ1, true) => match b Γ1 with
      | .stuck => some .stuck
      | .exc k x => some (.exc k x)
      | .ok (Γ2, .nx) => whileN c b n Γ2
      | .ok (Γ2, .ct) => whileN c b n Γ2
      | .ok (Γ2, .bk) => some (.ok (Γ2, .nx))
      | .ok (Γ2, .rt r) => some (.ok (Γ2, .rt r))
omit [Tbl] in
theorem whileN_more {c : Ga → Res (Ga × Bool)} {b : Ga → Res (Ga × Fl)} : ∀ {n : Nat} {Γ : Ga} {r : Res (Ga × Fl)} (k : Nat), whileN c b n Γ = some r → whileN c b (n + k) Γ = some r
  | 0, _, _, _, h => by cases h
  | n + 1, Γ, r, k, h => by
    rw [show n + 1 + k = (n + k) + 1 by omega]
    unfold whileN at h ⊢
    cases hc : c Γ with
    | stuck => rw [hc] at h; exact h
    | exc _ _ => rw [hc] at h; exact h
    | ok p =>
      obtain ⟨Γ1, t⟩ := p
      rw [hc] at h
      cases t with
      | false => exact h
      | true =>
        simp only at h ⊢
        cases hb : b Γ1 with
        | stuck => rw [hb] at h; exact h
        | exc _ _ => rw [hb] at h; exact h
        | ok q =>
          obtain ⟨Γ2, fl⟩ := q
          rw [hb] at h
          cases fl with
          | nx => exact whileN_more k h
          | ct => exact whileN_more k h
          | bk => exact h
          | rt _ => exact h
open Classical in
noncomputable def sWhile (c : Ga → Res (Ga × Bool)) (b : Ga → Res (Ga × Fl)) : Ga → Res (Ga × Fl) := fun Γ => if h : ∃ n r, whileN c b n Γ = some r then h.choose_spec.choose else .stuck
omit [Tbl] in
theorem sWhile_of {c : Ga → Res (Ga × Bool)} {b : Ga → Res (Ga × Fl)} {n : Nat} {Γ : Ga} {r : Res (Ga × Fl)} (h : whileN c b n Γ = some r) : sWhile c b Γ = r := by
  have hx : ∃ n r, whileN c b n Γ = some r := ⟨n, r, h⟩
  unfold sWhile
  rw [dif_pos hx]
  have h2 := hx.choose_spec.choose_spec
  have h3 := whileN_more n h2
  have h4 := whileN_more hx.choose h
  rw [Nat.add_comm, h4] at h3
  exact (Option.some.inj h3).symm
omit [Tbl] in
theorem sWhile_ex {c : Ga → Res (Ga × Bool)} {b : Ga → Res (Ga × Fl)} {Γ : Ga} (h : sWhile c b Γ ≠ .stuck) : ∃ n, whileN c b n Γ = some (sWhile c b Γ) := by
  by_cases hx : ∃ n r, whileN c b n Γ = some r
  · obtain ⟨n, r, e⟩ := hx
    exact ⟨n, by rw [sWhile_of e]; exact e⟩
  · unfold sWhile at h
    rw [dif_neg hx] at h
    exact absurd rfl h
omit [Tbl] in
theorem sWhile_end {c : Ga → Res (Ga × Bool)} {b : Ga → Res (Ga × Fl)} {Γ Γ1 : Ga} (h : c Γ = .ok (Γ1, false)) : sWhile c b Γ = .ok (Γ1, .nx) := sWhile_of (n := 1) (by unfold whileN; rw [h])
omit [Tbl] in
theorem sWhile_go {c : Ga → Res (Ga × Bool)} {b : Ga → Res (Ga × Fl)} {Γ Γ1 Γ2 : Ga} {r : Res (Ga × Fl)} {fl : Fl} (h : c Γ = .ok (Γ1, true)) (h2 : b Γ1 = .ok (Γ2, fl)) (hf : fl = .nx ∨ fl = .ct) (h3 : sWhile c b Γ2 = r) (hr : r ≠ .stuck) : sWhile c b Γ = r := by
  subst h3
  obtain ⟨n, e⟩ := sWhile_ex hr
  refine sWhile_of (n := n + 1) ?_
  unfold whileN
  rw [h]
  simp only
  rw [h2]
  rcases hf with rfl | rfl <;> exact e
theorem js_while {c : Expr} {ss : List Stmt} {sc : Ga → Res (Ga × Bool)} {b : Ga → Res (Ga × Fl)} (hp : PassesOwn (model X.prog X.w) X.A X.env X.xe) (hc : JT X E c sc) (hb : JSs X E ss b) : JS X E (.While c ss [] pos) (sWhile sc b) := by
  obtain ⟨tc, pc, hc⟩ := hc.ex
  obtain ⟨tb, pb, hb⟩ := hb.ex
  refine ⟨_, ps_while hp pc pb, fun B σ Γ H0 H Dn ok w => ?_⟩
  have hns : sWhile sc b Γ ≠ .stuck := fun z => by rw [z] at w; exact w
  obtain ⟨n0, e0⟩ := sWhile_ex hns
  refine ⟨fun m σi Hi => ∃ Γi H0i r, EnvOk X.K B σi Γi H0i Hi ∧ whileN sc b m Γi = some r ∧ SW X B E H0i r Dn, ⟨n0, Γ, H0, _, ok, e0, w⟩, ?_⟩
  rintro m σi Hi ⟨Γi, H0i, r, oki, em, wi⟩
  cases m with
  | zero => cases em
  | succ m =>
    unfold whileN at em
    refine hc B σi Γi H0i Hi _ oki ?_
    cases hcc : sc Γi with
    | stuck => rw [hcc] at em; cases em; exact wi
    | exc k x => rw [hcc] at em; cases em; exact wi
    | ok p =>
      obtain ⟨Γ1, t⟩ := p
      rw [hcc] at em
      intro H01 H1 ok1 g1 l1
      have wi := SW.later wi g1.ex0
      cases t with
      | false =>
        cases em
        show Dn.nx σi H1
        exact wi σi H01 H1 ok1 (Ex.refl _)
      | true =>
        show ∃ N : L2.St → Hp → Prop, _
        refine ⟨fun σ' H' => ∃ Γ' H0' r, EnvOk X.K B σ' Γ' H0' H' ∧ whileN sc b m Γ' = some r ∧ SW X B E H0' r Dn, fun σ' H' q => ⟨m, Nat.lt_succ_self _, q⟩, ?_⟩
        refine hb B σi Γ1 H01 H1 _ ok1 ?_
        simp only at em
        cases hbb : b Γ1 with
        | stuck => rw [hbb] at em; cases em; exact wi
        | exc k x => rw [hbb] at em; cases em; exact wi
        | ok q =>
          obtain ⟨Γ2, fl⟩ := q
          rw [hbb] at em
          intro σ2 H02 H2 ok2 e2
          cases fl with
          | nx => exact ⟨Γ2, H02, r, ok2, em, SW.later wi e2⟩
          | ct => exact ⟨Γ2, H02, r, ok2, em, SW.later wi e2⟩
          | bk => cases em; exact wi σ2 H02 H2 ok2 e2
          | rt z => cases em; exact wi σ2 H02 H2 ok2 e2
end
end Mi
namespace Mi
open PySem L2 Evl
variable [Tbl]

/-! ### comprehensions -/
def wipeG (Γ : Ga) : List Nat → Ga
  | [] => Γ
  | v :: vs => (wipeG Γ vs).set v .un
omit [Tbl] in
theorem wipeG_len (Γ : Ga) : ∀ vs, (wipeG Γ vs).length = Γ.length
  | [] => rfl
  | v :: vs => by unfold wipeG; rw [List.length_set, wipeG_len Γ vs]
omit [Tbl] in
theorem wipeG_get {Γ : Ga} {s : Sl} {i : Nat} : ∀ {vs : List Nat}, (wipeG Γ vs)[i]? = some s → (s = .un ∧ i ∈ vs) ∨ (Γ[i]? = some s ∧ i ∉ vs)
  | [], h => .inr ⟨h, by simp⟩
  | v :: vs, h => by
    unfold wipeG at h
    rcases set_back h with ⟨e, e2, _⟩ | ⟨e, h⟩
    · exact .inl ⟨e2, by simp [e]⟩
    · rcases wipeG_get h with ⟨e2, m⟩ | ⟨e2, m⟩
      · exact .inl ⟨e2, by simp [m]⟩
      · exact .inr ⟨e2, by simp [m, e]⟩
omit [Tbl] in
theorem wipe_keep {σ : L2.St} {i : Nat} : ∀ {vs : List Nat}, i ∉ vs → (wipe σ vs)[i]? = σ[i]? := fun h => wipe_out h
section
variable {K : PySem.W.Frag} {B : Bg} {σ : L2.St} {Γ : Ga} {H0 H : Hp}
theorem EnvOk.wiped (ok : EnvOk K B σ Γ H0 H) (vs : List Nat) : EnvOk K B (wipe σ vs) (wipeG Γ vs) H0 H where
  sub := ok.sub
  len := by rw [wipeG_len, wipe_length]; exact ok.len
  dat := fun i x h => by
    rcases wipeG_get h with ⟨e, _⟩ | ⟨e, m⟩
    · cases e
    · rw [wipe_keep m]; exact ok.dat i x e
  scr := fun i x h => by
    rcases wipeG_get h with ⟨e, _⟩ | ⟨e, m⟩
    · cases e
    · rw [wipe_keep m]; exact ok.scr i x e
  own := fun i b x h => by
    rcases wipeG_get h with ⟨e, _⟩ | ⟨e, m⟩
    · cases e
    · rw [wipe_keep m]; exact ok.own i b x e
  apart := fun i j b c xs ys a hij h1 h2 => by
    rcases wipeG_get h1 with ⟨e, _⟩ | ⟨e1, m1⟩
    · cases e
    · rcases wipeG_get h2 with ⟨e, _⟩ | ⟨e2, m2⟩
      · cases e
      · rw [wipe_keep m1, wipe_keep m2]; exact ok.apart i j b c xs ys a hij e1 e2
  grow := ok.grow
  tabs := ok.tabs
  past := ok.past
  cl := fun i h => by
    rcases wipeG_get h with ⟨e, _⟩ | ⟨e, m⟩
    · cases e
    · rw [wipe_keep m]; exact ok.cl i e
omit [Tbl] in
theorem OwnOf.wiped {vs : List Nat} {p : Addr} (h : OwnOf (wipe σ vs) (wipeG Γ vs) p) : OwnOf σ Γ p := by
  obtain ⟨i, b, xs, h1, h2⟩ := h
  rcases wipeG_get h1 with ⟨e, _⟩ | ⟨e, m⟩
  · cases e
  · rw [wipe_keep m] at h2
    exact ⟨i, b, xs, e, h2⟩
/-- the slots vs as they were, the others as they are -/
def unwipe (Γ Γ' : Ga) (vs : List Nat) : Ga := (List.range Γ.length).map fun i => if i ∈ vs then Γ.getD i .un else Γ'.getD i .un
omit [Tbl] in
theorem unwipe_get {Γ Γ' : Ga} {vs : List Nat} {i : Nat} {s : Sl} (hl : Γ'.length = Γ.length) (h : (unwipe Γ Γ' vs)[i]? = some s) : (i ∈ vs ∧ Γ[i]? = some s) ∨ (i ∉ vs ∧ Γ'[i]? = some s) := by
  unfold unwipe at h
  rw [List.getElem?_map] at h
  obtain ⟨j, hj, e⟩ := Option.map_eq_some_iff.mp h
  have hi : i < Γ.length := by simpa using (List.getElem?_eq_some_iff.mp hj).1
  rw [List.getElem?_range hi] at hj
  cases hj
  split at e
  · rename_i m
    rw [List.getD_eq_getElem?_getD, List.getElem?_eq_getElem hi] at e
    exact .inl ⟨m, by rw [List.getElem?_eq_getElem hi, ← e]; rfl⟩
  · rename_i m
    have hi' : i < Γ'.length := by omega
    rw [List.getD_eq_getElem?_getD, List.getElem?_eq_getElem hi'] at e
    exact .inr ⟨m, by rw [List.getElem?_eq_getElem hi', ← e]; rfl⟩
theorem unwipe_ok {Γ' : Ga} {vs : List Nat} {H0' H' : Hp} (ok : EnvOk K B σ Γ H0 H) (ok' : EnvOk K B (wipe σ vs) Γ' H0' H') (g : Grow (OwnOf (wipe σ vs) (wipeG Γ vs)) H0 H H0' H') (l : Less (wipeG Γ vs) Γ') :
    EnvOk K B σ (unwipe Γ Γ' vs) H0' H' ∧ Grow (OwnOf σ Γ) H0 H H0' H' ∧ Less Γ (unwipe Γ Γ' vs) := by
  have hl : Γ'.length = Γ.length := by rw [ok'.len, wipe_length, ok.len]
  have hid : ∀ {i b xs a}, i ∈ vs → Γ[i]? = some (.own b xs) → σ[i]? = some (some (.ref a)) → ¬ OwnOf (wipe σ vs) (wipeG Γ vs) a := fun {i b xs a} m h1 h2 ⟨j, c, ys, q1, q2⟩ => by
    rcases wipeG_get q1 with ⟨e, _⟩ | ⟨e, mj⟩
    · cases e
    · rw [wipe_keep mj] at q2
      exact ok.apart i j b c xs ys a (fun z => mj (z ▸ m)) h1 e h2 q2
  have inn : ∀ {j c ys}, j ∉ vs → Γ'[j]? = some (.own c ys) → ∃ zs, Γ[j]? = some (.own c zs) := fun {j c ys} m h => by
    obtain ⟨zs, q⟩ := l j c ys h
    rcases wipeG_get q with ⟨e, _⟩ | ⟨e, _⟩
    · cases e
    · exact ⟨zs, e⟩
  refine ⟨⟨ok'.sub, by simp [unwipe, ok.len], fun i x h => ?_, fun i ns h => ?_, fun i b xs h => ?_, fun i j b c xs ys a hij h1 h2 => ?_, ok'.grow, ok'.tabs, ok'.past, fun i h => (by
    rcases unwipe_get hl h with ⟨m, e⟩ | ⟨m, e⟩
    · exact ok.cl i e
    · have := ok'.cl i e
      rwa [wipe_keep m] at this)⟩, g.wide fun p z => z.wiped, fun i b ys h => ?_⟩
  · rcases unwipe_get hl h with ⟨m, e⟩ | ⟨m, e⟩
    · obtain ⟨v, e1, r⟩ := ok.dat i x e
      exact ⟨v, e1, r.m g.ex0⟩
    · have := ok'.dat i x e
      rwa [wipe_keep m] at this
  · rcases unwipe_get hl h with ⟨m, e⟩ | ⟨m, e⟩
    · obtain ⟨v, e1, r⟩ := ok.scr i ns e
      exact ⟨v, e1, ex_l g.ex0 r⟩
    · have := ok'.scr i ns e
      rwa [wipe_keep m] at this
  · rcases unwipe_get hl h with ⟨m, e⟩ | ⟨m, e⟩
    · obtain ⟨a, us, q1, q2, q3, q4, q5⟩ := ok.own i b xs e
      have no := hid m e q1
      exact ⟨a, us, q1, by rw [g.old a (by rw [q3]; simp) no]; exact q2, g.keep _ _ q3 no nofun, q4.m g.ex0, q5⟩
    · have := ok'.own i b xs e
      rwa [wipe_keep m] at this
  · rcases unwipe_get hl h1 with ⟨m1, e1⟩ | ⟨m1, e1⟩
    · rcases unwipe_get hl h2 with ⟨m2, e2⟩ | ⟨m2, e2⟩
      · exact ok.apart i j b c _ _ a hij e1 e2
      · obtain ⟨zs, e2⟩ := inn m2 e2
        exact ok.apart i j b c _ _ a hij e1 e2
    · rcases unwipe_get hl h2 with ⟨m2, e2⟩ | ⟨m2, e2⟩
      · obtain ⟨zs, e1⟩ := inn m1 e1
        exact ok.apart i j b c _ _ a hij e1 e2
      · have := ok'.apart i j b c _ _ a hij e1 e2
        rwa [wipe_keep m1, wipe_keep m2] at this
  · rcases unwipe_get hl h with ⟨m, e⟩ | ⟨m, e⟩
    · exact ⟨ys, e⟩
    · exact inn m e
end
def noX {α : Type} (r : Res α) : Res α := match r with | .ok a => .ok a | _ => .stuck
def lcL (g : D → Ga → Option Ga) (tt : Ga → Res (Ga × Bool)) (te : Ga → Res (Ga × D)) (vs : List Nat) : List D → Ga → Res (Ga × List D)
  | [], Γ => .ok (Γ, [])
  | x :: xs, Γ => match g x Γ with
    | some Γ1 => (noX (tt Γ1)).bind fun p => if p.2 = true then (noX (te p.1)).bind fun q => (lcL g tt te vs xs (wipeG q.1 vs)).bind fun r => .ok (r.1, q.2 :: r.2) else lcL g tt te vs xs (wipeG p.1 vs)
    | none => .stuck
def sLc (s : Ga → Res (Ga × List D)) (g : D → Ga → Option Ga) (tt : Ga → Res (Ga × Bool)) (te : Ga → Res (Ga × D)) (vs : List Nat) : Ga → Res (Ga × R) := fun Γ => (s Γ).bind fun p =>
  (lcL g tt te vs p.2 (wipeG p.1 vs)).bind fun q => if q.2.length ≤ sizeLine then .ok (unwipe p.1 q.1 vs, .f q.2) else .stuck
/-- a target that sets slots among vs alone -/
structure JGw (X : Cx) (vs : List Nat) (tg : Expr) (g : D → Ga → Option Ga) : Prop where
  ex : ∃ t, PG X tg t ∧ ∀ B σ Γ H0 H v x Γ' Q, EnvOk X.K B σ Γ H0 H → Rp X.K H0 v x → g x Γ = some Γ' → (∀ σ', EnvOk X.K B σ' Γ' H0 H → wipe σ' vs = wipe σ vs → Less Γ Γ' → (∀ p, OwnOf σ' Γ' p → OwnOf σ Γ p) → Q σ' H) → t v σ H Q
structure JGsw (X : Cx) (vs : List Nat) (tg : List Expr) (g : List D → Ga → Option Ga) : Prop where
  ex : ∃ t, PGs X tg t ∧ ∀ B σ Γ H0 H v x Γ' Q, EnvOk X.K B σ Γ H0 H → RpAll X.K H0 v x → g x Γ = some Γ' → (∀ σ', EnvOk X.K B σ' Γ' H0 H → wipe σ' vs = wipe σ vs → Less Γ Γ' → (∀ p, OwnOf σ' Γ' p → OwnOf σ Γ p) → Q σ' H) → t v σ H Q
omit [Tbl] in
theorem wipe_set {σ : L2.St} {o : Option V} {i : Nat} : ∀ {vs : List Nat}, i ∈ vs → wipe (σ.set i o) vs = wipe σ vs
  | v :: vs, h => by
    unfold wipe
    by_cases e : v = i
    · subst e
      by_cases m : v ∈ vs
      · rw [wipe_set m]
      · have : ∀ ws : List Nat, v ∉ ws → wipe (σ.set v o) ws = (wipe σ ws).set v o := by
          intro ws
          induction ws with
          | nil => intro _; rfl
          | cons w ws ih =>
            intro hm
            simp only [List.mem_cons, not_or] at hm
            unfold wipe
            rw [ih hm.2, List.set_comm _ _ hm.1]
        rw [this vs m, List.set_set]
    · rcases List.mem_cons.mp h with h | h
      · exact absurd h.symm e
      · rw [wipe_set h]
section
variable {X : Cx} {E : XK} {e a b tg iter elt : Expr} {es : List Expr} {pos : Pos} {vs : List Nat}
omit [Tbl] in
theorem less_setD {Γ : Ga} {i : Nat} {x : D} : Less Γ (Γ.set i (.d x)) := fun j c ys h => by
  rcases set_back h with ⟨_, z, _⟩ | ⟨_, z⟩
  · cases z
  · exact ⟨ys, z⟩
omit [Tbl] in
theorem own_setD {σ : L2.St} {Γ : Ga} {i : Nat} {x : D} {v : V} {p : Addr} (h : OwnOf (σ.set i (some v)) (Γ.set i (.d x)) p) : OwnOf σ Γ p := by
  obtain ⟨j, c, ys, h1, h2⟩ := h
  rcases set_back h1 with ⟨_, z, _⟩ | ⟨z1, z⟩
  · cases z
  · rw [List.getElem?_set_ne (Ne.symm z1)] at h2; exact ⟨j, c, ys, z, h2⟩
theorem jgw_name {i : Nat} {x : Str} (m : i ∈ vs) (hN : X.N.Nodup) (hi : X.N[i]? = some x) (hx : Loc X.env.scope x) (hf : X.fn x = true ∨ X.env.scope.names.lookup x = some .local := by first | exact .inl rfl | exact .inr rfl | assumption) : JGw X vs (.Name x pos) (gN i) :=
  ⟨_, pg_name hN hi hx hf, fun B σ Γ H0 H v x Γ' Q ok r e k => by cases e; exact k _ (ok.setD i r) (wipe_set m) less_setD fun _ => own_setD⟩
theorem jgsw_nil : JGsw X vs [] gNil' := ⟨_, pgs_nil, fun B σ Γ H0 H v x Γ' Q ok r e k => by
  cases r with
  | nil => cases e; exact ⟨rfl, k σ ok rfl (Less.refl _) fun _ h => h⟩
  | cons _ _ => cases e⟩
theorem jgsw_cons {g : D → Ga → Option Ga} {h : List D → Ga → Option Ga} (h1 : JGw X vs e g) (h2 : JGsw X vs es h) (hs : (assignEach (e :: es) X.env).map (·.2) = assign e X.env :: (assignEach es X.env).map (·.2) := by rfl) : JGsw X vs (e :: es) (gCons' g h) := by
  obtain ⟨t, p, ha⟩ := h1.ex
  obtain ⟨t', p', hb⟩ := h2.ex
  refine ⟨_, pgs_cons p p' hs, fun B σ Γ H0 H v x Γ' Q ok r e k => ?_⟩
  cases r with
  | nil => cases e
  | cons r1 r2 =>
    rename_i v1 us x1 xs
    have e : (g x1 Γ).bind (h xs) = some Γ' := e
    cases hg : g x1 Γ with
    | none => rw [hg] at e; cases e
    | some Γ1 =>
      rw [hg] at e
      exact ⟨v1, us, rfl, ha B σ Γ H0 H v1 x1 Γ1 _ ok r1 hg fun σ1 ok1 w1 w2 o1 => hb B σ1 Γ1 H0 H us xs Γ' Q ok1 r2 e fun σ2 ok2 w3 w4 o2 => k σ2 ok2 (w3.trans w1) (w2.trans w4) fun p z => o1 p (o2 p z)⟩
theorem jgw_tup {k n : Nat} {h : List D → Ga → Option Ga} (hc : X.calm = true) (hh : JGsw X vs es h) (hn : (assignEach es X.env).length = n := by rfl) (hst : (assignEach es X.env).findIdx? (·.1) = none := by rfl) : JGw X vs (.Tuple es k pos) (gTup' h n) := by
  obtain ⟨t, p, ha⟩ := hh.ex
  refine ⟨_, pg_tup hc p hn hst, fun B σ Γ H0 H v x Γ' Q ok r e k => ?_⟩
  unfold gTup' at e
  split at e
  · split at e
    · rename_i xs hl
      cases r with
      | tup h1 h2 => exact ⟨_, _, rfl, ex_t ok.sub h1, by rw [h2.len]; exact hl, ha B σ Γ H0 H _ xs Γ' Q ok h2 e k⟩
    · cases e
  · cases e
/-- the tests of a comprehension -/
structure JTs (X : Cx) (E : XK) (ifs : List Expr) (s : Ga → Res (Ga × Bool)) : Prop where
  ex : ∃ t, PTs X ifs t ∧ ∀ B σ Γ H0 H Q, EnvOk X.K B σ Γ H0 H → TW X B E σ Γ H0 H (s Γ) Q → t σ H Q
def sYes : Ga → Res (Ga × Bool) := fun Γ => .ok (Γ, true)
theorem jts_nil : JTs X E [] sYes := ⟨_, pts_nil, fun B σ Γ H0 H Q ok w => w H0 H ok (Grow.refl _ _ _) (Less.refl _)⟩
theorem jts_one {c : Expr} {s : Ga → Res (Ga × Bool)} (h : JT X E c s) : JTs X E [c] s := let ⟨t, p, q⟩ := h.ex; ⟨t, pts_one p, q⟩
theorem lc_sound {s : Ga → Res (Ga × List D)} {g : D → Ga → Option Ga} {tt : Ga → Res (Ga × Bool)} {te : Ga → Res (Ga × D)} {wi : TI} {tg' : TG} {tt' : TT} {te' : TE} {X' : Cx} (hK : X'.K = X.K)
    (hi : ∀ B σ Γ H0 H R, EnvOk X.K B σ Γ H0 H → IW X B E σ Γ H0 H (s Γ) R → wi σ H R)
    (hg : ∀ B σ Γ H0 H v x Γ' Q, EnvOk X'.K B σ Γ H0 H → Rp X'.K H0 v x → g x Γ = some Γ' → (∀ σ', EnvOk X'.K B σ' Γ' H0 H → wipe σ' vs = wipe σ vs → Less Γ Γ' → (∀ p, OwnOf σ' Γ' p → OwnOf σ Γ p) → Q σ' H) → tg' v σ H Q)
    (ht : ∀ B σ Γ H0 H Q, EnvOk X'.K B σ Γ H0 H → TW X' B E0 σ Γ H0 H (tt Γ) Q → tt' σ H Q)
    (he : ∀ B σ Γ H0 H Q, EnvOk X'.K B σ Γ H0 H → DW X' B E0 σ Γ H0 H (te Γ) Q → te' σ H Q) :
    ∀ B σ Γ H0 H Q, EnvOk X.K B σ Γ H0 H → EW X B E σ Γ H0 H (sLc s g tt te vs Γ) Q → tLc wi tg' tt' te' vs σ H Q := fun B σ Γ H0 H Q ok w => by
  refine i_then (R := fun J H1 => ∀ D, H1 D = none → ∃ W : Nat → Nat → Hp → Prop, (∃ m, W 0 m (upd H1 D (.lst []))) ∧ ∀ i m H, W i m H →
    (J.stop i H ∧ Q (.ref D) H) ∨ (J.go i H ∧ ∃ Nx : Hp → Prop, (∀ H', Nx H' → ∃ m', m' < m ∧ W (i + 1) m' H') ∧ ∀ x H', J.yld i H x H' → tg' x (wipe σ vs) H' fun σ2 H2 => wipe σ2 vs = wipe σ vs ∧ tt' σ2 H2 fun b H3 =>
      if b = true then te' σ2 H3 fun y H4 => ∃ acc, H4 D = some (.lst acc) ∧ acc.length < sizeLine ∧ Nx (upd H4 D (.lst (acc ++ [y]))) else Nx H3))
    hi wok_E ok w fun Γ1 xs J H01 H1 w1 ok1 g1 l1 it => ?_
  intro Da hDa
  cases hr : lcL g tt te vs xs (wipeG Γ1 vs) with
  | stuck => simp only [hr] at w1; exact w1.elim
  | exc c x =>
    -- no exception comes out of a comprehension
    exfalso
    have none_exc : ∀ (xs : List D) (Γ : Ga) c x, lcL g tt te vs xs Γ ≠ .exc c x := by
      intro xs
      induction xs with
      | nil => intro Γ c x h; cases h
      | cons y ys ih =>
        intro Γ c x h
        unfold lcL at h
        cases hg : g y Γ with
        | none => rw [hg] at h; cases h
        | some Γ1 =>
          rw [hg] at h
          simp only at h
          cases htt : tt Γ1 with
          | stuck => rw [htt] at h; cases h
          | exc _ _ => rw [htt] at h; cases h
          | ok p =>
            rw [htt] at h
            simp only [noX, bind_ok] at h
            split at h
            · cases hte : te p.1 with
              | stuck => rw [hte] at h; cases h
              | exc _ _ => rw [hte] at h; cases h
              | ok q =>
                rw [hte] at h
                simp only [bind_ok] at h
                cases hl : lcL g tt te vs ys (wipeG q.1 vs) with
                | stuck => rw [hl] at h; cases h
                | exc c' x' => exact ih _ _ _ hl
                | ok r => rw [hl] at h; cases h
            · exact ih _ _ _ h
    exact none_exc _ _ _ _ hr
  | ok res =>
    obtain ⟨Γe, total⟩ := res
    simp only [hr, bind_ok] at w1
    split at w1
    · rename_i hsz
      have hb : B.He Da = none := RV.he ok1 hDa
      have n0 : H01 Da = none := fresh_back ok1.sub hDa
      refine ⟨fun i m Hi => ∃ Γi H0i acc accD rest, EnvOk X.K B (wipe σ vs) Γi H0i Hi ∧ Grow (OwnOf (wipe σ vs) (wipeG Γ1 vs)) H01 H1 H0i Hi ∧ Less (wipeG Γ1 vs) Γi ∧ Hi Da = some (.lst acc) ∧ H0i Da = none ∧ RpAll X.K H0i acc accD ∧
        lcL g tt te vs (xs.drop i) Γi = .ok (Γe, rest) ∧ accD ++ rest = total ∧ m = xs.length - i, ⟨xs.length, wipeG Γ1 vs, H01, [], [], total, ?_, ?_, Less.refl _, upd_same, n0, .nil, by simpa using hr, rfl, by simp⟩, ?_⟩
      · exact (ok1.wiped vs).poke n0 (fun z => (ok1.ownLive z.wiped).1 hDa) hb (.inr hDa)
      · exact Grow.fresh hDa
      · rintro i m Hi ⟨Γi, H0i, acc, accD, rest, oki, gi, li, hacc, hn, racc, hrest, htot, rfl⟩
        have ei := gi.ex0
        have nod : ∀ {Γ' : Ga}, Less (wipeG Γ1 vs) Γ' → ¬ OwnOf (wipe σ vs) Γ' Da := fun l z => (ok1.ownLive (l.own z).wiped).1 hDa
        by_cases hlt : i < xs.length
        · refine .inr ⟨it.go i H0i Hi ei oki.sub hlt, fun H' => ∃ Γi H0i acc accD rest, EnvOk X.K B (wipe σ vs) Γi H0i H' ∧ Grow (OwnOf (wipe σ vs) (wipeG Γ1 vs)) H01 H1 H0i H' ∧ Less (wipeG Γ1 vs) Γi ∧ H' Da = some (.lst acc) ∧ H0i Da = none ∧ RpAll X.K H0i acc accD ∧
            lcL g tt te vs (xs.drop (i + 1)) Γi = .ok (Γe, rest) ∧ accD ++ rest = total, fun H' ⟨Γi, H0i, acc, accD, rest, q1, q2, q3, q4, q5, q6, q7, q8⟩ => ⟨xs.length - (i + 1), by omega, Γi, H0i, acc, accD, rest, q1, q2, q3, q4, q5, q6, q7, q8, rfl⟩, fun v H' y => ?_⟩
          have hx : xs[i]? = some xs[i] := List.getElem?_eq_getElem hlt
          obtain ⟨H0y, gy, sy, ry⟩ := it.yld i xs[i] H0i Hi v H' ei oki.sub hx y
          have oky := oki.same gy sy
          have hd : xs.drop i = xs[i] :: xs.drop (i + 1) := List.drop_eq_getElem_cons hlt
          rw [hd] at hrest
          unfold lcL at hrest
          cases hgx : g xs[i] Γi with
          | none => rw [hgx] at hrest; cases hrest
          | some Γg =>
            rw [hgx] at hrest
            simp only at hrest
            refine hg B (wipe σ vs) Γi H0y H' v xs[i] Γg _ (hK ▸ oky) (hK ▸ ry) hgx fun σg okg wg lg og => ?_
            have ww : wipe (wipe σ vs) vs = wipe σ vs := by
              have : ∀ (ws : List Nat) (τ : L2.St), (∀ j ∈ ws, τ[j]? = some none ∨ τ.length ≤ j) → wipe τ ws = τ := by
                intro ws
                induction ws with
                | nil => intro τ _; rfl
                | cons w ws ih =>
                  intro τ hτ
                  unfold wipe
                  rw [ih τ fun j hj => hτ j (List.mem_cons_of_mem _ hj)]
                  rcases hτ w List.mem_cons_self with h | h
                  · apply List.ext_getElem?
                    intro k
                    by_cases e : k = w
                    · subst e
                      rw [List.getElem?_set_self (List.getElem?_eq_some_iff.mp h).1, h]
                    · rw [List.getElem?_set_ne (Ne.symm e)]
                  · exact List.set_eq_of_length_le h
              refine this vs _ fun j hj => ?_
              have : ∀ (ws : List Nat), j ∈ ws → (wipe σ ws)[j]? = some none ∨ (wipe σ ws).length ≤ j := by
                intro ws
                induction ws with
                | nil => intro h; cases h
                | cons w ws ih =>
                  intro h
                  unfold wipe
                  by_cases e : j = w
                  · subst e
                    by_cases hj : j < (wipe σ ws).length
                    · left; exact List.getElem?_set_self hj
                    · right; rw [List.length_set]; omega
                  · rcases List.mem_cons.mp h with h | h
                    · exact absurd h e
                    · rw [List.getElem?_set_ne (Ne.symm e), List.length_set]; exact ih h
              exact this vs hj
            refine ⟨wg.trans ww, ?_⟩
            -- what stands behind a part of the turn
            have okg : EnvOk X.K B σg Γg H0y H' := hK ▸ okg
            have own_g : ∀ p, OwnOf σg Γg p → OwnOf (wipe σ vs) (wipeG Γ1 vs) p := fun p z => li.own (og p z)
            have nog : ¬ OwnOf σg Γg Da := fun z => nod li (og _ z)
            have hy1 : H' Da = some (.lst acc) := gy.keep _ _ hacc id nofun
            have hy0 : H0y Da = none := by rw [gy.old Da (by rw [hacc]; simp) id]; exact hn
            have gyy : Grow (OwnOf (wipe σ vs) (wipeG Γ1 vs)) H01 H1 H0y H' := gi.trans gy fun p z => z.elim
            -- the end of a turn: the state (Γz, H0z, Hz) behind the test or the element
            have close : ∀ {Γz : Ga} {H0z Hz : Hp}, EnvOk X.K B σg Γz H0z Hz → Grow (OwnOf σg Γg) H0y H' H0z Hz → Less Γg Γz →
                EnvOk X.K B (wipe σ vs) (wipeG Γz vs) H0z Hz ∧ Grow (OwnOf (wipe σ vs) (wipeG Γ1 vs)) H01 H1 H0z Hz ∧ Less (wipeG Γ1 vs) (wipeG Γz vs) ∧ Hz Da = some (.lst acc) ∧ H0z Da = none ∧ RpAll X.K H0z acc accD := fun {Γz H0z Hz} okz gz lz => by
              refine ⟨?_, gyy.trans gz fun p z => .inl (own_g p z), fun j c ys h => ?_, gz.keep _ _ hy1 nog nofun, ?_, racc.m (gy.ex0.trans gz.ex0)⟩
              · have := okz.wiped vs
                rwa [wg.trans ww] at this
              · rcases wipeG_get h with ⟨e, _⟩ | ⟨e, m⟩
                · cases e
                · exact (li.trans (lg.trans lz)) j c ys e
              · rw [gz.old Da (by rw [hy1]; simp) nog]; exact hy0
            cases htt : tt Γg with
            | stuck => rw [htt] at hrest; cases hrest
            | exc _ _ => rw [htt] at hrest; cases hrest
            | ok pt =>
              obtain ⟨Γt, bt⟩ := pt
              rw [htt] at hrest
              simp only [noX, bind_ok] at hrest
              refine ht B σg Γg H0y H' _ (hK ▸ okg) ?_
              rw [htt]
              intro H0t Ht okt gt lt
              have okt : EnvOk X.K B σg Γt H0t Ht := hK ▸ okt
              cases bt with
              | false =>
                simp only [Bool.false_eq_true, if_false] at hrest ⊢
                obtain ⟨c1, c2, c3, c4, c5, c6⟩ := close okt gt lt
                exact ⟨_, _, acc, accD, rest, c1, c2, c3, c4, c5, c6, hrest, htot⟩
              | true =>
                simp only [if_true] at hrest ⊢
                cases hte : te Γt with
                | stuck => rw [hte] at hrest; cases hrest
                | exc _ _ => rw [hte] at hrest; cases hrest
                | ok pe =>
                  obtain ⟨Γz, yd⟩ := pe
                  rw [hte] at hrest
                  simp only [bind_ok] at hrest
                  refine he B σg Γt H0t Ht _ (hK ▸ okt) ?_
                  rw [hte]
                  intro yv H0z Hz okz gz lz rz
                  have okz : EnvOk X.K B σg Γz H0z Hz := hK ▸ okz
                  have rz : Rp X.K H0z yv yd := hK ▸ rz
                  obtain ⟨c1, c2, c3, c4, c5, c6⟩ := close okz (gt.trans gz fun p z => .inl (lt.own z)) (lt.trans lz)
                  cases hrr : lcL g tt te vs (xs.drop (i + 1)) (wipeG Γz vs) with
                  | stuck => rw [hrr] at hrest; cases hrest
                  | exc _ _ => rw [hrr] at hrest; cases hrest
                  | ok pr =>
                    obtain ⟨Γr, rr⟩ := pr
                    rw [hrr] at hrest
                    cases hrest
                    have hlen : acc.length < sizeLine := by
                      have h1 : total.length = accD.length + (rr.length + 1) := by rw [← htot]; simp
                      rw [c6.len]; omega
                    refine ⟨acc, c4, hlen, wipeG Γz vs, H0z, acc ++ [yv], accD ++ [yd], rr, c1.poke c5 (nod c3) hb (.inl ⟨_, c4⟩), c2.trans (Grow.poke (.inl ⟨_, c4⟩)) fun p z => .inr (by rw [z]; exact hDa), c3, upd_same, c5, c6.app (.one rz), hrr, ?_⟩
                    rw [← htot]; simp
        · refine .inl ⟨it.stop i H0i Hi ei oki.sub (by omega), ?_⟩
          rw [List.drop_eq_nil_of_le (by omega)] at hrest
          cases hrest
          rw [List.append_nil] at htot
          subst htot
          obtain ⟨q1, q2, q3⟩ := unwipe_ok ok1 oki gi li
          exact w1 (.ref Da) H0i Hi q1 q2 q3 (.f hDa hn hacc racc)
    · exact w1.elim
/-- the readings in one form, whatever the frame -/
def TDc (X : Cx) (E : XK) (s : Ga → Res (Ga × D)) : TE := fun σ H Q => ∃ B Γ H0, EnvOk X.K B σ Γ H0 H ∧ DW X B E σ Γ H0 H (s Γ) Q
def TTc (X : Cx) (E : XK) (s : Ga → Res (Ga × Bool)) : TT := fun σ H Q => ∃ B Γ H0, EnvOk X.K B σ Γ H0 H ∧ TW X B E σ Γ H0 H (s Γ) Q
def TGc (X : Cx) (vs : List Nat) (g : D → Ga → Option Ga) : TG := fun v σ H Q => ∃ B Γ H0 x Γ', EnvOk X.K B σ Γ H0 H ∧ Rp X.K H0 v x ∧ g x Γ = some Γ' ∧ ∀ σ', EnvOk X.K B σ' Γ' H0 H → wipe σ' vs = wipe σ vs → Less Γ Γ' → (∀ p, OwnOf σ' Γ' p → OwnOf σ Γ p) → Q σ' H
theorem je_lc {s : Ga → Res (Ga × List D)} {g : D → Ga → Option Ga} {tt : Ga → Res (Ga × Bool)} {te : Ga → Res (Ga × D)} {ifs : List Expr} {scope : Scope} {own : List (Str × Nat)} (hc : X.calm = true) (hN : X.N.Nodup) (hi : JI X E tg iter s) (ok : BlkOk X.N X.env.scope scope own)
    (hg : ∀ (s : Shared) (H : Hp) (C : Addr) (cl : List (Str × Addr)) (fp : List Addr), JGw (X.blk s H scope (compEnvC scope cl C X.env) fp) (own.map (·.2)) tg g)
    (ht : ∀ (s : Shared) (H : Hp) (C : Addr) (cl : List (Str × Addr)) (fp : List Addr), JTs (X.blk s H scope (compEnvC scope cl C X.env) fp) E0 ifs tt)
    (he : ∀ (s : Shared) (H : Hp) (C : Addr) (cl : List (Str × Addr)) (fp : List Addr), JD (X.blk s H scope (compEnvC scope cl C X.env) fp) E0 elt te)
    (hs : ∀ x, foldedSetIterable iter X.env x = pure x := by intro _; rfl) : JE X E (.ListComp elt [⟨tg, iter, ifs, 0⟩] scope pos) (sLc s g tt te (own.map (·.2))) := by
  obtain ⟨wi, pi, hi⟩ := hi.ex
  refine ⟨_, pe_lc (g := TGc X (own.map (·.2)) g) (tt := TTc X E0 tt) (te := TDc X E0 te) hc hN pi ok (fun s H C cl fp => ?_) (fun s H C cl fp => ?_) (fun s H C cl fp => ?_) hs, lc_sound (X' := X) rfl hi ?_ ?_ ?_⟩
  · obtain ⟨t, p, h⟩ := (hg s H C cl fp).ex
    exact ⟨fun pins s σ H v u Q I r ⟨B, Γ, H0, x, Γ', o, rx, e, k⟩ => p.run pins s σ H v u Q I r (h B σ Γ H0 H v x Γ' Q o rx e k)⟩
  · obtain ⟨t, p, h⟩ := (ht s H C cl fp).ex
    exact ⟨fun pins s σ H Q I ⟨B, Γ, H0, o, w⟩ => p.run pins s σ H Q I (h B σ Γ H0 H Q o w)⟩
  · obtain ⟨t, p, h⟩ := (he s H C cl fp).ex
    exact ⟨fun pins s σ H Q I ⟨B, Γ, H0, o, w⟩ => p.run pins s σ H Q I (h B σ Γ H0 H Q o w)⟩
  · exact fun B σ Γ H0 H v x Γ' Q o rx e k => ⟨B, Γ, H0, x, Γ', o, rx, e, k⟩
  · exact fun B σ Γ H0 H Q o w => ⟨B, Γ, H0, o, w⟩
  · exact fun B σ Γ H0 H Q o w => ⟨B, Γ, H0, o, w⟩
/-- name = [..] on one line -/
theorem js_setLc {i : Nat} {y : Str} {py spos : Pos} {s : Ga → Res (Ga × List D)} {g : D → Ga → Option Ga} {tt : Ga → Res (Ga × Bool)} {te : Ga → Res (Ga × D)} {ifs : List Expr} {scope : Scope} {own : List (Str × Nat)} (hc : X.calm = true) (hN : X.N.Nodup) (hy : X.N[i]? = some y) (hyl : X.env.scope.names.lookup y = some .local)
    (hsw : swapsWith (.ListComp elt [⟨tg, iter, ifs, 0⟩] scope pos) (some (.Name y py)) spos.line X.env = pure true) (hi : JI X E tg iter s) (ok : BlkOk X.N X.env.scope scope own)
    (hg : ∀ (s : Shared) (H : Hp) (C : Addr) (cl : List (Str × Addr)) (fp : List Addr), JGw (X.blk s H scope (compEnvC scope cl C X.env) fp) (own.map (·.2)) tg g)
    (ht : ∀ (s : Shared) (H : Hp) (C : Addr) (cl : List (Str × Addr)) (fp : List Addr), JTs (X.blk s H scope (compEnvC scope cl C X.env) fp) E0 ifs tt)
    (he : ∀ (s : Shared) (H : Hp) (C : Addr) (cl : List (Str × Addr)) (fp : List Addr), JD (X.blk s H scope (compEnvC scope cl C X.env) fp) E0 elt te)
    (hs : ∀ x, foldedSetIterable iter X.env x = pure x := by intro _; rfl) : JS X E (.Assign [.Name y py] (.ListComp elt [⟨tg, iter, ifs, 0⟩] scope pos) spos) (sSet i (sLc s g tt te (own.map (·.2)))) := by
  obtain ⟨wi, pi, hi⟩ := hi.ex
  refine ⟨_, ps_setLc (g := TGc X (own.map (·.2)) g) (tt := TTc X E0 tt) (te := TDc X E0 te) hc hN hy hyl hsw pi ok (fun s H C cl fp => ?_) (fun s H C cl fp => ?_) (fun s H C cl fp => ?_) hs, fun B σ Γ H0 H Dn ok w => ?_⟩
  · obtain ⟨t, p, h⟩ := (hg s H C cl fp).ex
    exact ⟨fun pins s σ H v u Q I r ⟨B, Γ, H0, x, Γ', o, rx, e, k⟩ => p.run pins s σ H v u Q I r (h B σ Γ H0 H v x Γ' Q o rx e k)⟩
  · obtain ⟨t, p, h⟩ := (ht s H C cl fp).ex
    exact ⟨fun pins s σ H Q I ⟨B, Γ, H0, o, w⟩ => p.run pins s σ H Q I (h B σ Γ H0 H Q o w)⟩
  · obtain ⟨t, p, h⟩ := (he s H C cl fp).ex
    exact ⟨fun pins s σ H Q I ⟨B, Γ, H0, o, w⟩ => p.run pins s σ H Q I (h B σ Γ H0 H Q o w)⟩
  · have key := lc_sound (X := X) (E := E) (X' := X) (vs := own.map (·.2)) (s := s) (g := g) (tt := tt) (te := te) (tg' := TGc X (own.map (·.2)) g) (tt' := TTc X E0 tt) (te' := TDc X E0 te) rfl hi
      (fun B σ Γ H0 H v x Γ' Q o rx e k => ⟨B, Γ, H0, x, Γ', o, rx, e, k⟩) (fun B σ Γ H0 H Q o w => ⟨B, Γ, H0, o, w⟩) (fun B σ Γ H0 H Q o w => ⟨B, Γ, H0, o, w⟩)
    show tLc wi _ _ _ _ σ H fun x H1 => Dn.nx (σ.set i (some x)) H1
    exact e_then key wok_S ok w fun Γ1 x v H01 H1 w1 ok1 g1 l1 r1 => w1 _ H01 H1 (set_ok i ok ok1 l1 r1) (Ex.refl _)
end
end Mi
namespace Mi
open PySem PySem.Spec PyProof.Rows L2 Evl
variable [Tbl]

/-! ### defs of the text -/
/-- as FnOk, where no repr is under way -/
structure FnG (P : Program) (w : World) (K : PySem.W.Frag) (mg : Str → Option Value) (base : Heap) (k : Nat) (f : Addr) (fd : FuncData) (ps : List Str) (sp : Sp) : Prop where
  args : ∀ vs H Q E, sp vs H Q E → vs.length = ps.length
  go : ∀ (A : Around) (fr : List Env) (s : Shared) (H : Hp) (ar : Args) (us : List Value) (vs : List V) (Q : VK) (E : XK), Room k A → A.guards = some [] → Env0 P w K mg base A fr s H → BindsTo s fd ar (ps.zip us) → Vals vs us →
    sp vs H Q E → codeAny (model P w) A (.call (.ref f) ar) (CR (L2.CX P w) fr P w H s Q E) s
omit [Tbl] in
theorem FnG.up {P : Program} {w : World} {K : PySem.W.Frag} {mg : Str → Option Value} {base : Heap} {j k : Nat} {f : Addr} {fd : FuncData} {ps : List Str} {sp : Sp} (F : FnG P w K mg base j f fd ps sp) (h : j ≤ k) : FnG P w K mg base k f fd ps sp where
  args := F.args
  go := fun A fr s H ar us vs Q E r => F.go A fr s H ar us vs Q E (r.mono h)
section
variable {X : Cx} {E : XK} {k : Nat} {f : Addr} {fd : FuncData} {ps : List Str} {sp : Sp} {x : Str} {p pos : Pos} {e : Expr} {es : List Expr} {t : TA}
omit [Tbl] in
theorem run_G {pins : List (Addr × Obj)} {σ : L2.St} {H : Hp} {s : Shared} {Q : VK} {us : List Value} {vs : List V} (F : FnG X.prog X.w X.K X.mg X.base k f fd ps sp) (hr : Room k X.A) (hq : X.A.guards = some []) (hb : Binds X.K fd ps []) (tk : Takes X fun cls d _ H => E cls d H)
    (I : Inv X pins σ H s) (r : Vals vs us) (h : sp vs H Q E) : wpAny (model X.prog X.w) X.A (PySem.call (.ref f) us) (EP X pins σ Q) X.xe s := by
  have el : us.length = ps.length := by rw [← r.length, F.args _ _ _ _ h]
  have bt : BindsTo s fd ⟨us, []⟩ (ps.zip us) := by
    have := hb s us I.kIn (by rw [List.append_nil]; exact el)
    rwa [List.append_nil] at this
  refine wpAny_call (codeAny_mono (F.go X.A X.stack s H _ us vs Q E hr hq I.env0 bt r h) ?_)
  intro res s' hres
  match res, hres with
  | .ok (.ret u), c => exact I.after c
  | .ok .next, c => exact c.elim
  | .ok .brk, c => exact c.elim
  | .ok .cont, c => exact c.elim
  | .error ex, c => exact passes_call tk (fun _ _ _ _ z => z) pins σ H s ex s' I c
omit [Tbl] in
theorem pe_G (F : FnG X.prog X.w X.K X.mg X.base k f fd ps sp) (hr : Room k X.A) (hq : X.A.guards = some []) (hg : Gl X x) (hm : X.mg x = some (.ref f)) (hk : PySem.W.keepIn X.K (.ref f) = true) (hb : Binds X.K fd ps []) (tk : Takes X fun cls d _ H => E cls d H) (ha : PA X (e :: es) t)
    (hdb : (x == ("__debug__" : Str)) = false) (he : starEach (e :: es) X.env = (false, eval e X.env) :: starEach es X.env) (hpl : (backTo pos (starEach es X.env)).any (·.1) = false) : PE X (.Call (.Name x p) (e :: es) [] pos) (fun σ H Q => t σ H fun vs H1 => sp vs H1 Q E) where
  run := fun pins s σ H Q I h => wpAny_Call_Name_kw (ld_glob I hg hm (PySem.W.callWith_K (h₀ := X.base) I.ok.mod.kin hk (thn (ha.run pos pins s σ H _ I h) fun us s1 ⟨vs, H1, I1, r, q⟩ => ⟨I1.kIn, run_G F hr hq hb tk I1 r q⟩) he hpl) hdb)
omit [Tbl] in
theorem pe_G0 (F : FnG X.prog X.w X.K X.mg X.base k f fd [] sp) (hr : Room k X.A) (hq : X.A.guards = some []) (hg : Gl X x) (hm : X.mg x = some (.ref f)) (hk : PySem.W.keepIn X.K (.ref f) = true) (hb : Binds X.K fd [] []) (tk : Takes X fun cls d _ H => E cls d H)
    (hdb : (x == ("__debug__" : Str)) = false) : PE X (.Call (.Name x p) [] [] pos) (fun σ H Q => sp [] H Q E) where
  run := fun pins s σ H Q I h => wpAny_Call_Name_kw (ld_glob I hg hm (PySem.W.callWith_K0 I.kIn hk (run_G F hr hq hb tk I .nil h)) hdb)
end
section
variable {P : Program} {w : World} {K : PySem.W.Frag} {mg : Str → Option Value} {base : Heap}
omit [Tbl] in
/-- the rule for a def of the text, its body read where no repr is under way -/
theorem fnG_of {x qual : Str} {st : Stmt} {f : Addr} {fd : FuncData} {N ps : List Str} {k : Nat} {sp : Sp} (F : Fun K x qual st f fd) (S : FnScope N ps (defScope st)) (hlen : ∀ vs H Q E, sp vs H Q E → vs.length = ps.length)
    (hbody : ∀ (cdv : Value) (A : Around) (fr : List Env) (s : Shared) (H : Hp) (vs : List V) (Q : VK) (E : XK), Room k (A.deeper (envOfC qual (defScope st) s.heap.objs.size f cdv)) → A.guards = some [] → sp vs H Q E →
      ∃ t, PSs (cxOf (L2.CX P w) P w K mg base N qual (defScope st) f cdv A fr s H E) (defBody st) t ∧ t { nx := fun _ H' => Q .non H', rt := Q } (L2.start N vs) H) : FnG P w K mg base (k + 1) f fd ps sp := by
  obtain ⟨oc, od, kV, doc, pm, an, cdv, ct, osl, rfl, lk, hcd⟩ := F.ex
  refine ⟨hlen, fun A fr s H ar us vs Q E hr hq e0 hb r h => ?_⟩
  have inK : K.In s.heap := e0.mod.kin.keeps fun b o z => (e0.bs b o z).1
  have noLim : s.heap.NoLimit := e0.mod.nolimit.keeps fun b o z => (e0.bs b o z).1
  refine codeAny_call_function hr.depth (inK _ _ lk) rfl S.co S.gen rfl (PySem.W.codeRec_of inK hcd) (hb _ _ _ _ (wpAny_newFunctionEnv_cells S.kind ?_ ?_))
  · rintro ⟨n, v⟩ hy
    rcases S.par n (List.of_mem_zip hy).1 with q | q
    · exact Or.inl q
    · exact Or.inr ⟨q, PySem.W.cellsFrom_some _ _ _ (Or.inl q)⟩
  · rintro env rfl s1 x1
    refine ⟨noLim.keeps x1.toInCall.keep, codeAny_func ?_⟩
    obtain ⟨t, ht, hd⟩ := hbody cdv A fr s H vs Q E (hr.deeper _) hq h
    have I := inv_start (CX := L2.CX P w) (E := E) S hr.hd e0 (hlen _ _ _ _ h) r x1
    refine wpAny_mono (ht.run [] s1 (L2.start N vs) H _ I hd) ?_ fun _ _ z => z
    intro fl s' hs
    match fl, hs with
    | .ret u, ⟨v, σ', H', J, rv, q⟩ => exact ⟨v, H', J.os, J.bare, J.base, J.hok, rv, q⟩
    | .next, ⟨σ', H', J, q⟩ => exact ⟨.non, H', J.os, J.bare, J.base, J.hok, rfl, q⟩
    | .brk, ⟨_, _, _, q⟩ => exact q.elim
    | .cont, ⟨_, _, _, q⟩ => exact q.elim
end
def Bof (H0 H : Hp) (vs : List V) (Γ : Ga) : Bg := ⟨H0, H, fun i => match Γ[i]? with
  | some (.own _ _) => (match vs[i]? with | some (.ref a) => some a | _ => none)
  | _ => none⟩
def XF (K : PySem.W.Frag) (mg : Str → Option Value) (B : Bg) (E : XK) (c : Str) (x : D) : Prop := ∀ C d v H0' H', mg c = some (.ref C) → H' d = some (.xd [(fieldOf c, v)]) → Rp K H0' v x → Ex H0' H' → Grow (fun p => ∃ i, B.io i = some p) B.He0 B.He H0' H' → E (.ref C) (some d) H'
def FW (K : PySem.W.Frag) (mg : Str → Option Value) (H0 H : Hp) (vs : List V) (Γ : Ga) (E : XK) (r : Res (Ga × R)) (Q : VK) : Prop := match r with
  | .ok (Γ', x) => ∀ v H0' H', EnvOk K (Bof H0 H vs Γ) (vs.map some) Γ' H0' H' → RV K H0 H H0' H' x v → Q v H'
  | .exc c x => XF K mg (Bof H0 H vs Γ) E c x
  | .stuck => False
def spD (K : PySem.W.Frag) (mg : Str → Option Value) (n : Nat) (m : Ga → Res (Ga × R)) : Sp := fun vs H Q E => vs.length = n ∧ ∃ H0 Γ, EnvOk K (Bof H0 H vs Γ) (vs.map some) Γ H0 H ∧ FW K mg H0 H vs Γ E (m Γ) Q
def Shape (Γ Γ' : Ga) : Prop := ∀ (k : Nat) b xs, Γ[k]? = some (.own b xs) → ∃ ys, Γ'[k]? = some (.own b ys)
structure FD (P : Program) (w : World) (K : PySem.W.Frag) (mg : Str → Option Value) (base : Heap) (k : Nat) (f : Addr) (fd : FuncData) (ps : List Str) (m : Ga → Res (Ga × R)) : Prop where
  ok : FnG P w K mg base k f fd ps (spD K mg ps.length m)
  shape : ∀ Γ Γ' r, m Γ = .ok (Γ', r) → Shape Γ Γ'

/-! ### arguments -/
def refSl (Γ : Ga) (i : Nat) : Res Sl := match Γ[i]? with
  | some (.own _ xs) => .ok (.own true xs)
  | some (.scr ns) => .ok (.scr ns)
  | _ => .stuck
def argSl (Γ : Ga) : List (Option Nat) → List D → Res Ga
  | [], [] => .ok []
  | none :: ks, x :: xs => (argSl Γ ks xs).bind fun r => .ok (.d x :: r)
  | some i :: ks, xs => (refSl Γ i).bind fun s => (argSl Γ ks xs).bind fun r => .ok (s :: r)
  | _, _ => .stuck
def refAt : List (Option Nat) → Ga → Nat → Option (List D)
  | some j :: ks, .own true ys :: os, i => if j = i then some ys else refAt ks os i
  | _ :: ks, _ :: os, i => refAt ks os i
  | _, _, _ => none
def putB (ks : List (Option Nat)) (os : Ga) (i : Nat) (s : Sl) : Sl := match s with
  | .own b xs => .own b ((refAt ks os i).getD xs)
  | s => s
def putBack (Γ : Ga) (ks : List (Option Nat)) (os : Ga) : Ga := Γ.mapIdx (putB ks os)
inductive ArgR (K : PySem.W.Frag) (H0 : Hp) (σ : L2.St) : List V → List (Option Nat) → List D → Prop
  | nil : ArgR K H0 σ [] [] []
  | d {v : V} {vs : List V} {ks : List (Option Nat)} {x : D} {xs : List D} : Rp K H0 v x → ArgR K H0 σ vs ks xs → ArgR K H0 σ (v :: vs) (none :: ks) (x :: xs)
  | ref {v : V} {vs : List V} {i : Nat} {ks : List (Option Nat)} {xs : List D} : σ[i]? = some (some v) → ArgR K H0 σ vs ks xs → ArgR K H0 σ (v :: vs) (some i :: ks) xs
def PW' (X : Cx) (B : Bg) (E : XK) (σ : L2.St) (ks : List (Option Nat)) (Γ : Ga) (H0 H : Hp) (r : Res (Ga × List D)) (Q : List V → Hp → Prop) : Prop := match r with
  | .ok (Γ', xs) => ∀ vs H0' H', EnvOk X.K B σ Γ' H0' H' → Grow (OwnOf σ Γ) H0 H H0' H' → Less Γ Γ' → ArgR X.K H0' σ vs ks xs → Q vs H'
  | .exc c x => XW X B E c x
  | .stuck => False
structure JP (X : Cx) (E : XK) (es : List Expr) (ks : List (Option Nat)) (s : Ga → Res (Ga × List D)) : Prop where
  ex : ∃ t, PA X es t ∧ ∀ B σ Γ H0 H Q, EnvOk X.K B σ Γ H0 H → PW' X B E σ ks Γ H0 H (s Γ) Q → t σ H Q
section
variable {X : Cx} {E : XK} {B : Bg} {σ : L2.St}
theorem wok_P {ks : List (Option Nat)} {Q : List V → Hp → Prop} : WOk X B E σ fun Γ H0 H r => PW' X B E σ ks Γ H0 H r Q where
  exc := fun _ _ _ _ _ h => h
  stuck := fun _ _ _ h => h
  shift := fun Γ H0 H Γ1 H01 H1 r ok g l w => by
    cases r with
    | stuck => exact w
    | exc c x => exact w
    | ok p => exact fun v H0' H' o' g' l' r' => w v H0' H' o' (shift_g g l g') (l.trans l') r'
theorem p_then {β : Type} {W : Ga → Hp → Hp → Res β → Prop} {Γ : Ga} {H0 H : Hp} {ks : List (Option Nat)} {t : TA} {s : Ga → Res (Ga × List D)} {f : Ga × List D → Res β} {Q : List V → Hp → Prop} (ha : ∀ B σ Γ H0 H Q, EnvOk X.K B σ Γ H0 H → PW' X B E σ ks Γ H0 H (s Γ) Q → t σ H Q) (wo : WOk X B E σ W) (ok : EnvOk X.K B σ Γ H0 H) (w : W Γ H0 H ((s Γ).bind f))
    (k : ∀ Γ1 x v H01 H1, W Γ1 H01 H1 (f (Γ1, x)) → EnvOk X.K B σ Γ1 H01 H1 → Grow (OwnOf σ Γ) H0 H H01 H1 → Less Γ Γ1 → ArgR X.K H01 σ v ks x → Q v H1) : t σ H Q := by
  refine ha B σ Γ H0 H Q ok ?_
  cases hs : s Γ with
  | stuck => rw [hs] at w; exact (wo.stuck _ _ _ w).elim
  | exc c x => rw [hs] at w; exact wo.exc _ _ _ _ _ w
  | ok p =>
    rw [hs] at w
    exact fun v H01 H1 ok1 g l r => k _ _ v H01 H1 (wo.shift _ _ _ _ _ _ _ ok g l w) ok1 g l r
omit [Tbl] in
theorem ArgR.m {K : PySem.W.Frag} {H0 H0' : Hp} {vs : List V} {ks : List (Option Nat)} {xs : List D} (h : ArgR K H0 σ vs ks xs) (e : Ex H0 H0') : ArgR K H0' σ vs ks xs := by
  induction h with
  | nil => exact .nil
  | d r _ ih => exact .d (r.m e) ih
  | ref r _ ih => exact .ref r ih
variable {e : Expr} {es : List Expr} {ks : List (Option Nat)}
theorem jp_nil : JP X E [] [] sNil := ⟨_, pa_nil, fun B σ Γ H0 H Q ok w => w [] H0 H ok (Grow.refl _ _ _) (Less.refl _) .nil⟩
theorem jp_d {s : Ga → Res (Ga × D)} {r : Ga → Res (Ga × List D)} (h : JD X E e s) (hr : JP X E es ks r) (hs : starEach (e :: es) X.env = (false, eval e X.env) :: starEach es X.env := by rfl) : JP X E (e :: es) (none :: ks) (sCons s r) := by
  obtain ⟨t, p, ha⟩ := h.ex
  obtain ⟨u, q, hb⟩ := hr.ex
  refine ⟨_, pa_cons p q hs, fun B σ Γ H0 H Q ok w => ?_⟩
  show t σ H fun x H1 => u σ H1 fun xs H2 => Q (x :: xs) H2
  refine d_then ha wok_P ok w fun Γ1 x v H01 H1 w1 ok1 g1 l1 r1 => ?_
  refine p_then hb wok_P ok1 w1 fun Γ2 xs vs H02 H2 w2 ok2 g2 l2 r2 => ?_
  exact w2 _ H02 H2 ok2 (Grow.refl _ _ _) (Less.refl _) (.d (r1.m g2.ex0) r2)
def sRef (i : Nat) (r : Ga → Res (Ga × List D)) : Ga → Res (Ga × List D) := fun Γ => (refSl Γ i).bind fun _ => r Γ
theorem jp_ref {i : Nat} {r : Ga → Res (Ga × List D)} (p : PE X e (tVar i)) (hr : JP X E es ks r) (hs : starEach (e :: es) X.env = (false, eval e X.env) :: starEach es X.env := by rfl) : JP X E (e :: es) (some i :: ks) (sRef i r) := by
  obtain ⟨u, q, hb⟩ := hr.ex
  refine ⟨_, pa_cons p q hs, fun B σ Γ H0 H Q ok w => ?_⟩
  unfold sRef at w
  have key : ∀ v, σ[i]? = some (some v) → PW' X B E σ (some i :: ks) Γ H0 H (r Γ) Q → tCons (tVar i) u σ H Q := fun v ev w => ⟨v, ev, by
    show u σ H fun xs H2 => Q (v :: xs) H2
    refine hb B σ Γ H0 H _ ok ?_
    cases hr : r Γ with
    | stuck => rw [hr] at w; exact w
    | exc c x => rw [hr] at w; exact w
    | ok p => rw [hr] at w; exact fun vs H0' H' o' g' l' r' => w _ H0' H' o' g' l' (.ref ev r')⟩
  unfold refSl at w
  split at w
  · rename_i b xs hx
    obtain ⟨a, vs, q1, _⟩ := ok.own i _ _ hx
    exact key _ q1 w
  · rename_i ns hx
    obtain ⟨a, q1, _⟩ := ok.scr i _ hx
    exact key _ q1 w
  · exact w.elim
end

/-! ### what the callee sees, what comes back -/
section
variable {K : PySem.W.Frag} {B : Bg} {σ : L2.St} {Γ : Ga} {H0 H : Hp} {vs : List V} {ks : List (Option Nat)} {xs : List D} {Γa : Ga}
omit [Tbl] in
theorem arg_get (r : ArgR K H0 σ vs ks xs) (h : argSl Γ ks xs = .ok Γa) : ∀ (j : Nat) s, Γa[j]? = some s → ∃ v, vs[j]? = some v ∧ ((∃ x, s = .d x ∧ Rp K H0 v x ∧ ks[j]? = some none) ∨ ∃ i, ks[j]? = some (some i) ∧ σ[i]? = some (some v) ∧ refSl Γ i = .ok s) := by
  induction r generalizing Γa with
  | nil => cases h; intro j s hj; simp at hj
  | @d v vs ks x xs rx _ ih =>
    unfold argSl at h
    cases hr : argSl Γ ks xs with
    | stuck => rw [hr] at h; cases h
    | exc _ _ => rw [hr] at h; cases h
    | ok r =>
      rw [hr] at h; cases h
      intro j s hj
      cases j with
      | zero => simp at hj; subst hj; exact ⟨v, rfl, .inl ⟨x, rfl, rx, rfl⟩⟩
      | succ j => exact ih hr j s (by simpa using hj)
  | @ref v vs i ks xs rx _ ih =>
    unfold argSl at h
    cases hi : refSl Γ i with
    | stuck => rw [hi] at h; cases h
    | exc _ _ => rw [hi] at h; cases h
    | ok s0 =>
      rw [hi] at h
      cases hr : argSl Γ ks xs with
      | stuck => simp only [bind_ok, hr] at h; cases h
      | exc _ _ => simp only [bind_ok, hr] at h; cases h
      | ok r =>
        simp only [bind_ok, hr] at h; cases h
        intro j s hj
        cases j with
        | zero => simp at hj; subst hj; exact ⟨v, rfl, .inr ⟨i, rfl, rx, hi⟩⟩
        | succ j => exact ih hr j s (by simpa using hj)
omit [Tbl] in
theorem arg_len (r : ArgR K H0 σ vs ks xs) (h : argSl Γ ks xs = .ok Γa) : Γa.length = vs.length ∧ vs.length = ks.length := by
  induction r generalizing Γa with
  | nil => cases h; exact ⟨rfl, rfl⟩
  | @d v vs ks x xs rx _ ih =>
    unfold argSl at h
    cases hr : argSl Γ ks xs with
    | stuck => rw [hr] at h; cases h
    | exc _ _ => rw [hr] at h; cases h
    | ok r => rw [hr] at h; cases h; simp [ih hr]
  | @ref v vs i ks xs rx _ ih =>
    unfold argSl at h
    cases hi : refSl Γ i with
    | stuck => rw [hi] at h; cases h
    | exc _ _ => rw [hi] at h; cases h
    | ok s0 =>
      rw [hi] at h
      cases hr : argSl Γ ks xs with
      | stuck => simp only [bind_ok, hr] at h; cases h
      | exc _ _ => simp only [bind_ok, hr] at h; cases h
      | ok r => simp only [bind_ok, hr] at h; cases h; simp [ih hr]
omit [Tbl] in
theorem refSl_own {i : Nat} {b : Bool} {ys : List D} (h : refSl Γ i = .ok (.own b ys)) : b = true ∧ ∃ c, Γ[i]? = some (.own c ys) := by
  unfold refSl at h
  split at h
  · cases h; exact ⟨rfl, _, by assumption⟩
  · cases h
  · cases h
omit [Tbl] in
theorem refs_apart : ∀ {ks : List (Option Nat)} {j k i : Nat}, (ks.filterMap id).Nodup → ks[j]? = some (some i) → ks[k]? = some (some i) → j = k
  | [], j, _, _, _, h, _ => by simp at h
  | none :: ks, j, k, i, nd, h1, h2 => by
    cases j with
    | zero => simp at h1
    | succ j =>
      cases k with
      | zero => simp at h2
      | succ k => exact congrArg (· + 1) (refs_apart (ks := ks) (i := i) (by simpa using nd) (by simpa using h1) (by simpa using h2))
  | some m :: ks, j, k, i, nd, h1, h2 => by
    have nd' : (m :: ks.filterMap id).Nodup := by simpa using nd
    have hm := (List.nodup_cons.mp nd').1
    cases j with
    | zero =>
      cases k with
      | zero => rfl
      | succ k =>
        simp at h1 h2; subst h1
        exact absurd (List.mem_filterMap (f := id).mpr ⟨some m, List.mem_of_getElem? h2, rfl⟩) hm
    | succ j =>
      cases k with
      | zero =>
        simp at h1 h2; subst h2
        exact absurd (List.mem_filterMap (f := id).mpr ⟨some m, List.mem_of_getElem? h1, rfl⟩) hm
      | succ k => exact congrArg (· + 1) (refs_apart (ks := ks) (i := i) (List.nodup_cons.mp nd').2 (by simpa using h1) (by simpa using h2))
omit [Tbl] in
theorem io_of {j : Nat} {b : Bool} {ys : List D} {a : Addr} (h : Γa[j]? = some (.own b ys)) (e : vs[j]? = some (.ref a)) : (Bof H0 H vs Γa).io j = some a := by
  show (match Γa[j]? with | some (.own _ _) => (match vs[j]? with | some (.ref a) => some a | _ => none) | _ => none) = _
  rw [h, e]
omit [Tbl] in
theorem of_io {j : Nat} {a : Addr} (h : (Bof H0 H vs Γa).io j = some a) : ∃ b ys, Γa[j]? = some (.own b ys) ∧ vs[j]? = some (.ref a) := by
  have h : (match Γa[j]? with | some (.own _ _) => (match vs[j]? with | some (.ref a) => some a | _ => none) | _ => none) = some a := h
  split at h
  · rename_i b ys hj
    split at h
    · cases h; exact ⟨b, ys, hj, by assumption⟩
    · cases h
  · cases h
theorem env_args (ok : EnvOk K B σ Γ H0 H) (r : ArgR K H0 σ vs ks xs) (h : argSl Γ ks xs = .ok Γa) (nd : (ks.filterMap id).Nodup) : EnvOk K (Bof H0 H vs Γa) (vs.map some) Γa H0 H where
  sub := ok.sub
  len := by rw [List.length_map]; exact (arg_len r h).1
  dat := fun j x hj => by
    obtain ⟨v, e1, q⟩ := arg_get r h j _ hj
    refine ⟨v, by simp [e1], ?_⟩
    rcases q with ⟨y, e, rx, _⟩ | ⟨i, _, _, e⟩
    · cases e; exact rx
    · unfold refSl at e; split at e <;> cases e
  scr := fun j ns hj => by
    obtain ⟨v, e1, q⟩ := arg_get r h j _ hj
    rcases q with ⟨y, e, rx, _⟩ | ⟨i, _, es, e⟩
    · cases e
    · unfold refSl at e
      split at e
      · cases e
      · rename_i ms hm
        cases e
        obtain ⟨a, e3, r3⟩ := ok.scr i _ hm
        rw [es] at e3; cases e3
        exact ⟨a, by simp [e1], r3⟩
      · cases e
  own := fun j b ys hj => by
    obtain ⟨v, e1, q⟩ := arg_get r h j _ hj
    rcases q with ⟨y, e, rx, _⟩ | ⟨i, _, es, e⟩
    · cases e
    · obtain ⟨rfl, c, hc⟩ := refSl_own e
      obtain ⟨a, us, q1, q2, q3, q4, _⟩ := ok.own i _ _ hc
      rw [es] at q1; cases q1
      exact ⟨a, us, by simp [e1], q2, q3, q4, fun _ => io_of hj e1, fun z => nomatch z⟩
  apart := fun j k b c ys zs a hjk h1 h2 => by
    obtain ⟨v, e1, q⟩ := arg_get r h j _ h1
    obtain ⟨v', e1', q'⟩ := arg_get r h k _ h2
    rcases q with ⟨y, e, _⟩ | ⟨i, ki, es, e⟩
    · cases e
    · rcases q' with ⟨y, e', _⟩ | ⟨i', ki', es', e'⟩
      · cases e'
      · obtain ⟨_, d, hd⟩ := refSl_own e
        obtain ⟨_, d', hd'⟩ := refSl_own e'
        have ne : i ≠ i' := fun z => hjk (refs_apart nd ki (by rw [z]; exact ki'))
        intro z1 z2
        simp [e1] at z1
        simp [e1'] at z2
        subst z1 z2
        exact ok.apart i i' _ _ _ _ a ne hd hd' es es'
  grow := Grow.refl _ _ _
  tabs := ok.tabs
  past := ok.past
  cl := fun j hj => by
    obtain ⟨v, e1, q⟩ := arg_get r h j _ hj
    rcases q with ⟨y, e, _⟩ | ⟨i, _, _, e⟩
    · cases e
    · unfold refSl at e; split at e <;> cases e
omit [Tbl] in
theorem refAt_some : ∀ {ks : List (Option Nat)} {os : Ga} {i : Nat} {ys : List D}, refAt ks os i = some ys → ∃ (j : Nat), ks[j]? = some (some i) ∧ os[j]? = some (Sl.own true ys)
  | [], _, _, _, h => by simp [refAt] at h
  | _ :: _, [], _, _, h => by simp [refAt] at h
  | none :: ks, o :: os, i, ys, h => by
    have h : refAt ks os i = some ys := by simpa [refAt] using h
    obtain ⟨j, h1, h2⟩ := refAt_some h
    exact ⟨j + 1, by simpa using h1, by simpa using h2⟩
  | some m :: ks, o :: os, i, ys, h => by
    have go : refAt ks os i = some ys → ∃ (j : Nat), (some m :: ks)[j]? = some (some i) ∧ (o :: os)[j]? = some (Sl.own true ys) := fun h => by
      obtain ⟨j, h1, h2⟩ := refAt_some h
      exact ⟨j + 1, by simpa using h1, by simpa using h2⟩
    cases o with
    | un => exact go (by simpa [refAt] using h)
    | d _ => exact go (by simpa [refAt] using h)
    | scr _ => exact go (by simpa [refAt] using h)
    | cl => exact go (by simpa [refAt] using h)
    | own b zs =>
      cases b with
      | false => exact go (by simpa [refAt] using h)
      | true =>
        unfold refAt at h
        split at h
        · rename_i e; cases h; subst e; exact ⟨0, rfl, rfl⟩
        · exact go h
omit [Tbl] in
theorem refAt_none : ∀ {ks : List (Option Nat)} {os : Ga} {i j : Nat} {ys : List D}, refAt ks os i = none → ks[j]? = some (some i) → os[j]? ≠ some (.own true ys)
  | [], _, _, j, _, _, h1 => by simp at h1
  | _ :: _, [], _, j, _, _, _ => by simp
  | none :: ks, o :: os, i, j, ys, h, h1 => by
    have h : refAt ks os i = none := by simpa [refAt] using h
    cases j with
    | zero => simp at h1
    | succ j => simpa using refAt_none h (by simpa using h1)
  | some m :: ks, o :: os, i, j, ys, h, h1 => by
    cases j with
    | zero =>
      simp at h1; subst h1
      intro z
      simp at z; subst z
      simp [refAt] at h
    | succ j =>
      have : refAt ks os i = none := by
        cases o with
        | un => simpa [refAt] using h
        | d _ => simpa [refAt] using h
        | scr _ => simpa [refAt] using h
        | cl => simpa [refAt] using h
        | own b zs =>
          cases b with
          | false => simpa [refAt] using h
          | true =>
            unfold refAt at h
            split at h
            · cases h
            · exact h
      simpa using refAt_none this (by simpa using h1)
omit [Tbl] in
theorem putBack_get {os : Ga} {i : Nat} {s : Sl} (h : (putBack Γ ks os)[i]? = some s) : ∃ s0, Γ[i]? = some s0 ∧ s = putB ks os i s0 := by
  unfold putBack at h
  rw [List.getElem?_mapIdx] at h
  obtain ⟨s0, h1, h2⟩ := Option.map_eq_some_iff.mp h
  exact ⟨s0, h1, h2.symm⟩
/-- behind the call -/
theorem env_back {Γo : Ga} {H0' H' : Hp} (ok : EnvOk K B σ Γ H0 H) (r : ArgR K H0 σ vs ks xs) (h : argSl Γ ks xs = .ok Γa) (nd : (ks.filterMap id).Nodup) (ok' : EnvOk K (Bof H0 H vs Γa) (vs.map some) Γo H0' H') (sh : Shape Γa Γo) :
    EnvOk K B σ (putBack Γ ks Γo) H0' H' ∧ Grow (OwnOf σ Γ) H0 H H0' H' ∧ Less Γ (putBack Γ ks Γo) := by
  have g : Grow (OwnOf σ Γ) H0 H H0' H' := ok'.grow.wide fun p ⟨j, hj⟩ => by
    obtain ⟨b, ys, h1, h2⟩ := of_io hj
    obtain ⟨v, e1, q⟩ := arg_get r h j _ h1
    rw [h2] at e1; cases e1
    rcases q with ⟨y, e, _⟩ | ⟨i, _, es, e⟩
    · cases e
    · obtain ⟨_, c, hc⟩ := refSl_own e
      exact ⟨i, c, ys, hc, es⟩
  refine ⟨ok.step g ok'.sub (fun i x hi => ?_) (fun i ns hi => ?_) (fun i b ys hi => ?_) (by simp [putBack]) (fun i hi => by
    obtain ⟨s0, h1, h2⟩ := putBack_get hi
    cases s0 <;> simp [putB] at h2
    exact h1), g, fun i b ys hi => ?_⟩
  · obtain ⟨s0, h1, h2⟩ := putBack_get hi
    cases s0 <;> simp [putB] at h2
    subst h2; exact .inl h1
  · obtain ⟨s0, h1, h2⟩ := putBack_get hi
    cases s0 <;> simp [putB] at h2
    subst h2; exact h1
  · obtain ⟨s0, h1, h2⟩ := putBack_get hi
    cases s0 with
    | un => simp [putB] at h2
    | d _ => simp [putB] at h2
    | scr _ => simp [putB] at h2
    | cl => simp [putB] at h2
    | own c zs =>
      simp only [putB, Sl.own.injEq] at h2
      obtain ⟨rfl, h2⟩ := h2
      refine ⟨zs, h1, fun a ea => ?_⟩
      obtain ⟨a', us, q1, q2, q3, q4, _⟩ := ok.own i _ _ h1
      rw [ea] at q1; cases q1
      cases hr : refAt ks Γo i with
      | some ws =>
        rw [hr] at h2
        simp at h2; subst h2
        obtain ⟨j, k1, k2⟩ := refAt_some hr
        obtain ⟨p, vs', p1, p2, p3, p4, p5, _⟩ := ok'.own j _ _ k2
        obtain ⟨b', ys', z1, z2⟩ := of_io (p5 rfl)
        obtain ⟨v, e1, q⟩ := arg_get r h j _ z1
        rw [z2] at e1; cases e1
        rcases q with ⟨y, e, _⟩ | ⟨i', ki, es, e⟩
        · cases e
        · rw [k1] at ki; cases ki
          rw [ea] at es; cases es
          exact ⟨p2, vs', p3, p4⟩
      | none =>
        rw [hr] at h2
        simp at h2; subst h2
        have no : ¬ ∃ j, (Bof H0 H vs Γa).io j = some a := fun ⟨j, hj⟩ => by
          obtain ⟨b', ys', z1, z2⟩ := of_io hj
          obtain ⟨v, e1, q⟩ := arg_get r h j _ z1
          rw [z2] at e1; cases e1
          rcases q with ⟨y, e, _⟩ | ⟨i', ki, es, e⟩
          · cases e
          · obtain ⟨rfl, c, hc⟩ := refSl_own e
            by_cases hii : i' = i
            · subst hii
              obtain ⟨ws, hw⟩ := sh j _ _ z1
              exact refAt_none hr ki hw
            · exact ok.apart i' i _ _ _ _ a hii hc h1 es ea
        exact ⟨by rw [ok'.grow.old a (by show H a ≠ none; rw [q3]; simp) no]; exact q2, us, ok'.grow.keep a _ q3 no nofun, q4.m g.ex0⟩
  · obtain ⟨s0, h1, h2⟩ := putBack_get hi
    cases s0 with
    | un => simp [putB] at h2
    | d _ => simp [putB] at h2
    | scr _ => simp [putB] at h2
    | cl => simp [putB] at h2
    | own c zs =>
      simp only [putB, Sl.own.injEq] at h2
      obtain ⟨rfl, h2⟩ := h2
      exact ⟨zs, h1⟩
end
def callS (m : Ga → Res (Ga × R)) (ks : List (Option Nat)) (s : Ga → Res (Ga × List D)) : Ga → Res (Ga × R) := fun Γ => (s Γ).bind fun p => (argSl p.1 ks p.2).bind fun Γa => (m Γa).bind fun q => .ok (putBack p.1 ks q.1, q.2)
section
variable {X : Cx} {E : XK} {k : Nat} {f : Addr} {fd : FuncData} {ps : List Str} {m : Ga → Res (Ga × R)} {x : Str} {p pos : Pos} {e : Expr} {es : List Expr} {ks : List (Option Nat)} {s : Ga → Res (Ga × List D)}
theorem call_sound {t : TA} (sh : ∀ Γ Γ' r, m Γ = .ok (Γ', r) → Shape Γ Γ') (nd : (ks.filterMap id).Nodup) (hl : ks.length = ps.length) (ha : ∀ B σ Γ H0 H Q, EnvOk X.K B σ Γ H0 H → PW' X B E σ ks Γ H0 H (s Γ) Q → t σ H Q) :
    ∀ B σ Γ H0 H Q, EnvOk X.K B σ Γ H0 H → EW X B E σ Γ H0 H (callS m ks s Γ) Q → t σ H (fun vs H1 => spD X.K X.mg ps.length m vs H1 Q E) := fun B σ Γ H0 H Q ok w => by
  refine p_then ha wok_E ok w fun Γ1 xs vs H01 H1 w1 ok1 g1 l1 r1 => ?_
  cases hA : argSl Γ1 ks xs with
  | stuck => simp only [hA] at w1; exact w1.elim
  | exc c y =>
    exfalso
    have none_exc : ∀ (ks : List (Option Nat)) (xs : List D) c y, argSl Γ1 ks xs ≠ .exc c y := by
      intro ks
      induction ks with
      | nil => intro xs c y h; cases xs <;> cases h
      | cons a ks ih =>
        intro xs c y h
        cases a with
        | none =>
          cases xs with
          | nil => cases h
          | cons z zs =>
            unfold argSl at h
            cases hr : argSl Γ1 ks zs with
            | stuck => rw [hr] at h; cases h
            | exc _ _ => exact ih _ _ _ hr
            | ok _ => rw [hr] at h; cases h
        | some i =>
          unfold argSl at h
          cases hi : refSl Γ1 i with
          | stuck => rw [hi] at h; cases h
          | exc _ _ => unfold refSl at hi; split at hi <;> cases hi
          | ok s0 =>
            rw [hi] at h
            cases hr : argSl Γ1 ks xs with
            | stuck => simp only [bind_ok, hr] at h; cases h
            | exc _ _ => exact ih _ _ _ hr
            | ok _ => simp only [bind_ok, hr] at h; cases h
    exact none_exc _ _ _ _ hA
  | ok Γa =>
    simp only [hA, bind_ok] at w1
    refine ⟨by rw [(arg_len r1 hA).2, hl], H01, Γa, env_args ok1 r1 hA nd, ?_⟩
    cases hm : m Γa with
    | stuck => rw [hm] at w1; exact w1.elim
    | exc c y =>
      rw [hm] at w1
      exact fun C d v H0' H' h1 h2 h3 h4 h5 => w1 C d v H0' H' h1 h2 h3 h4 (ok1.grow.trans h5 fun p ⟨j, hj⟩ => by
        obtain ⟨b, ys, z1, z2⟩ := of_io hj
        obtain ⟨v, e1, q⟩ := arg_get r1 hA j _ z1
        rw [z2] at e1; cases e1
        rcases q with ⟨y, e, _⟩ | ⟨i, _, es, e⟩
        · cases e
        · obtain ⟨_, c, hc⟩ := refSl_own e
          exact ok1.ioOr ⟨i, c, ys, hc, es⟩)
    | ok q =>
      obtain ⟨Γo, z⟩ := q
      rw [hm] at w1
      intro v H0' H' ok' rv
      obtain ⟨b1, b2, b3⟩ := env_back ok1 r1 hA nd ok' (sh _ _ _ hm)
      exact w1 v H0' H' b1 b2 b3 rv
/-- f(..), f a def of the text -/
theorem je_call (F : FD X.prog X.w X.K X.mg X.base k f fd ps m) (hr : Room k X.A) (hq : X.A.guards = some []) (hg : Gl X x) (hm : X.mg x = some (.ref f)) (hk : PySem.W.keepIn X.K (.ref f) = true) (hb : Binds X.K fd ps []) (tk : Takes X fun cls d _ H => E cls d H) (ha : JP X E (e :: es) ks s) (nd : (ks.filterMap id).Nodup) (hl : ks.length = ps.length)
    (hdb : (x == ("__debug__" : Str)) = false := by decide) (he : starEach (e :: es) X.env = (false, eval e X.env) :: starEach es X.env := by rfl) (hpl : (backTo pos (starEach es X.env)).any (·.1) = false := by rfl) :
    JE X E (.Call (.Name x p) (e :: es) [] pos) (callS m ks s) := by
  obtain ⟨t, pp, hs⟩ := ha.ex
  exact ⟨_, pe_G F.ok hr hq hg hm hk hb tk pp hdb he hpl, call_sound F.shape nd hl hs⟩
theorem je_call0 (F : FD X.prog X.w X.K X.mg X.base k f fd [] m) (hr : Room k X.A) (hq : X.A.guards = some []) (hg : Gl X x) (hm : X.mg x = some (.ref f)) (hk : PySem.W.keepIn X.K (.ref f) = true) (hb : Binds X.K fd [] []) (tk : Takes X fun cls d _ H => E cls d H) (hdb : (x == ("__debug__" : Str)) = false := by decide) :
    JE X E (.Call (.Name x p) [] [] pos) (callS m [] sNil) :=
  ⟨_, pe_G0 F.ok hr hq hg hm hk hb tk hdb, fun B σ Γ H0 H Q ok w => call_sound (X := X) (E := E) (ps := []) (ks := []) (t := tNil) (s := sNil) F.shape .nil rfl (fun B σ Γ H0 H Q ok w => w [] H0 H ok (Grow.refl _ _ _) (Less.refl _) .nil) B σ Γ H0 H Q ok w⟩
end

/-! ### a def by its body -/
/-- the parameters behind the body: those handed by reference -/
def outs : Ga → Ga → Res Ga
  | [], _ => .ok []
  | .own true _ :: r, .own true ys :: q => (outs r q).bind fun z => .ok (.own true ys :: z)
  | .own _ _ :: _, _ => .stuck
  | s :: r, _ :: q => (outs r q).bind fun z => .ok (s :: z)
  | _ :: _, [] => .stuck
def endF (Γ : Ga) (p : Ga × Fl) : Res (Ga × R) := match p.2 with
  | .nx => (outs Γ p.1).bind fun z => .ok (z, .d .none)
  | .rt r => (outs Γ p.1).bind fun z => .ok (z, r)
  | _ => .stuck
/-- the def of n parameters and l further names -/
def defS (n l : Nat) (body : Ga → Res (Ga × Fl)) : Ga → Res (Ga × R) := fun Γ => if Γ.length = n then (body (Γ ++ List.replicate l .un)).bind (endF Γ) else .stuck
omit [Tbl] in
theorem outs_ok : ∀ {Γ Γ1 Γ' : Ga}, outs Γ Γ1 = .ok Γ' → Γ'.length = Γ.length ∧ ∀ (i : Nat) s, Γ'[i]? = some s → (Γ[i]? = some s ∧ ∀ b xs, s ≠ .own b xs) ∨ ∃ xs ys, s = .own true ys ∧ Γ[i]? = some (.own true xs) ∧ Γ1[i]? = some (.own true ys)
  | [], _, _, h => by cases h; exact ⟨rfl, fun i s h => by simp at h⟩
  | s0 :: r, [], _, h => by cases s0 with
    | own b _ => cases b <;> cases h
    | _ => cases h
  | s0 :: r, s1 :: q, Γ', h => by
    have go : ∀ {s2 : Sl}, (outs r q).bind (fun z => .ok (s2 :: z)) = .ok Γ' → ((s0 = s2 ∧ ∀ b xs, s2 ≠ .own b xs) ∨ ∃ xs ys, s2 = .own true ys ∧ s0 = .own true xs ∧ s1 = .own true ys) →
        Γ'.length = (s0 :: r).length ∧ ∀ (i : Nat) s, Γ'[i]? = some s → ((s0 :: r)[i]? = some s ∧ ∀ b xs, s ≠ .own b xs) ∨ ∃ xs ys, s = .own true ys ∧ (s0 :: r)[i]? = some (.own true xs) ∧ (s1 :: q)[i]? = some (.own true ys) := fun {s2} h hd => by
      cases hz : outs r q with
      | stuck => rw [hz] at h; cases h
      | exc _ _ => rw [hz] at h; cases h
      | ok z =>
        rw [hz] at h; cases h
        obtain ⟨hl, ih⟩ := outs_ok hz
        refine ⟨by simp [hl], fun i s hi => ?_⟩
        cases i with
        | zero =>
          simp at hi; subst hi
          rcases hd with ⟨e, n⟩ | ⟨xs, ys, e1, e2, e3⟩
          · exact .inl ⟨by simp [e], n⟩
          · exact .inr ⟨xs, ys, e1, by simp [e2], by simp [e3]⟩
        | succ i =>
          rcases ih i s (by simpa using hi) with ⟨e, n⟩ | ⟨xs, ys, e1, e2, e3⟩
          · exact .inl ⟨by simpa using e, n⟩
          · exact .inr ⟨xs, ys, e1, by simpa using e2, by simpa using e3⟩
    cases s0 with
    | un => exact go (s2 := .un) h (.inl ⟨rfl, fun _ _ z => nomatch z⟩)
    | d x => exact go (s2 := .d x) h (.inl ⟨rfl, fun _ _ z => nomatch z⟩)
    | scr x => exact go (s2 := .scr x) h (.inl ⟨rfl, fun _ _ z => nomatch z⟩)
    | cl => exact go (s2 := .cl) h (.inl ⟨rfl, fun _ _ z => nomatch z⟩)
    | own b xs =>
      cases b with
      | false => cases s1 <;> cases h
      | true =>
        cases s1 with
        | own c ys =>
          cases c with
          | true => exact go (s2 := .own true ys) h (.inr ⟨xs, ys, rfl, rfl, rfl⟩)
          | false => cases h
        | _ => cases h
omit [Tbl] in
theorem outs_shape {Γ Γ1 Γ' : Ga} (h : outs Γ Γ1 = .ok Γ') (n : ∀ (i : Nat) xs, Γ[i]? ≠ some (.own false xs)) : Shape Γ Γ' := fun k b xs hk => by
  obtain ⟨hl, ho⟩ := outs_ok h
  have hk' : k < Γ'.length := by rw [hl]; exact (List.getElem?_eq_some_iff.mp hk).1
  rcases ho k _ (List.getElem?_eq_getElem hk') with ⟨e, z⟩ | ⟨xs', ys, e1, e2, e3⟩
  · rw [hk] at e
    exact absurd (Option.some.inj e).symm (z b xs)
  · rw [hk] at e2; cases e2
    exact ⟨ys, by rw [List.getElem?_eq_getElem hk', e1]⟩
omit [Tbl] in
theorem outs_nofalse : ∀ {Γ Γ1 Γ' : Ga}, outs Γ Γ1 = .ok Γ' → ∀ (i : Nat) xs, Γ[i]? ≠ some (.own false xs)
  | [], _, _, _, i, xs, h => by simp at h
  | s0 :: r, [], _, h, _, _, _ => by cases s0 with
    | own b _ => cases b <;> cases h
    | _ => cases h
  | s0 :: r, s1 :: q, Γ', h, i, xs, hi => by
    have go : ∀ {s2 : Sl}, (outs r q).bind (fun z => .ok (s2 :: z)) = .ok Γ' → (∀ xs, s0 ≠ .own false xs) → False := fun {s2} h hd => by
      cases hz : outs r q with
      | stuck => rw [hz] at h; cases h
      | exc _ _ => rw [hz] at h; cases h
      | ok z =>
        cases i with
        | zero => simp at hi; exact hd xs hi
        | succ i => exact outs_nofalse hz i xs (by simpa using hi)
    cases s0 with
    | un => exact go (s2 := .un) h (fun _ z => nomatch z)
    | d x => exact go (s2 := .d x) h (fun _ z => nomatch z)
    | scr x => exact go (s2 := .scr x) h (fun _ z => nomatch z)
    | cl => exact go (s2 := .cl) h (fun _ z => nomatch z)
    | own b ys =>
      cases b with
      | false => cases s1 <;> cases h
      | true =>
        cases s1 with
        | own c ys =>
          cases c with
          | true => exact go (s2 := .own true ys) h (fun _ z => nomatch z)
          | false => cases h
        | _ => cases h
omit [Tbl] in
theorem defS_shape {n l : Nat} {body : Ga → Res (Ga × Fl)} (Γ Γ' : Ga) (r : R) (h : defS n l body Γ = .ok (Γ', r)) : Shape Γ Γ' := by
  unfold defS at h
  split at h
  · cases hb : body (Γ ++ List.replicate l .un) with
    | stuck => rw [hb] at h; cases h
    | exc _ _ => rw [hb] at h; cases h
    | ok p =>
      obtain ⟨Γ1, fl⟩ := p
      rw [hb] at h
      have go : ∀ {r'}, (outs Γ Γ1).bind (fun z => .ok (z, r')) = .ok (Γ', r) → Shape Γ Γ' := fun {r'} h => by
        cases hz : outs Γ Γ1 with
        | stuck => rw [hz] at h; cases h
        | exc _ _ => rw [hz] at h; cases h
        | ok z => rw [hz] at h; cases h; exact outs_shape hz (outs_nofalse hz)
      cases fl with
      | nx => exact go h
      | rt _ => exact go h
      | bk => cases h
      | ct => cases h
  · cases h
section
variable {P : Program} {w : World} {K : PySem.W.Frag} {mg : Str → Option Value} {base : Heap}
/-- what a body means is what is asked of it -/
theorem body_ok1 {qual : Str} {st : Stmt} {f : Addr} {N ps : List Str} {body : Ga → Res (Ga × Fl)} (S : FnScope N ps (defScope st)) (cdv : Value) (A : Around) (outer : List Env) (s : Shared) (H : Hp) (vs : List V) (Q : VK) (E : XK)
    (hbody : JSs (cxOf (L2.CX P w) P w K mg base N qual (defScope st) f cdv A outer s H E) E (defBody st) body)
    (h : spD K mg ps.length (defS ps.length (N.length - ps.length) body) vs H Q E) : ∃ t, PSs (cxOf (L2.CX P w) P w K mg base N qual (defScope st) f cdv A outer s H E) (defBody st) t ∧ t { nx := fun _ H' => Q .non H', rt := Q } (L2.start N vs) H := by
  obtain ⟨t, p, hs⟩ := hbody.ex
  obtain ⟨hlen, H0, Γ, ok, w⟩ := h
  refine ⟨t, p, ?_⟩
  have hG : Γ.length = vs.length := by rw [ok.len, List.length_map]
  have hpl : ps.length ≤ N.length := by have := congrArg List.length S.pre; rw [List.length_take] at this; omega
  have hst : L2.start N vs = vs.map some ++ List.replicate (N.length - ps.length) none := by unfold L2.start; rw [hlen]
  have back : ∀ {Γ2 : Ga} {i : Nat} {s : Sl}, (Γ2 ++ List.replicate (N.length - ps.length) Sl.un)[i]? = some s → (i < Γ2.length ∧ Γ2[i]? = some s) ∨ s = .un := fun {Γ2 i s} h => by
    by_cases hi : i < Γ2.length
    · rw [List.getElem?_append_left hi] at h; exact .inl ⟨hi, h⟩
    · rw [List.getElem?_append_right (by omega), List.getElem?_replicate] at h
      split at h <;> cases h
      exact .inr rfl
  have fw : ∀ {i : Nat} {v : V}, i < Γ.length → (vs.map some)[i]? = some (some v) → (L2.start N vs)[i]? = some (some v) := fun {i v} hi e => by
    rw [hst, List.getElem?_append_left (by simpa [← hG] using hi)]; exact e
  have bk : ∀ {i : Nat} {v : V}, i < Γ.length → (L2.start N vs)[i]? = some (some v) → (vs.map some)[i]? = some (some v) := fun {i v} hi e => by
    rw [hst, List.getElem?_append_left (by simpa [← hG] using hi)] at e; exact e
  have ok1 : EnvOk K (Bof H0 H vs Γ) (L2.start N vs) (Γ ++ List.replicate (N.length - ps.length) Sl.un) H0 H := by
    refine ⟨ok.sub, by rw [hst]; simp [hG], fun i x h => ?_, fun i x h => ?_, fun i b x h => ?_, fun i j b c xs ys a hij h1 h2 => ?_, ok.grow, ok.tabs, ok.past, fun i h => (by
      rcases back h with ⟨hi, h⟩ | h
      · exact fw hi (ok.cl i h)
      · cases h)⟩
    · rcases back h with ⟨hi, h⟩ | h
      · obtain ⟨v, e, r⟩ := ok.dat i x h
        exact ⟨v, fw hi e, r⟩
      · cases h
    · rcases back h with ⟨hi, h⟩ | h
      · obtain ⟨v, e, r⟩ := ok.scr i x h
        exact ⟨v, fw hi e, r⟩
      · cases h
    · rcases back h with ⟨hi, h⟩ | h
      · obtain ⟨a, us, e, r⟩ := ok.own i b x h
        exact ⟨a, us, fw hi e, r⟩
      · cases h
    · rcases back h1 with ⟨hi, h1⟩ | h
      · rcases back h2 with ⟨hj, h2⟩ | h
        · exact fun z1 z2 => ok.apart i j b c xs ys a hij h1 h2 (bk hi z1) (bk hj z2)
        · cases h
      · cases h
  refine hs (Bof H0 H vs Γ) _ _ H0 H _ ok1 ?_
  have w : FW K mg H0 H vs Γ E (defS ps.length (N.length - ps.length) body Γ) Q := w
  unfold defS at w
  rw [if_pos (by rw [hG, hlen])] at w
  cases hb : body (Γ ++ List.replicate (N.length - ps.length) .un) with
  | stuck => rw [hb] at w; exact w.elim
  | exc c y => rw [hb] at w; exact w
  | ok q =>
    obtain ⟨Γ1, fl⟩ := q
    rw [hb] at w
    have fin : ∀ {r : R} {σ1 : L2.St} {H01 H1 : Hp} {v : V}, FW K mg H0 H vs Γ E ((outs Γ Γ1).bind fun z => .ok (z, r)) Q → EnvOk K (Bof H0 H vs Γ) σ1 Γ1 H01 H1 → Ex H0 H01 → RVB K (Bof H0 H vs Γ) H01 H1 r v → Q v H1 := fun {r σ1 H01 H1 v} w o1 e1 rv => by
      cases hz : outs Γ Γ1 with
      | stuck => rw [hz] at w; exact w.elim
      | exc c y =>
        exfalso
        have : ∀ (Γ Γ1 : Ga) c y, outs Γ Γ1 ≠ .exc c y := by
          intro Γ
          induction Γ with
          | nil => intro Γ1 c y h; cases h
          | cons s0 r ih =>
            intro Γ1 c y h
            cases Γ1 with
            | nil => cases s0 with
              | own b _ => cases b <;> cases h
              | _ => cases h
            | cons s1 q =>
              have go : ∀ {s2 : Sl}, (outs r q).bind (fun z => .ok (s2 :: z)) = .exc c y → False := fun {s2} h => by
                cases hz : outs r q with
                | stuck => rw [hz] at h; cases h
                | exc _ _ => exact ih _ _ _ hz
                | ok _ => rw [hz] at h; cases h
              cases s0 with
              | un => exact go (s2 := .un) h
              | d x => exact go (s2 := .d x) h
              | scr x => exact go (s2 := .scr x) h
              | cl => exact go (s2 := .cl) h
              | own b xs =>
                cases b with
                | false => cases s1 <;> cases h
                | true =>
                  cases s1 with
                  | own c ys =>
                    cases c with
                    | true => exact go (s2 := .own true ys) h
                    | false => cases h
                  | _ => cases h
        exact this _ _ _ _ hz
      | ok Γ' =>
        rw [hz] at w
        obtain ⟨hl', ho⟩ := outs_ok hz
        refine w v H01 H1 ?_ ?_
        · refine ⟨o1.sub, by rw [hl', hG, List.length_map], fun i x h => ?_, fun i x h => ?_, fun i b x h => ?_, fun i j b c xs ys a hij h1 h2 => ?_, o1.grow, o1.tabs, o1.past, fun i h => (by
            rcases ho i _ h with ⟨e, _⟩ | ⟨xs, ys, e1, _⟩
            · exact ok.cl i e
            · cases e1)⟩
          · rcases ho i _ h with ⟨e, _⟩ | ⟨xs, ys, e1, _⟩
            · obtain ⟨v, e2, r2⟩ := ok.dat i x e
              exact ⟨v, e2, r2.m e1⟩
            · cases e1
          · rcases ho i _ h with ⟨e, _⟩ | ⟨xs, ys, e1, _⟩
            · obtain ⟨v, e2, r2⟩ := ok.scr i x e
              exact ⟨v, e2, ex_l e1 r2⟩
            · cases e1
          · rcases ho i _ h with ⟨e, n⟩ | ⟨xs, ys, e1, e2, e3⟩
            · exact absurd rfl (n b x)
            · cases e1
              obtain ⟨a, us, q1, q2, q3, q4, q5, q6⟩ := o1.own i _ _ e3
              obtain ⟨b', ys', z1, z2⟩ := of_io (q5 rfl)
              exact ⟨a, us, by simp [z2], q2, q3, q4, q5, q6⟩
          · rcases ho i _ h1 with ⟨e, n⟩ | ⟨xs', ys', e1, e2, e3⟩
            · exact absurd rfl (n b xs)
            · rcases ho j _ h2 with ⟨e, n⟩ | ⟨xs'', ys'', e1', e2', e3'⟩
              · exact absurd rfl (n c ys)
              · exact ok.apart i j _ _ _ _ a hij e2 e2'
        · cases rv with
          | d r => exact .d r
          | f h1 h2 h3 h4 => exact .f h1 h2 h3 h4
    intro σ1 H01 H1 o1 e1
    cases fl with
    | nx => exact fin (r := .d .none) (v := .non) w o1 e1 (.d .non)
    | rt r => exact fun v rv => fin w o1 e1 rv
    | bk => exact w.elim
    | ct => exact w.elim
/-- THE RULE for a def -/
theorem fd_of {x qual : Str} {st : Stmt} {f : Addr} {fd : FuncData} {N ps : List Str} {k : Nat} {body : Ga → Res (Ga × Fl)} (F : Fun K x qual st f fd) (S : FnScope N ps (defScope st))
    (hbody : ∀ (cdv : Value) (A : Around) (outer : List Env) (s : Shared) (H : Hp) (E : XK), Room k (A.deeper (envOfC qual (defScope st) s.heap.objs.size f cdv)) → A.guards = some [] →
      JSs (cxOf (L2.CX P w) P w K mg base N qual (defScope st) f cdv A outer s H E) E (defBody st) body) : FD P w K mg base (k + 1) f fd ps (defS ps.length (N.length - ps.length) body) :=
  ⟨fnG_of F S (fun vs H Q E h => h.1) fun cdv A outer s H vs Q E hr hq h => body_ok1 S cdv A outer s H vs Q E (hbody cdv A outer s H E hr hq) h, fun Γ Γ' r h => defS_shape Γ Γ' r h⟩
end
end Mi
namespace Mi
open PySem PySem.Spec PyProof.Rows L2 Evl
variable [Tbl]

section
variable {X : Cx} {E : XK} {e a b c d : Expr} {pos pos' apos cpos : Pos} {B : Bg} {σ : L2.St} {Γ : Ga} {H0 H : Hp}
/-! ### lists of the def's own -/
def ownAt (Γ : Ga) (i : Nat) : Option (Bool × List D) := match Γ[i]? with
  | some (.own b xs) => some (b, xs)
  | _ => none
omit [Tbl] in
theorem ownAt_eq {i : Nat} {b : Bool} {xs : List D} (h : ownAt Γ i = some (b, xs)) : Γ[i]? = some (.own b xs) := by
  unfold ownAt at h
  split at h
  · cases h; assumption
  · cases h
def sAppend (i : Nat) (s : Ga → Res (Ga × D)) : Ga → Res (Ga × R) := fun Γ => match ownAt Γ i with
  | some _ => (s Γ).bind fun p => match ownAt p.1 i with
    | some (b, xs) => if xs.length < sizeLine then .ok (p.1.set i (.own b (xs ++ [p.2])), .d .none) else .stuck
    | none => .stuck
  | none => .stuck
theorem own_same {K : PySem.W.Frag} {Γ1 : Ga} {H01 H1 : Hp} {i : Nat} {b b' : Bool} {xs ys : List D} {p : Addr} (e : σ[i]? = some (some (.ref p))) (ok1 : EnvOk K B σ Γ1 H01 H1) (h : Γ1[i]? = some (.own b' ys)) : ∃ vs, H1 p = some (.lst vs) ∧ H01 p = none ∧ RpAll K H01 vs ys := by
  obtain ⟨q, vs, q1, q2, q3, q4, _⟩ := ok1.own i _ _ h
  rw [e] at q1; cases q1
  exact ⟨vs, q3, q2, q4⟩
/-- x.append(e) -/
theorem je_append {i : Nat} {s : Ga → Res (Ga × D)} (hp : PE X a (tVar i)) (h : JD X E e s)
    (hbase : attributeBase a "append" X.env (eval a X.env) = eval a X.env := by rfl)
    (hfew : ((backTo cpos (starEach (e :: []) X.env)).all (fun x => !x.1) && (backToKw cpos (keywordEach [] X.env)).all (fun x => x.1.isSome)
      && decide ((e :: []).length + ([] : List Keyword).length + (if ([] : List Keyword).isEmpty then 0 else 1) < 30)) = true := by rfl)
    (hline : (apos.endLine == cpos.line) = true := by rfl) (hs : starEach (e :: []) X.env = (false, eval e X.env) :: starEach [] X.env := by rfl) (hplain : (backTo cpos (starEach [] X.env)).any (·.1) = false := by rfl) :
    JE X E (.Call (.Attribute a "append" apos) [e] [] cpos) (sAppend i s) := by
  obtain ⟨t, p, ha⟩ := h.ex
  refine ⟨_, pe_bm PySem.F.plainAttrs_list PySem.F.slot_list_append PySem.F.type_list_append mt_append hp (pa_cons p pa_nil hs) hbase hfew hline hs hplain, fun B σ Γ H0 H Q ok w => ?_⟩
  unfold sAppend at w
  split at w
  · rename_i bx hbx
    obtain ⟨b0, xs0⟩ := bx
    obtain ⟨q, us, q1, q2, q3, q4, _⟩ := ok.own i _ _ (ownAt_eq hbx)
    refine ⟨.ref q, q1, .inl ⟨rfl, us, SqL.of q3⟩, ?_⟩
    show t σ H fun y H2 => rAppend (.ref q) [y] H2 Q
    refine d_then ha wok_E ok w fun Γ1 x v H01 H1 w1 ok1 g1 l1 r1 => ?_
    split at w1
    · rename_i b xs hx
      split at w1
      · rename_i hz
        have hx := ownAt_eq hx
        obtain ⟨vs, h1, h2, h3⟩ := own_same (xs := xs0) (b := b0) q1 ok1 hx
        refine ⟨q, vs, v, rfl, rfl, h1, by rw [h3.len]; exact hz, ?_⟩
        exact w1 .non H01 _ (ok1.setOwn hx q1 (h3.app (.one r1))) (Grow.own hx q1 ⟨_, h1⟩) (Less.setOwn hx) (.d .non)
      · exact w1.elim
    · exact w1.elim
  · exact w.elim
/-- x.pop() -/
def sPop (i : Nat) : Ga → Res (Ga × D) := fun Γ => match ownAt Γ i with
  | some (b, xs) => (match xs.getLast? with | some x => .ok (Γ.set i (.own b xs.dropLast), x) | none => .stuck)
  | none => .stuck
theorem jd_pop {i : Nat} (hp : PE X a (tVar i)) (hbase : attributeBase a "pop" X.env (eval a X.env) = eval a X.env := by rfl) (hline : (apos.endLine == cpos.line) = true := by rfl) :
    JD X E (.Call (.Attribute a "pop" apos) [] [] cpos) (sPop i) := by
  refine ⟨_, pe_bm0 PySem.F.plainAttrs_list PySem.F.slot_list_pop PySem.F.type_list_pop mt_pop hp hbase hline, fun B σ Γ H0 H Q ok w => ?_⟩
  unfold sPop at w
  split at w
  · rename_i b xs hx
    have hx := ownAt_eq hx
    split at w
    · rename_i x hl
      obtain ⟨q, us, q1, q2, q3, q4, _⟩ := ok.own i _ _ hx
      rw [List.getLast?_eq_getElem?] at hl
      obtain ⟨v, e1, r⟩ := q4.get hl
      refine ⟨.ref q, q1, .inl ⟨rfl, us, SqL.of q3⟩, q, us, v, rfl, rfl, q3, by rw [q4.len]; exact e1, ?_⟩
      exact w v H0 _ (ok.setOwn hx q1 q4.dropLast) (Grow.own hx q1 ⟨_, q3⟩) (Less.setOwn hx) r
    · exact w.elim
  · exact w.elim
/-- x.pop(e) -/
noncomputable def sPopAt (i : Nat) (s : Ga → Res (Ga × D)) : Ga → Res (Ga × D) := fun Γ => match ownAt Γ i with
  | some _ => (s Γ).bind fun p => match ownAt p.1 i, p.2 with
    | some (b, xs), .int k => if okB (-(2 ^ 63) ≤ k ∧ k < 2 ^ 63) = true then (match ixN xs.length k with
      | some j => (match xs[j]? with | some x => .ok (p.1.set i (.own b (xs.eraseIdx j)), x) | none => .stuck)
      | none => .stuck) else .stuck
    | _, _ => .stuck
  | none => .stuck
theorem jd_popAt {i : Nat} {s : Ga → Res (Ga × D)} (hp : PE X a (tVar i)) (h : JD X E e s)
    (hbase : attributeBase a "pop" X.env (eval a X.env) = eval a X.env := by rfl)
    (hfew : ((backTo cpos (starEach (e :: []) X.env)).all (fun x => !x.1) && (backToKw cpos (keywordEach [] X.env)).all (fun x => x.1.isSome)
      && decide ((e :: []).length + ([] : List Keyword).length + (if ([] : List Keyword).isEmpty then 0 else 1) < 30)) = true := by rfl)
    (hline : (apos.endLine == cpos.line) = true := by rfl) (hs : starEach (e :: []) X.env = (false, eval e X.env) :: starEach [] X.env := by rfl) (hplain : (backTo cpos (starEach [] X.env)).any (·.1) = false := by rfl) :
    JD X E (.Call (.Attribute a "pop" apos) [e] [] cpos) (sPopAt i s) := by
  obtain ⟨t, p, ha⟩ := h.ex
  refine ⟨_, pe_bm PySem.F.plainAttrs_list PySem.F.slot_list_pop PySem.F.type_list_pop mt_popAt hp (pa_cons p pa_nil hs) hbase hfew hline hs hplain, fun B σ Γ H0 H Q ok w => ?_⟩
  unfold sPopAt at w
  split at w
  · rename_i bx hbx
    obtain ⟨b0, xs0⟩ := bx
    obtain ⟨q, us, q1, q2, q3, q4, _⟩ := ok.own i _ _ (ownAt_eq hbx)
    refine ⟨.ref q, q1, .inl ⟨rfl, us, SqL.of q3⟩, ?_⟩
    show t σ H fun y H2 => rPopAt (.ref q) [y] H2 Q
    refine d_then ha wok_D ok w fun Γ1 x v H01 H1 w1 ok1 g1 l1 r1 => ?_
    split at w1
    · rename_i b xs k hx hk
      have hk : x = .int k := hk
      subst hk
      cases r1
      split at w1
      · rename_i hz
        have hz := okB_iff.mp hz
        split at w1
        · rename_i j hj
          split at w1
          · rename_i y hy
            have hx := ownAt_eq hx
            obtain ⟨vs, h1, h2, h3⟩ := own_same (xs := xs0) (b := b0) q1 ok1 hx
            obtain ⟨yv, e1, ry⟩ := h3.get hy
            have hj' : ixN vs.length k = some j := by rw [h3.len]; exact hj
            refine ⟨q, vs, k, j, yv, rfl, rfl, h1, hz.1, hz.2, (ixN_seq hj').1, e1, ?_⟩
            exact w1 yv H01 _ (ok1.setOwn hx q1 (h3.eraseIdx j)) (Grow.own hx q1 ⟨_, h1⟩) (Less.setOwn hx) ry
          · exact w1.elim
        · exact w1.elim
      · exact w1.elim
    · exact w1.elim
  · exact w.elim
/-- x[k] = v -/
def sPut (i : Nat) (k v : Ga → Res (Ga × D)) : Ga → Res (Ga × Fl) := fun Γ => (v Γ).bind fun p => match ownAt p.1 i with
  | some _ => (k p.1).bind fun q => match ownAt q.1 i, q.2 with
    | some (b, xs), .int n => (match ixN xs.length n with | some j => .ok (q.1.set i (.own b (xs.set j p.2)), .nx) | none => .stuck)
    | _, _ => .stuck
  | none => .stuck
theorem js_put {i : Nat} {sk sv : Ga → Res (Ga × D)} {tpos : Pos} (hp : PE X a (tVar i)) (hk : JD X E b sk) (hv : JD X E e sv)
    (ha : ∀ v, assign (.Subscript a b tpos) X.env v = (do
      let ov ← holding [v] (eval a X.env)
      let iv ← holding [v, ov] (eval b X.env)
      standAt tpos
      holding [v, ov, iv] (setItem ov iv v)
      release [v, ov, iv] []) := by intro _; rfl)
    (hs : swapsWithSole [.Subscript a b tpos] e pos.line X.env = pure false := by rfl) (hw : swappedStores [.Subscript a b tpos] e X.env = pure none := by rfl)
    (h1 : (assignEach [.Subscript a b tpos] X.env).map (·.2) = [assign (.Subscript a b tpos) X.env] := by rfl) : JS X E (.Assign [.Subscript a b tpos] e pos) (sPut i sk sv) := by
  obtain ⟨t, p, hke⟩ := hk.ex
  obtain ⟨u, q, hve⟩ := hv.ex
  refine ⟨_, ps_asg q (pg_sub hp p set_list ha) hs hw h1, fun B σ Γ H0 H Dn ok w => ?_⟩
  unfold sPut at w
  show u σ H fun x H1 => ∃ o, σ[i]? = some (some o) ∧ t σ H1 fun n H2 => rSetL o n x H2 fun H3 => Dn.nx σ H3
  refine d_then hve wok_S ok w fun Γ1 x v H01 H1 w1 ok1 g1 l1 r1 => ?_
  split at w1
  · rename_i bx hbx
    obtain ⟨b0, xs0⟩ := bx
    obtain ⟨q, us, q1, q2, q3, q4, _⟩ := ok1.own i _ _ (ownAt_eq hbx)
    refine ⟨.ref q, q1, d_then hke wok_S ok1 w1 fun Γ2 n nv H02 H2 w2 ok2 g2 l2 r2 => ?_⟩
    split at w2
    · rename_i b xs k hx hk
      have hk : n = .int k := hk
      subst hk
      cases r2
      split at w2
      · rename_i j hj
        have hx := ownAt_eq hx
        obtain ⟨vs, h1, h2, h3⟩ := own_same (xs := xs0) (b := b0) q1 ok2 hx
        refine ⟨q, vs, k, j, rfl, rfl, h1, by rw [h3.len]; exact hj, ?_⟩
        exact w2 σ H02 _ (ok2.setOwn hx q1 (h3.set j (r1.m g2.ex0))) (Ex.refl _)
      · exact w2.elim
    · exact w2.elim
  · exact w1.elim
/-- x += e, ints -/
def sAug (g : Int → Int → Int) (i : Nat) (s : Ga → Res (Ga × D)) : Ga → Res (Ga × Fl) := fun Γ => match Γ[i]? with
  | some (.d (.int m)) => (s Γ).bind fun p => match p.2 with | .int n => .ok (p.1.set i (.d (.int (g m n))), .nx) | _ => .stuck
  | _ => .stuck
theorem js_aug {i : Nat} {x : Str} {op : Operator} {g : Int → Int → Int} {s : Ga → Res (Ga × D)} (ho : ∀ {X : Cx}, PIp X op (ipI g)) (hN : X.N.Nodup) (hi : X.N[i]? = some x) (hx : Loc X.env.scope x) (he : JD X E e s)
    (hf : X.fn x = true ∨ X.env.scope.names.lookup x = some .local := by first | exact .inl rfl | exact .inr rfl | assumption) : JS X E (.AugAssign (.Name x pos') op e pos) (sAug g i s) := by
  obtain ⟨t, p, ha⟩ := he.ex
  refine ⟨_, ps_aug hN hi hx p ho hf, fun B σ Γ H0 H Dn ok w => ?_⟩
  unfold sAug at w
  split at w
  · rename_i m hm
    obtain ⟨v, e1, r⟩ := ok.dat i _ hm
    cases r
    refine ⟨.int m, e1, d_then ha wok_S ok w fun Γ1 x v H01 H1 w1 ok1 g1 l1 r1 => ?_⟩
    split at w1
    · rename_i n hn
      have hn : x = .int n := hn
      subst hn
      cases r1
      exact ⟨m, n, rfl, rfl, w1 _ H01 H1 (ok1.setD i (.int _)) (Ex.refl _)⟩
    · exact w1.elim
  · exact w.elim
/-- x += [..], x a list of the def's own -/
def sExt (i : Nat) (s : Ga → Res (Ga × D)) : Ga → Res (Ga × Fl) := fun Γ => match ownAt Γ i with
  | some _ => (s Γ).bind fun p => match ownAt p.1 i, p.2 with
    | some (b, xs), .list ys => if xs.length + ys.length ≤ sizeLine then .ok (p.1.set i (.own b (xs ++ ys)), .nx) else .stuck
    | _, _ => .stuck
  | none => .stuck
theorem js_ext {i : Nat} {x : Str} {s : Ga → Res (Ga × D)} (hN : X.N.Nodup) (hi : X.N[i]? = some x) (hx : Loc X.env.scope x) (he : JD X E e s)
    (hf : X.fn x = true ∨ X.env.scope.names.lookup x = some .local := by first | exact .inl rfl | exact .inr rfl | assumption) : JS X E (.AugAssign (.Name x pos') .Add e pos) (sExt i s) := by
  obtain ⟨t, p, ha⟩ := he.ex
  refine ⟨_, ps_aug hN hi hx p (ti := rExt2) (fun pins s σ H x y v u Q I r1 r2 h => iop_ext pins s σ H x y v u Q I r1 r2 h) hf, fun B σ Γ H0 H Dn ok w => ?_⟩
  unfold sExt at w
  split at w
  · rename_i bx hbx
    obtain ⟨b0, xs0⟩ := bx
    obtain ⟨q, us, q1, q2, q3, q4, _⟩ := ok.own i _ _ (ownAt_eq hbx)
    refine ⟨.ref q, q1, d_then ha wok_S ok w fun Γ1 x v H01 H1 w1 ok1 g1 l1 r1 => ?_⟩
    split at w1
    · rename_i b xs ys hx hy
      have hy : x = .list ys := hy
      subst hy
      split at w1
      · rename_i hz
        have hx := ownAt_eq hx
        obtain ⟨vs, h1, h2, h3⟩ := own_same (xs := xs0) (b := b0) q1 ok1 hx
        cases r1 with
        | lst r1 r2 =>
          refine ⟨q, _, vs, _, rfl, rfl, h1, ok1.sub _ _ r1, by rw [h3.len, r2.len]; exact hz, ?_⟩
          have o2 := ok1.setOwn hx q1 (h3.app r2)
          have e : σ.set i (some (.ref q)) = σ := by
            apply List.ext_getElem?
            intro k
            by_cases hk : k = i
            · subst hk; rw [List.getElem?_set_self (List.getElem?_eq_some_iff.mp q1).1, q1]
            · rw [List.getElem?_set_ne (Ne.symm hk)]
          show Dn.nx (σ.set i (some (.ref q))) _
          rw [e]
          exact w1 σ H01 _ o2 (Ex.refl _)
      · exact w1.elim
    · exact w1.elim
  · exact w.elim

/-! ### a, b = x, y -/
inductive RVs (K : PySem.W.Frag) (H0 H H0' H' : Hp) : List R → List V → Prop
  | nil : RVs K H0 H H0' H' [] []
  | cons {r : R} {v : V} {rs : List R} {vs : List V} : RV K H0 H H0' H' r v → RVs K H0 H H0' H' rs vs → (∀ xs a, r = .f xs → v = .ref a → ∀ (j : Nat) ys, rs[j]? = some (.f ys) → vs[j]? ≠ some (.ref a)) → RVs K H0 H H0' H' (r :: rs) (v :: vs)
def RW (X : Cx) (B : Bg) (E : XK) (σ : L2.St) (Γ : Ga) (H0 H : Hp) (r : Res (Ga × List R)) (Q : List V → Hp → Prop) : Prop := match r with
  | .ok (Γ', xs) => ∀ vs H0' H', EnvOk X.K B σ Γ' H0' H' → Grow (OwnOf σ Γ) H0 H H0' H' → Less Γ Γ' → RVs X.K H0 H H0' H' xs vs → Q vs H'
  | .exc c x => XW X B E c x
  | .stuck => False
structure JR (X : Cx) (E : XK) (es : List Expr) (s : Ga → Res (Ga × List R)) : Prop where
  ex : ∃ t, PA X es t ∧ ∀ B σ Γ H0 H Q, EnvOk X.K B σ Γ H0 H → RW X B E σ Γ H0 H (s Γ) Q → t σ H Q
def sRNil : Ga → Res (Ga × List R) := fun Γ => .ok (Γ, [])
def sRCons (s : Ga → Res (Ga × R)) (r : Ga → Res (Ga × List R)) : Ga → Res (Ga × List R) := fun Γ => (s Γ).bind fun p => (r p.1).bind fun q => .ok (q.1, p.2 :: q.2)
theorem RVs.back {K : PySem.W.Frag} {H0 H H01 H1 H02 H2 : Hp} {r : List R} {v : List V} {O : Addr → Prop} (g : Grow O H0 H H01 H1) (h : RVs K H01 H1 H02 H2 r v) : RVs K H0 H H02 H2 r v := by
  induction h with
  | nil => exact .nil
  | cons h1 _ h3 ih => exact .cons (h1.back g) ih h3
theorem wok_R {Q : List V → Hp → Prop} : WOk X B E σ fun Γ H0 H r => RW X B E σ Γ H0 H r Q where
  exc := fun _ _ _ _ _ h => h
  stuck := fun _ _ _ h => h
  shift := fun Γ H0 H Γ1 H01 H1 r ok g l w => by
    cases r with
    | stuck => exact w
    | exc c x => exact w
    | ok p => exact fun v H0' H' o' g' l' r' => w v H0' H' o' (shift_g g l g') (l.trans l') (r'.back g)
theorem r_then {β : Type} {W : Ga → Hp → Hp → Res β → Prop} {t : TA} {s : Ga → Res (Ga × List R)} {f : Ga × List R → Res β} {Q : List V → Hp → Prop} (ha : ∀ B σ Γ H0 H Q, EnvOk X.K B σ Γ H0 H → RW X B E σ Γ H0 H (s Γ) Q → t σ H Q) (wo : WOk X B E σ W) (ok : EnvOk X.K B σ Γ H0 H) (w : W Γ H0 H ((s Γ).bind f))
    (k : ∀ Γ1 x v H01 H1, W Γ1 H01 H1 (f (Γ1, x)) → EnvOk X.K B σ Γ1 H01 H1 → Grow (OwnOf σ Γ) H0 H H01 H1 → Less Γ Γ1 → RVs X.K H0 H H01 H1 x v → Q v H1) : t σ H Q := by
  refine ha B σ Γ H0 H Q ok ?_
  cases hs : s Γ with
  | stuck => rw [hs] at w; exact (wo.stuck _ _ _ w).elim
  | exc c x => rw [hs] at w; exact wo.exc _ _ _ _ _ w
  | ok p =>
    rw [hs] at w
    exact fun v H01 H1 ok1 g l r => k _ _ v H01 H1 (wo.shift _ _ _ _ _ _ _ ok g l w) ok1 g l r
omit [Tbl] in
theorem RVs.fresh {K : PySem.W.Frag} {H0 H H0' H' : Hp} {rs : List R} {vs : List V} (h : RVs K H0 H H0' H' rs vs) : ∀ (j : Nat) ys a, rs[j]? = some (.f ys) → vs[j]? = some (.ref a) → H a = none := by
  induction h with
  | nil => intro j ys a h; simp at h
  | cons h1 _ _ ih =>
    intro j ys a e1 e2
    cases j with
    | zero =>
      simp at e1 e2; subst e1 e2
      cases h1 with
      | f n _ _ _ => exact n
    | succ j => exact ih j ys a (by simpa using e1) (by simpa using e2)
theorem jr_nil : JR X E [] sRNil := ⟨_, pa_nil, fun B σ Γ H0 H Q ok w => w [] H0 H ok (Grow.refl _ _ _) (Less.refl _) .nil⟩
theorem jr_cons {es : List Expr} {s : Ga → Res (Ga × R)} {r : Ga → Res (Ga × List R)} (h : JE X E e s) (hr : JR X E es r) (hs : starEach (e :: es) X.env = (false, eval e X.env) :: starEach es X.env := by rfl) : JR X E (e :: es) (sRCons s r) := by
  obtain ⟨t, p, ha⟩ := h.ex
  obtain ⟨u, q, hb⟩ := hr.ex
  refine ⟨_, pa_cons p q hs, fun B σ Γ H0 H Q ok w => ?_⟩
  show t σ H fun x H1 => u σ H1 fun xs H2 => Q (x :: xs) H2
  unfold sRCons at w
  cases hsG : s Γ with
  | stuck => rw [hsG] at w; exact w.elim
  | exc c x => rw [hsG] at w; exact ha B σ Γ H0 H _ ok (by rw [hsG]; exact w)
  | ok pr =>
    obtain ⟨Γ1, x⟩ := pr
    rw [hsG] at w
    refine ha B σ Γ H0 H _ ok (by
      rw [hsG]
      intro v H01 H1 ok1 g1 l1 r1
      have w1 : RW X B E σ Γ1 H01 H1 ((r Γ1).bind fun q => .ok (q.1, x :: q.2)) fun vs H' => ∃ H0' Γ', EnvOk X.K B σ Γ' H0' H' → True := by
        cases hr : r Γ1 with
        | stuck => simp only [hr, bind_ok, bind_stuck] at w; exact w.elim
        | exc c y => simp only [hr, bind_ok, bind_exc] at w; exact w
        | ok _ => exact fun _ _ _ _ _ _ _ => ⟨H01, Γ1, fun _ => trivial⟩
      -- the tail
      cases hrr : r Γ1 with
      | stuck => simp only [hrr, bind_ok, bind_stuck] at w; exact w.elim
      | exc c y =>
        simp only [hrr, bind_ok, bind_exc] at w
        exact hb B σ Γ1 H01 H1 _ ok1 (by rw [hrr]; exact w)
      | ok pq =>
        obtain ⟨Γ2, xs⟩ := pq
        simp only [hrr, bind_ok] at w
        refine hb B σ Γ1 H01 H1 _ ok1 (by
          rw [hrr]
          intro vs H02 H2 ok2 g2 l2 r2
          refine w (v :: vs) H02 H2 ok2 (shift_g g1 l1 g2) (l1.trans l2) ?_
          have hr2 := r2.back g1
          cases r1 with
          | d r1 => exact .cons (.d (r1.m g2.ex0)) hr2 fun _ _ z => nomatch z
          | @f ys a us n n0 e3 r3 =>
            have no : ¬ OwnOf σ Γ1 a := fun z => (ok.ownLive (l1.own z)).1 n
            refine .cons (.f n (by rw [g2.old a (by rw [e3]; simp) no]; exact n0) (g2.keep _ _ e3 no nofun) (r3.m g2.ex0)) hr2 fun zs a' e4 e5 j ws e6 e7 => ?_
            cases e5
            have := r2.fresh j ws a e6 e7
            rw [e3] at this; cases this))
def sPar2 (i j : Nat) (s : Ga → Res (Ga × List R)) : Ga → Res (Ga × Fl) := fun Γ => (s Γ).bind fun p => match p.2 with
  | [x, y] => .ok ((p.1.set i (slotOf x)).set j (slotOf y), .nx)
  | _ => .stuck
def sPar3 (i j l : Nat) (s : Ga → Res (Ga × List R)) : Ga → Res (Ga × Fl) := fun Γ => (s Γ).bind fun p => match p.2 with
  | [x, y, z] => .ok (((p.1.set i (slotOf x)).set j (slotOf y)).set l (slotOf z), .nx)
  | _ => .stuck
theorem setR {K : PySem.W.Frag} {x : R} {v : V} {H0' H' : Hp} (i : Nat) (ok : EnvOk K B σ Γ H0' H') (r : RVB K B H0' H' x v) (no : ∀ xs a, x = .f xs → v = .ref a → ¬ OwnOf σ Γ a) : EnvOk K B (σ.set i (some v)) (Γ.set i (slotOf x)) H0' H' := by
  cases r with
  | d r => exact ok.setD i r
  | f h1 h2 h3 h4 => exact ok.setF i h1 h2 h3 h4 (no _ _ rfl rfl)
theorem RV.toB {K : PySem.W.Frag} {x : R} {v : V} {H0 H H0' H' : Hp} (ok : EnvOk K B σ Γ H0 H) (r : RV K H0 H H0' H' x v) : RVB K B H0' H' x v := by
  cases r with
  | d r => exact .d r
  | f h1 h2 h3 h4 => exact .f (RV.he ok h1) h2 h3 h4
omit [Tbl] in
theorem own_set {x : R} {v : V} {i : Nat} {p : Addr} (hl : Γ.length = σ.length) (h : OwnOf (σ.set i (some v)) (Γ.set i (slotOf x)) p) : OwnOf σ Γ p ∨ ∃ xs, x = .f xs ∧ v = .ref p := by
  obtain ⟨j, c, ys, h1, h2⟩ := h
  rcases set_back h1 with ⟨z1, z, hi⟩ | ⟨z1, z⟩
  · subst z1
    rw [set_at (by rw [← hl]; exact hi)] at h2
    cases x with
    | d _ => cases z
    | f xs => cases h2; exact .inr ⟨xs, rfl, rfl⟩
  · rw [List.getElem?_set_ne (Ne.symm z1)] at h2; exact .inl ⟨j, c, ys, z, h2⟩
theorem js_par2 {i j : Nat} {x y : Str} {s : Ga → Res (Ga × List R)} {px py pt : Pos} {kt k2 pt2} (hc : X.calm = true) (hN : X.N.Nodup) (hi : X.N[i]? = some x) (hj : X.N[j]? = some y) (hij : i ≠ j)
    (hx : X.env.scope.names.lookup x = some .local) (hy : X.env.scope.names.lookup y = some .local) (ha : JR X E [a, b] s)
    (hw : swappedStores [.Tuple [.Name x px, .Name y py] kt pt] (.Tuple [a, b] k2 pt2) X.env = pure (some [x, y]))
    (hs : swapsWithSole [.Tuple [.Name x px, .Name y py] kt pt] (.Tuple [a, b] k2 pt2) pos.line X.env = pure false := by rfl) :
    JS X E (.Assign [.Tuple [.Name x px, .Name y py] kt pt] (.Tuple [a, b] k2 pt2) pos) (sPar2 i j s) := by
  obtain ⟨t, p, he⟩ := ha.ex
  refine ⟨_, ps_par hc hN hi hj hij hx hy p hw hs, fun B σ Γ H0 H Dn ok w => ?_⟩
  show t σ H fun vs H1 => ∃ v w, vs = [v, w] ∧ Dn.nx ((σ.set i (some v)).set j (some w)) H1
  refine r_then he wok_S ok w fun Γ1 rs vs H01 H1 w1 ok1 g1 l1 r1 => ?_
  split at w1
  · rename_i x y hxy
    have hxy : rs = [x, y] := hxy
    subst hxy
    cases r1 with
    | @cons _ v _ vs r1 r2 d1 =>
      cases r2 with
      | @cons _ u _ us r2 r3 d2 =>
        cases r3
        refine ⟨v, u, rfl, w1 _ H01 H1 ?_ (Ex.refl _)⟩
        have o1 := setR i ok1 (r1.toB ok) fun xs a e1 e2 z => by
          subst e1 e2
          cases r1 with
          | f n _ _ _ => exact (ok.ownLive (l1.own z)).1 n
        refine setR j o1 (r2.toB ok) fun xs a e1 e2 z => ?_
        subst e1 e2
        rcases own_set ok1.len z with z | ⟨ys, z1, z2⟩
        · cases r2 with
          | f n _ _ _ => exact (ok.ownLive (l1.own z)).1 n
        · exact d1 ys a z1 z2 0 xs rfl rfl
  · exact w1.elim
theorem js_par3 {i j l : Nat} {x y z : Str} {s : Ga → Res (Ga × List R)} {px py pz pt : Pos} {kt k2 pt2} (hc : X.calm = true) (hN : X.N.Nodup) (hi : X.N[i]? = some x) (hj : X.N[j]? = some y) (hl : X.N[l]? = some z) (hij : i ≠ j) (hil : i ≠ l) (hjl : j ≠ l)
    (hx : X.env.scope.names.lookup x = some .local) (hy : X.env.scope.names.lookup y = some .local) (hz : X.env.scope.names.lookup z = some .local) (ha : JR X E [a, b, c] s)
    (hw : swappedStores [.Tuple [.Name x px, .Name y py, .Name z pz] kt pt] (.Tuple [a, b, c] k2 pt2) X.env = pure (some [x, y, z]))
    (hs : swapsWithSole [.Tuple [.Name x px, .Name y py, .Name z pz] kt pt] (.Tuple [a, b, c] k2 pt2) pos.line X.env = pure false := by rfl) :
    JS X E (.Assign [.Tuple [.Name x px, .Name y py, .Name z pz] kt pt] (.Tuple [a, b, c] k2 pt2) pos) (sPar3 i j l s) := by
  obtain ⟨t, p, he⟩ := ha.ex
  refine ⟨_, ps_par3 hc hN hi hj hl hij hil hjl hx hy hz p hw hs, fun B σ Γ H0 H Dn ok w => ?_⟩
  show t σ H fun vs H1 => ∃ u v w, vs = [u, v, w] ∧ Dn.nx (((σ.set i (some u)).set j (some v)).set l (some w)) H1
  refine r_then he wok_S ok w fun Γ1 rs vs H01 H1 w1 ok1 g1 l1 r1 => ?_
  split at w1
  · rename_i x y z hxy
    have hxy : rs = [x, y, z] := hxy
    subst hxy
    cases r1 with
    | @cons _ v _ vs r1 r2 d1 =>
      cases r2 with
      | @cons _ u _ us r2 r3 d2 =>
        cases r3 with
        | @cons _ t' _ ts r3 r4 d3 =>
          cases r4
          refine ⟨v, u, t', rfl, w1 _ H01 H1 ?_ (Ex.refl _)⟩
          have o1 := setR i ok1 (r1.toB ok) fun xs a e1 e2 z => by
            subst e1 e2
            cases r1 with
            | f n _ _ _ => exact (ok.ownLive (l1.own z)).1 n
          have o2 := setR j o1 (r2.toB ok) fun xs a e1 e2 z => by
            subst e1 e2
            rcases own_set ok1.len z with z | ⟨ys, z1, z2⟩
            · cases r2 with
              | f n _ _ _ => exact (ok.ownLive (l1.own z)).1 n
            · exact d1 ys a z1 z2 0 xs rfl rfl
          refine setR l o2 (r3.toB ok) fun xs a e1 e2 z => ?_
          subst e1 e2
          rcases own_set o1.len z with z | ⟨ys, z1, z2⟩
          · rcases own_set ok1.len z with z | ⟨ys, z1, z2⟩
            · cases r3 with
              | f n _ _ _ => exact (ok.ownLive (l1.own z)).1 n
            · exact d1 ys a z1 z2 1 xs rfl rfl
          · exact d2 ys a z1 z2 0 xs rfl rfl
  · exact w1.elim
end
end Mi
namespace Mi
open PySem PySem.Spec PyProof.Rows L2 Evl
variable [Tbl]

/-! ### a zip that may be strict -/
abbrev ZipB (h : Heap) (b : Bool) (z TI TO : Addr) (f0 : Value) : Prop :=
  h.get? z = some { cls := .type "zip", dict := none, data := .fields #[f0, .bool false, .bool b, .ref TI, .ref TO], slots := #[] }
abbrev gzB2 (b : Bool) (h : Heap) (o1 o2 : Obj) : Heap := (gzO2 h o1 o2).push { cls := .type "zip", data := .fields #[.none, .bool false, .bool b, .ref ((h.push o1).push o2).objs.size, .ref (gzT2 h o1 o2).objs.size] }
omit [Tbl] in
theorem meets_zipB {v1 v2 : Value} {o1 o2 : Obj} {H1 H2 : Heap → Prop} (b : Bool) (B1 : Begins v1 o1 H1) (B2 : Begins v2 o2 H2) :
    Meets (Builtin.«zip.__new__» ⟨[.type "zip", v1, v2], [(Str.ofString "strict", .bool b)]⟩) (fun _ R s => (H1 s.heap ∧ H2 s.heap) ∧
      R (.ok (.ret (.ref (gzO2 s.heap o1 o2).objs.size))) { s with heap := gzB2 b s.heap o1 o2 }) :=
  .of_wp fun prog w A R s h => by
    obtain ⟨hp, g, d, tk, os⟩ := s
    obtain ⟨⟨h1, h2⟩, h⟩ := h
    have hsub := sub_zip
    have n1 : (Str.ofString "strict" != ("strict" : Str)) = false := by decide +kernel
    have n2 : (Str.ofString "strict" == ("strict" : Str)) = true := by decide +kernel
    have w1 : ∀ {A' : Around} {E : Value → Shared → Prop} {Q : Value → Shared → Prop}, Q (.ref hp.objs.size) ⟨hp.push o1, g, d, tk, os⟩ → wpAny (model prog w) A' (pyIter v1) Q E ⟨hp, g, d, tk, os⟩ :=
      fun q => B1.iter prog w _ _ ⟨hp, g, d, tk, os⟩ _ h1 q
    have w2 : ∀ {A' : Around} {E : Value → Shared → Prop} {Q : Value → Shared → Prop}, Q (.ref (hp.push o1).objs.size) ⟨(hp.push o1).push o2, g, d, tk, os⟩ → wpAny (model prog w) A' (pyIter v2) Q E ⟨hp.push o1, g, d, tk, os⟩ :=
      fun q => B2.iter prog w _ _ ⟨hp.push o1, g, d, tk, os⟩ _ (B2.keeps _ _ h2 fun _ _ e => Heap.get?_push_of_some _ e) q
    cases b
    · wp_walk using w1, w2
      all_goals exact ⟨_, rfl, h⟩
    · wp_walk using w1, w2
      all_goals exact ⟨_, rfl, h⟩
end Mi
namespace Mi
open PySem PySem.Spec PyProof.Rows L2 Evl
variable [Tbl]
section
variable {prog : Program} {w : World} {A : Around} {E : Value → Shared → Prop} {s : Shared}
omit [Tbl] in
theorem orEnd_item {it l : Addr} {i : Nat} {items : Array Value} {x : Value} {Q : Option Value → Shared → Prop} (hit : s.heap.IsListIter it l i) (hl : s.heap.IsList l items) (hx : items[i]? = some x)
    (hQ : ∀ h', h'.IsListIter it l (i + 1) → Heap.SameBut it s.heap h' → Q (some x) { s with heap := h' }) :
    wpAny (model prog w) A (Builtin.SmallTypes.nextOrEnd (.ref it)) Q E s := by
  unfold Builtin.SmallTypes.nextOrEnd
  exact wpAny_bind (wpAny_attempt (wpAny_nextOf_list_item hit hl hx fun h' a b => wpAny_pure (hQ h' a b)))
omit [Tbl] in
theorem orEnd_end {it l : Addr} {i : Nat} {items : Array Value} {Q : Option Value → Shared → Prop} (hh : A.handled = none) (hit : s.heap.IsListIter it l i) (hl : s.heap.IsList l items) (hx : items[i]? = none)
    (hQ : ∀ h', Heap.ExtBut it s.heap h' → Q none { s with heap := h' }) :
    wpAny (model prog w) A (Builtin.SmallTypes.nextOrEnd (.ref it)) Q E s := by
  unfold Builtin.SmallTypes.nextOrEnd
  refine wpAny_bind (wpAny_attempt (wpAny_nextOf_list_end hh hit hl hx fun h' e k he => ?_))
  obtain ⟨o, ho, hc⟩ := he
  exact wpAny_bind (wpAny_isInstance (T := "StopIteration") (b := true) ⟨o, ho, hc⟩ isSubtype_stop (wpAny_pure (hQ _ k)))
variable {z TI TO i1 i2 l1 l2 : Addr} {k : Nat} {xs ys : Array Value} {x y a b : Value}
omit [Tbl] in
theorem strict_item {Q : Value → Shared → Prop} (D : ZipApart z TI TO i1 i2 l1 l2) (hz : ZipB s.heap true z TI TO .none) (hTI : IsPair s.heap TI (.ref i1) (.ref i2)) (hTO : IsPair s.heap TO a b)
    (h1 : s.heap.IsListIter i1 l1 k) (h2 : s.heap.IsListIter i2 l2 k) (hl1 : s.heap.IsList l1 xs) (hl2 : s.heap.IsList l2 ys) (hx : xs[k]? = some x) (hy : ys[k]? = some y)
    (hQ : ∀ h', ZipB h' true z TI TO (rawInt s.heap.objs.size) → IsPair h' TO x y → h'.IsListIter i1 l1 (k + 1) → h'.IsListIter i2 l2 (k + 1) → IsPair h' s.heap.objs.size x y →
      (∀ c o, c ≠ z → c ≠ TO → c ≠ i1 → c ≠ i2 → s.heap.get? c = some o → h'.get? c = some o) → Q (.ref s.heap.objs.size) { s with heap := h' }) :
    wpAny (model prog w) A (Builtin.«zip.__next__» ⟨[.ref z], []⟩) (fun fin s' => ∃ v, fin = .done (.ret v) ∧ Q v s') E s := by
  refine wpAny_bind (wpAny_pure ?_)
  refine wpAny_bind (wpAny_field hz rfl (x := .bool true) rfl ?_)
  refine wpAny_bind (wpAny_field hz rfl (x := .ref TI) rfl ?_)
  refine wpAny_bind (wpAny_seqItems hTI rfl ?_)
  refine wpAny_bind (m := Builtin.SmallTypes.ownedTupleIsFree (.ref z)) ?_
  refine wpAny_bind (wpAny_field hz rfl (x := .none) rfl (wpAny_pure ?_))
  refine wpAny_bind (wpAny_rule ?_)
  refine wpAny_bind (wpAny_field hz rfl (x := .ref TO) rfl ?_)
  refine wpAny_bind (wpAny_setField_rec hz (by simp) fun g0 hz0 s0 => ?_)
  have hz0 : ZipB g0 true z TI TO .ellipsis := hz0
  have hTO0 : IsPair g0 TO a b := s0.extBut _ _ D.TOz hTO
  refine wpAny_bind ?_
  simp only [List.zipIdx_cons, List.zipIdx_nil, List.forIn_cons, List.forIn_nil]
  refine wpAny_bind (wpAny_bind (wpAny_onRaise (orEnd_item (h1.extBut s0.extBut D.i1z) (hl1.extBut s0.extBut D.l1z) hx fun g1 j1 s1 => ?_)))
  have hTO1 : IsPair g1 TO a b := s1.extBut _ _ D.TOi1 hTO0
  refine wpAny_bind (wpAny_seqItems hTO1 rfl (wpAny_bind (wpAny_updateSeq_pair hTO1 fun g2 hTO2 s2 => wpAny_bind (wpAny_letGo (wpAny_pure ?_)))))
  have hTO2 : IsPair g2 TO x b := hTO2
  have t2 : ∀ c o, c ≠ z → c ≠ TO → c ≠ i1 → s.heap.get? c = some o → g2.get? c = some o := fun c o c1 c2 c3 e => s2.extBut _ _ c2 (s1.extBut _ _ c3 (s0.extBut _ _ c1 e))
  refine wpAny_bind (wpAny_bind (wpAny_onRaise (orEnd_item (h2.at fun o e => t2 _ o D.i2z D.TOi2.symm D.i12.symm e) (hl2.at fun o e => t2 _ o D.l2z D.l2TO D.l2i1 e) hy fun g3 j2 s3 => ?_)))
  have hTO3 : IsPair g3 TO x b := s3.extBut _ _ D.TOi2 hTO2
  refine wpAny_bind (wpAny_seqItems hTO3 rfl (wpAny_bind (wpAny_updateSeq_pair hTO3 fun g4 hTO4 s4 => wpAny_bind (wpAny_letGo (wpAny_pure (wpAny_pure ?_))))))
  have hTO4 : IsPair g4 TO x y := hTO4
  have t4 : ∀ c o, c ≠ TO → c ≠ i2 → g2.get? c = some o → g4.get? c = some o := fun c o c1 c2 e => s4.extBut _ _ c1 (s3.extBut _ _ c2 e)
  have hz4 : ZipB g4 true z TI TO .ellipsis := t4 _ _ D.TOz.symm D.i2z.symm (s2.extBut _ _ D.TOz.symm (s1.extBut _ _ D.i1z.symm hz0))
  have n4 : g4.objs.size = s.heap.objs.size := s4.1.trans (s3.1.trans (s2.1.trans (s1.1.trans s0.1)))
  have zl : z < s.heap.objs.size := Heap.lt_size hz
  refine wpAny_bind (wpAny_seqItems hTO4 rfl (wpAny_bind (wpAny_newTuple ?_)))
  refine wpAny_bind (m := Builtin.SmallTypes.ownedTupleHandOut (.ref z) (.ref g4.objs.size)) ?_
  refine wpAny_bind (wpAny_setField_rec (Heap.get?_push_of_some _ hz4) (by simp) fun g5 hz5 s5 => ?_)
  refine wpAny_setField_rec hz5 (by simp) fun g6 hz6 s6 => wpAny_pure ⟨_, rfl, ?_⟩
  have up : ∀ c o, c ≠ z → (g4.push { cls := .type "tuple", data := .seq #[x, y] }).get? c = some o → g6.get? c = some o := fun c o c1 e => s6.extBut _ _ c1 (s5.extBut _ _ c1 e)
  have hT : IsPair g6 g4.objs.size x y := up _ _ (by rw [n4]; exact Nat.ne_of_gt zl) (Heap.get?_push_size _ rfl)
  have hz6 : ZipB g6 true z TI TO (rawInt g4.objs.size) := hz6
  rw [n4] at hT hz6
  show Q (.ref g4.objs.size) _
  rw [n4]
  refine hQ g6 hz6 (up _ _ D.TOz (Heap.get?_push_of_some _ hTO4)) ?_ ?_ hT fun c o c1 c2 c3 c4 e => up _ _ c1 (Heap.get?_push_of_some _ (t4 _ _ c2 c4 (t2 _ _ c1 c2 c3 e)))
  · exact j1.at fun o e => up _ o D.i1z (Heap.get?_push_of_some _ (t4 _ _ D.TOi1.symm D.i12 (s2.extBut _ _ D.TOi1.symm e)))
  · exact j2.at fun o e => up _ o D.i2z (Heap.get?_push_of_some _ (s4.extBut _ _ D.TOi2.symm e))
omit [Tbl] in
theorem strict_end {Q : Fin → Shared → Prop} (hh : A.handled = none) (D : ZipApart z TI TO i1 i2 l1 l2) (hz : ZipB s.heap true z TI TO .none) (hTI : IsPair s.heap TI (.ref i1) (.ref i2)) (hTO : IsPair s.heap TO a b)
    (h1 : s.heap.IsListIter i1 l1 k) (h2 : s.heap.IsListIter i2 l2 k) (hl1 : s.heap.IsList l1 xs) (hl2 : s.heap.IsList l2 ys) (hx : xs[k]? = none) (hy : ys[k]? = none)
    (hE : ∀ h' e, (∀ c o, c ≠ z → c ≠ TO → c ≠ i1 → c ≠ i2 → s.heap.get? c = some o → h'.get? c = some o) → (∃ o, h'.get? e = some o ∧ o.cls = .type "StopIteration") → E (.ref e) { s with heap := h' }) :
    wpAny (model prog w) A (Builtin.«zip.__next__» ⟨[.ref z], []⟩) Q E s := by
  refine wpAny_bind (wpAny_pure ?_)
  refine wpAny_bind (wpAny_field hz rfl (x := .bool true) rfl ?_)
  refine wpAny_bind (wpAny_field hz rfl (x := .ref TI) rfl ?_)
  refine wpAny_bind (wpAny_seqItems hTI rfl ?_)
  refine wpAny_bind (m := Builtin.SmallTypes.ownedTupleIsFree (.ref z)) ?_
  refine wpAny_bind (wpAny_field hz rfl (x := .none) rfl (wpAny_pure ?_))
  refine wpAny_bind (wpAny_rule ?_)
  refine wpAny_bind (wpAny_field hz rfl (x := .ref TO) rfl ?_)
  refine wpAny_bind (wpAny_setField_rec hz (by simp) fun g0 hz0 s0 => ?_)
  have hz0 : ZipB g0 true z TI TO .ellipsis := hz0
  refine wpAny_bind ?_
  simp only [List.zipIdx_cons, List.zipIdx_nil, List.forIn_cons, List.forIn_nil]
  refine wpAny_bind (wpAny_bind (wpAny_onRaise (orEnd_end hh (h1.extBut s0.extBut D.i1z) (hl1.extBut s0.extBut D.l1z) hx fun g1 s1 => ?_)))
  have hz1 : ZipB g1 true z TI TO .ellipsis := s1 _ _ D.i1z.symm hz0
  refine wpAny_bind (wpAny_setField_rec hz1 (by simp) fun g2 hz2 s2 => ?_)
  have t2 : ∀ c o, c ≠ z → c ≠ i1 → s.heap.get? c = some o → g2.get? c = some o := fun c o c1 c3 e => s2.extBut _ _ c1 (s1 _ _ c3 (s0.extBut _ _ c1 e))
  refine wpAny_bind (wpAny_bind ?_)
  simp only [List.drop_succ_cons, List.drop_zero, List.zipIdx_cons, List.zipIdx_nil, List.forIn_cons, List.forIn_nil]
  refine wpAny_bind (wpAny_bind (orEnd_end hh (h2.at fun o e => t2 _ o D.i2z D.i12.symm e) (hl2.at fun o e => t2 _ o D.l2z D.l2i1 e) hy fun g3 s3 => ?_))
  rw [if_neg (show ¬ (Option.isSome (none : Option Value) = true) from Bool.false_ne_true)]
  refine wpAny_pure (wpAny_pure (wpAny_bind (wpAny_rule ?_)))
  refine wpAny_bind (m := newExc (.type "StopIteration") []) (wpAny_bind (wpAny_newTuple (wpAny_bind (wpAny_of_eq (a := Value.none) (by first | rfl | (simp only [firstArgMember]; rfl)) (wpAny_newObj_type ?_ (by size_fits))))))
  simp only [raiseNew]
  refine wpAny_bind (wpAny_handled ?_)
  first | rw [show A.in1.handled = none from hh] | rw [hh]
  exact wpAny_bind (wpAny_pure (wpAny_throw (hE _ _ (fun c o c1 c2 c3 c4 e => Heap.get?_push_of_some _ (Heap.get?_push_of_some _ (s3 _ _ c4 (t2 _ _ c1 c3 e)))) ⟨_, Heap.get?_push_size _ rfl, rfl⟩)))
omit [Tbl] in
theorem strict_next_item {Q : Option Value → Shared → Prop} (D : ZipApart z TI TO i1 i2 l1 l2) (hz : ZipB s.heap true z TI TO .none) (hTI : IsPair s.heap TI (.ref i1) (.ref i2)) (hTO : IsPair s.heap TO a b)
    (h1 : s.heap.IsListIter i1 l1 k) (h2 : s.heap.IsListIter i2 l2 k) (hl1 : s.heap.IsList l1 xs) (hl2 : s.heap.IsList l2 ys) (hx : xs[k]? = some x) (hy : ys[k]? = some y)
    (hQ : ∀ h', ZipB h' true z TI TO (rawInt s.heap.objs.size) → IsPair h' TO x y → h'.IsListIter i1 l1 (k + 1) → h'.IsListIter i2 l2 (k + 1) → IsPair h' s.heap.objs.size x y →
      (∀ c o, c ≠ z → c ≠ TO → c ≠ i1 → c ≠ i2 → s.heap.get? c = some o → h'.get? c = some o) → Q (some (.ref s.heap.objs.size)) { s with heap := h' }) :
    wpAny (model prog w) A (pyNext (.ref z)) Q E s := by
  have hT : s.TypeIs (.ref z) "zip" := ⟨_, hz, rfl⟩
  unfold pyNext
  exact wpAny_bind (wpAny_attempt (wpAny_callSpecial?_slot (name := Str.ofString "__next__") hT F.slot_zip_next (wpAny_call_entry F.slot_zip_next hT F.entry_zip_next
    (strict_item D hz hTI hTO h1 h2 hl1 hl2 hx hy fun h' a1 a2 a3 a4 a5 a6 => wpAny_pure (hQ h' a1 a2 a3 a4 a5 a6)) (F.args_zip_next_1 _))))
omit [Tbl] in
theorem strict_next_end {Q : Option Value → Shared → Prop} (hh : A.handled = none) (D : ZipApart z TI TO i1 i2 l1 l2) (hz : ZipB s.heap true z TI TO .none) (hTI : IsPair s.heap TI (.ref i1) (.ref i2)) (hTO : IsPair s.heap TO a b)
    (h1 : s.heap.IsListIter i1 l1 k) (h2 : s.heap.IsListIter i2 l2 k) (hl1 : s.heap.IsList l1 xs) (hl2 : s.heap.IsList l2 ys) (hx : xs[k]? = none) (hy : ys[k]? = none)
    (hQ : ∀ h', (∀ c o, c ≠ z → c ≠ TO → c ≠ i1 → c ≠ i2 → s.heap.get? c = some o → h'.get? c = some o) → Q none { s with heap := h' }) :
    wpAny (model prog w) A (pyNext (.ref z)) Q E s := by
  have hT : s.TypeIs (.ref z) "zip" := ⟨_, hz, rfl⟩
  unfold pyNext
  refine wpAny_bind (wpAny_attempt (wpAny_callSpecial?_slot (name := Str.ofString "__next__") hT F.slot_zip_next (wpAny_call_entry F.slot_zip_next hT F.entry_zip_next
    (strict_end hh D hz hTI hTO h1 h2 hl1 hl2 hx hy fun h' e hk he => ?_) (F.args_zip_next_1 _))))
  obtain ⟨o, ho, hc⟩ := he
  exact wpAny_bind (wpAny_isInstance (T := "StopIteration") (b := true) ⟨o, ho, hc⟩ isSubtype_stop (wpAny_pure (hQ _ hk)))
omit [Tbl] in
theorem letGo_zipB {elts : List Expr} {n : Nat} {pos : Pos} {T : Addr} {bb : Bool} {Q : Unit → Shared → Prop} (hz : ZipB s.heap bb z TI TO (rawInt T)) (hQ : ∀ h', ZipB h' bb z TI TO .none → Heap.SameBut z s.heap h' → Q () { s with heap := h' }) :
    wpAny (model prog w) A (letOwnedTupleGo (.Tuple elts n pos) (.ref z) (.ref T)) Q E s := by
  refine wpAny_bind (wpAny_load hz ?_)
  show wpAny _ _ (ite (_ = true) _ _) Q E s
  rw [if_pos (by simp)]
  exact wpAny_bind (wpAny_rule (wpAny_setField_rec hz (by simp) fun h' a b => hQ h' a b))
omit [Tbl] in
theorem iter_zipB {bb : Bool} {f0 : Value} {Q : Value → Shared → Prop} (hz : ZipB s.heap bb z TI TO f0) (h : Q (.ref z) s) : wpAny (model prog w) A (pyIter (.ref z)) Q E s := by
  have hT : s.TypeIs (.ref z) "zip" := ⟨_, hz, rfl⟩
  exact wpAny_pyIter_slot hT F.slot_zip_iter (wpAny_call_entry F.slot_zip_iter hT F.entry_zip_iter (wpAny_pure ⟨_, rfl, "zip", _, hT, F.slot_zip_next.lookup, h⟩) (F.args_zip_iter_1 _))
end
/-- two lists of one length, strictly -/
def Itzs (K : PySem.W.Frag) (a b : Addr) : It :=
  ⟨(Itz K a b).go, (Itz K a b).yld, fun i H => ∃ xs ys : List V, SqL K H a xs ∧ SqL K H b ys ∧ xs.length ≤ i ∧ ys.length ≤ i⟩
omit [Tbl] in
theorem turn_zipS {P : Program} {w : World} {K : PySem.W.Frag} {elts : List Expr} {kk : Nat} {tpos : Pos} {a b z TI TO i1 i2 : Addr} (D : ZipApart z TI TO i1 i2 a b) :
    Turn P w K (.Tuple elts kk tpos) (Itzs K a b) [z, TI, TO, i1, i2] z (fun i h => ZipB h true z TI TO .none ∧ IsPair h TI (.ref i1) (.ref i2) ∧ (∃ x y, IsPair h TO x y) ∧ h.IsListIter i1 a i ∧ h.IsListIter i2 b i) where
  mem := by simp
  obj := fun i h st c hc => by
    obtain ⟨hz, hTI, ⟨x, y, hTO⟩, ⟨o1, e1, _, d1⟩, ⟨o2, e2, _, d2⟩⟩ := st
    simp only [List.mem_cons, List.not_mem_nil, or_false] at hc
    rcases hc with rfl | rfl | rfl | rfl | rfl
    · exact ⟨_, hz, nofun⟩
    · exact ⟨_, hTI, nofun⟩
    · exact ⟨_, hTO, nofun⟩
    · exact ⟨o1, e1, fun v q => by rw [d1] at q; cases q⟩
    · exact ⟨o2, e2, fun v q => by rw [d2] at q; cases q⟩
  keep := fun i h h' ⟨hz, hTI, ⟨x, y, hTO⟩, h1, h2⟩ k =>
    ⟨k z (by simp) _ hz, k TI (by simp) _ hTI, ⟨x, y, k TO (by simp) _ hTO⟩, h1.at fun o q => k i1 (by simp) o q, h2.at fun o q => k i2 (by simp) o q⟩
  item := by
    rintro X rfl rfl rfl hc i pins s σ H E I hf ⟨hz, hTI, ⟨x0, y0, hTO⟩, h1, h2⟩ ⟨xs, ys, x, y, qx, qy, hx, hy⟩
    obtain ⟨its, rv, p, _⟩ := I.list qx
    obtain ⟨its2, rv2, p2, _⟩ := I.list qy
    obtain ⟨u, hu, ru⟩ := rv.get hx
    obtain ⟨u2, hu2, ru2⟩ := rv2.get hy
    have out : ∀ {c : Addr}, c ∉ [z, TI, TO, i1, i2] → c ≠ z ∧ c ≠ TO ∧ c ≠ i1 ∧ c ≠ i2 := fun hb => ⟨fun q => hb (by simp [q]), fun q => hb (by simp [q]), fun q => hb (by simp [q]), fun q => hb (by simp [q])⟩
    have zl : z < s.heap.objs.size := Heap.lt_size hz
    refine strict_next_item D hz hTI hTO h1 h2 p.isList p2.isList (x := u) (y := u2) (by simpa using hu) (by simpa using hu2) fun g1 z1 o1 j1 j2 hT k1 => ⟨_, rfl, letGo_zipB (s := { s with heap := g1 }) z1 fun g2 z2 sb => ?_⟩
    have ob : ObjOk X.prog X.w (upd H s.heap.objs.size (.tup [x, y])) g2 s.heap.objs.size (.tup [x, y]) :=
      ⟨by show 2 ≤ sizeLine; decide, [u, u2], .cons ru (.cons ru2 .nil), ⟨_, (sb.2 _ (Nat.ne_of_gt zl)).trans hT, rfl, _, rfl⟩⟩
    have I1 : Inv X pins σ (upd H s.heap.objs.size (.tup [x, y])) { s with heap := g2 } :=
      I.turnedNew (t' := s.toks) (ch := [z, TI, TO, i1, i2]) (fun c o hb q => (sb.2 c (out hb).1).trans (k1 c o (out hb).1 (out hb).2.1 (out hb).2.2.1 (out hb).2.2.2 q)) hf (Nat.le_refl _) ob
    refine ⟨.ref s.heap.objs.size, _, I1, rfl, ⟨_, x, y, rfl, I.hok.fresh (Nat.le_refl _), rfl, fun l hl => by rw [I.list_inj hl qx]; exact hx, fun l hl => by rw [I.list_inj hl qy]; exact hy⟩,
      ⟨z2, (sb.2 _ D.TIz).trans (k1 _ _ D.TIz D.TITO D.TIi1 D.TIi2 hTI), ⟨u, u2, (sb.2 _ D.TOz).trans o1⟩, j1.at fun o q => (sb.2 _ D.i1z).trans q, j2.at fun o q => (sb.2 _ D.i2z).trans q⟩, fun c hcm => ?_⟩
    have lt : c < s.heap.objs.size := by
      obtain ⟨_, e1, _⟩ := h1
      obtain ⟨_, e2, _⟩ := h2
      have hcm' := hcm
      simp only [List.mem_cons, List.not_mem_nil, or_false] at hcm'
      rcases hcm' with rfl | rfl | rfl | rfl | rfl
      · exact zl
      · exact Heap.lt_size hTI
      · exact Heap.lt_size hTO
      · exact Heap.lt_size e1
      · exact Heap.lt_size e2
    rw [upd_ne (Nat.ne_of_lt lt)]
    exact (hf c hcm).1
  done := by
    rintro X rfl rfl rfl hc i pins s σ H E I hf ⟨hz, hTI, ⟨x0, y0, hTO⟩, h1, h2⟩ ⟨xs, ys, qx, qy, e1, e2⟩
    obtain ⟨its, rv, p, _⟩ := I.list qx
    obtain ⟨its2, rv2, p2, _⟩ := I.list qy
    have l1 := rv.length
    have l2 := rv2.length
    have out : ∀ {c : Addr}, c ∉ [z, TI, TO, i1, i2] → c ≠ z ∧ c ≠ TO ∧ c ≠ i1 ∧ c ≠ i2 := fun hb => ⟨fun q => hb (by simp [q]), fun q => hb (by simp [q]), fun q => hb (by simp [q]), fun q => hb (by simp [q])⟩
    exact strict_next_end (I.ok.hd hc) D hz hTI hTO h1 h2 p.isList p2.isList (by simp; omega) (by simp; omega) fun h' hk => ⟨rfl, I.turnedL (t' := s.toks) (ch := [z, TI, TO, i1, i2]) (fun c o hb q => hk c o (out hb).1 (out hb).2.1 (out hb).2.2.1 (out hb).2.2.2 q) hf⟩
  self := fun A i s Q E st h => iter_zipB st.1 h

namespace F
theorem type_zipB (a b c : Value) : checkTypeCall "zip" ⟨[a, b], [(Str.ofString "strict", c)]⟩ = pure () := by kernel_rfl
theorem new_zipB (a b c : Value) : checkBuiltinCall "zip.__new__" ⟨[.type "zip", a, b], [(Str.ofString "strict", c)]⟩ = pure () := by kernel_rfl
theorem init_zipB (o a b c : Value) : argsOk "object.__init__" ⟨[o, a, b], [(Str.ofString "strict", c)]⟩ := by unfold argsOk; kernel_rfl
end F
section
variable {prog : Program} {w : World} {A : Around} {E : Value → Shared → Prop} {s : Shared}
theorem call_zipB {bb : Bool} {v1 v2 : Value} {o1 o2 : Obj} {H1 H2 : Heap → Prop} {Q : Value → Shared → Prop} (B1 : Begins v1 o1 H1) (B2 : Begins v2 o2 H2) (h1 : H1 s.heap) (h2 : H2 s.heap)
    (h : ∀ h', ZipB h' bb (s.heap.objs.size + 4) (s.heap.objs.size + 2) (s.heap.objs.size + 3) .none → IsPair h' (s.heap.objs.size + 2) (.ref s.heap.objs.size) (.ref (s.heap.objs.size + 1)) →
      IsPair h' (s.heap.objs.size + 3) .none .none → h'.get? s.heap.objs.size = some o1 → h'.get? (s.heap.objs.size + 1) = some o2 →
      (∀ c o, s.heap.get? c = some o → h'.get? c = some o) → Q (.ref (s.heap.objs.size + 4)) { s with heap := h' }) :
    wpAny (model prog w) A (call (.type "zip") [v1, v2] [(Str.ofString "strict", .bool bb)]) Q E s := by
  refine callType_newKw F.called_zip (by decide) (F.type_zipB _ _ _) (F.new_zipB _ _ _) (fun o => F.init_zipB o _ _ _) F.entry_zip_new (meets_zipB bb B1 B2) ⟨⟨h1, h2⟩, ?_⟩
  have n1 : (s.heap.push o1).objs.size = s.heap.objs.size + 1 := Heap.size_push ..
  have n2 : ((s.heap.push o1).push o2).objs.size = s.heap.objs.size + 2 := by rw [Heap.size_push, n1]
  have n3 : (gzT2 s.heap o1 o2).objs.size = s.heap.objs.size + 3 := by rw [Heap.size_push, n2]
  have n4 : (gzO2 s.heap o1 o2).objs.size = s.heap.objs.size + 4 := by rw [Heap.size_push, n3]
  have gz : (gzB2 bb s.heap o1 o2).get? (gzO2 s.heap o1 o2).objs.size = some _ := Heap.get?_push_size _ rfl
  have go : (gzB2 bb s.heap o1 o2).get? (gzT2 s.heap o1 o2).objs.size = some _ := Heap.get?_push_of_some _ (Heap.get?_push_size _ rfl)
  have gt : (gzB2 bb s.heap o1 o2).get? ((s.heap.push o1).push o2).objs.size = some _ := Heap.get?_push_of_some _ (Heap.get?_push_of_some _ (Heap.get?_push_size _ rfl))
  have g2 : (gzB2 bb s.heap o1 o2).get? (s.heap.push o1).objs.size = some o2 := Heap.get?_push_of_some _ (Heap.get?_push_of_some _ (Heap.get?_push_of_some _ (Heap.get?_push_size _ B2.free)))
  have g1 : (gzB2 bb s.heap o1 o2).get? s.heap.objs.size = some o1 := Heap.get?_push_of_some _ (Heap.get?_push_of_some _ (Heap.get?_push_of_some _ (Heap.get?_push_of_some _ (Heap.get?_push_size _ B1.free))))
  rw [n4, n3, n2] at gz
  rw [n3] at go
  rw [n2, n1] at gt
  rw [n1] at g2
  show _ ∧ _
  rw [n4]
  exact ⟨⟨_, gz, rfl⟩, h _ gz gt go g1 g2 fun c o e => Heap.get?_push_of_some _ (Heap.get?_push_of_some _ (Heap.get?_push_of_some _ (Heap.get?_push_of_some _ (Heap.get?_push_of_some _ e))))⟩
end
section
variable {M : Model} {A : Around} {E : Value → Shared → Prop} {s : Shared}
omit [Tbl] in
theorem args_kwT {f : Value} {x : Sem Value} {rest : List (Bool × Sem Value)} {keywords : List (Option Str × Sem Value)} {Q : Args → Shared → Prop} (hall : keywords.all (·.1.isSome) = true)
    (h : wpAny M A (spliced ((false, x) :: rest)) (fun vs s₁ => wpAny M A (evalAll (keywords.map (·.2))) (fun kvs s₂ => Q ⟨vs, (keywords.filterMap (·.1)).zip kvs⟩ s₂) E s₁) E s) :
    wpAny M A (evalArgs f true ((false, x) :: rest) keywords) Q E s := PyProof.Rows.evalArgs_kwB hall h
omit [Tbl] in
theorem callWith_kwT {pos : Pos} {T : String} {args : List (Bool × Sem Value)} {keywords : List (Option Str × Sem Value)} {Q : Value → Shared → Prop} (hp : args.any (·.1) = false) (hk : keywords.any (·.1.isNone) = false)
    (h : wpAny M A (evalArgs (.type T) true args keywords) (fun a s₁ => wpAny M A (call (.type T) a.pos a.kw) Q E s₁) E s) : wpAny M A (callWith pos (.type T) [] args keywords) Q E s := by
  unfold callWith
  refine wpAny_bind (wpAny_holding (wpAny_mono h (fun a s₁ h₁ => wpAny_bind (wpAny_standAt ?_)) fun _ _ x => x))
  simp only [hp, hk, Bool.or_false]
  exact wpAny_bind (wpAny_pure (wpAny_bind (wpAny_mono h₁ (fun r s₂ hr => wpAny_bind (wpAny_holding (wpAny_point (wpAny_pure hr)))) fun _ _ x => x)))
end
section
variable {X : Cx} {E : XK} {e e2 ek : Expr} {p pos tpos kpos : Pos} {elts : List Expr} {kk : Nat}
/-- zip(a, b, strict=..): two lists or two tuples -/
def iZipB (K : PySem.W.Frag) (bb : Bool) (ta : TA) : TI := fun σ H R => ta σ H fun vs H1 => ∃ a b xs ys, vs = [.ref a, .ref b] ∧
  ((bb = true ∧ SqL K H1 a xs ∧ SqL K H1 b ys ∧ R (Itzs K a b) H1) ∨ (bb = false ∧ SqL K H1 a xs ∧ SqL K H1 b ys ∧ R (Itz K a b) H1) ∨ (bb = false ∧ SqT K H1 a xs ∧ SqT K H1 b ys ∧ R (RZ.ItzT K a b) H1))
theorem pi_zipB {ta : TA} {bb : Bool} (hg : Gl X "zip") (hm : X.mg "zip" = none) (ha : PA X [e, e2] ta) (hek : ∀ s Q, Q (.bool bb) s → wpAny (model X.prog X.w) X.A (eval ek X.env) Q X.xe s)
    (hs : backTo pos (starEach [e, e2] X.env) = (false, eval e X.env) :: backTo pos (starEach [e2] X.env) := by rfl) (hpl : (backTo pos (starEach [e, e2] X.env)).any (·.1) = false := by rfl) :
    PI X (.Tuple elts kk tpos) (.Call (.Name "zip" p) [e, e2] [⟨some "strict", ek, kpos⟩] pos) (iZipB X.K bb ta) := by
  refine ⟨fun pins s σ H R I h => ?_⟩
  refine wpAny_Call_Name_kw (ld_blt I hg hm PyProof.Rows.boot_zip (callWith_kwT hpl rfl ?_))
  rw [hs]
  refine args_kwT rfl ?_
  rw [← hs]
  refine thn (ha.run pos pins s σ H _ I h) fun us s1 ⟨vs, H1, I1, r1, q1⟩ => ?_
  refine wpAny_evalAll_cons (wpAny_bind (hek _ _ (wpAny_bind (wpAny_standAt (wpAny_pure (wpAny_evalAll_nil ?_))))))
  obtain ⟨a, b, xs, ys, ex, q1⟩ := q1
  subst ex
  cases r1 with
  | cons r rr =>
    cases rr with
    | cons r' rr =>
      cases rr
      cases r
      cases r'
      have fr : ∀ c, c ∈ [s1.heap.objs.size + 4, s1.heap.objs.size + 2, s1.heap.objs.size + 3, s1.heap.objs.size, s1.heap.objs.size + 1] → FpOk X pins H1 c := fun c hc => by
        have le : s1.heap.objs.size ≤ c := by
          simp only [List.mem_cons, List.not_mem_nil, or_false] at hc
          rcases hc with rfl | rfl | rfl | rfl | rfl <;> omega
        exact I1.fpOk le (I1.hok.fresh le)
      rcases q1 with ⟨rfl, qx, qy, q⟩ | ⟨rfl, qx, qy, q⟩ | ⟨rfl, qx, qy, q⟩
      · obtain ⟨its, rv, p1, _⟩ := I1.list qx
        obtain ⟨its2, rv2, p2, _⟩ := I1.list qy
        refine call_zipB (begins_list a _) (begins_list b _) p1.isList p2.isList fun h' hz hTI hTO h1 h2 hk => iter_zipB hz ?_
        exact ⟨_, [s1.heap.objs.size + 4, s1.heap.objs.size + 2, s1.heap.objs.size + 3, s1.heap.objs.size, s1.heap.objs.size + 1], _, _, H1, rfl, I1.kept (t' := s1.toks) hk, turn_zipS (PySem.W.ktu_apart s1.heap.objs.size a b p1.lt p2.lt), ⟨hz, hTI, ⟨_, _, hTO⟩, ⟨_, h1, rfl, rfl⟩, ⟨_, h2, rfl, rfl⟩⟩, fr, q⟩
      · obtain ⟨its, rv, p1, _⟩ := I1.list qx
        obtain ⟨its2, rv2, p2, _⟩ := I1.list qy
        refine call_zipB (begins_list a _) (begins_list b _) p1.isList p2.isList fun h' hz hTI hTO h1 h2 hk => iter_zipB hz ?_
        exact ⟨_, [s1.heap.objs.size + 4, s1.heap.objs.size + 2, s1.heap.objs.size + 3, s1.heap.objs.size, s1.heap.objs.size + 1], _, _, H1, rfl, I1.kept (t' := s1.toks) hk, turn_zip (PySem.W.ktu_apart s1.heap.objs.size a b p1.lt p2.lt), ⟨hz, hTI, ⟨_, _, hTO⟩, ⟨_, h1, rfl, rfl⟩, ⟨_, h2, rfl, rfl⟩⟩, fr, q⟩
      · obtain ⟨its, rv, p1, _⟩ := I1.tuple qx
        obtain ⟨its2, rv2, p2, _⟩ := I1.tuple qy
        obtain ⟨w1, hw1, _⟩ := id p1
        obtain ⟨w2, hw2, _⟩ := id p2
        refine call_zipB (begins_tuple a its.toArray) (begins_tuple b its2.toArray) p1 p2 fun h' hz hTI hTO h1 h2 hk => iter_zipB hz ?_
        exact ⟨_, [s1.heap.objs.size + 4, s1.heap.objs.size + 2, s1.heap.objs.size + 3, s1.heap.objs.size, s1.heap.objs.size + 1], _, _, H1, rfl, I1.kept (t' := s1.toks) hk, RZ.turn_zipT (PySem.W.ktu_apart s1.heap.objs.size a b (Heap.lt_size hw1) (Heap.lt_size hw2)), ⟨hz, hTI, ⟨_, _, hTO⟩, ⟨_, h1, rfl, rfl⟩, ⟨_, h2, rfl, rfl⟩⟩, fr, q⟩
def zipSL (bb : Bool) : List D → Res (List D)
  | [.list xs, .list ys] => if bb = true ∧ xs.length ≠ ys.length then .stuck else .ok (pairUp xs ys)
  | [.tuple xs, .tuple ys] => if bb = true then .stuck else .ok (pairUp xs ys)
  | _ => .stuck
theorem itok_zipS {K : PySem.W.Frag} {p q : Addr} {vs us : List V} {xs ys : List D} {H0 : Hp} (hl : xs.length = ys.length) (h : H0 p = some (.lst vs)) (r : RpAll K H0 vs xs) (h' : H0 q = some (.lst us)) (r' : RpAll K H0 us ys) : ItOk K (Itzs K p q) (pairUp xs ys) H0 where
  stop := fun i H0i Hi e1 e2 hi => ⟨vs, us, SqL.of (e2 _ _ (e1 _ _ h)), SqL.of (e2 _ _ (e1 _ _ h')), by rw [pair_len] at hi; rw [r.len]; omega, by rw [pair_len] at hi; rw [r'.len]; omega⟩
  go := (itok_zip h r h' r').go
  yld := (itok_zip h r h' r').yld
theorem ji_zipB {a b : Expr} {bb : Bool} {s : Ga → Res (Ga × List D)} (hg : Gl X "zip") (hm : X.mg "zip" = none) (h : JA X E [a, b] s) (hek : ∀ s Q, Q (.bool bb) s → wpAny (model X.prog X.w) X.A (eval ek X.env) Q X.xe s)
    (hs : backTo pos (starEach [a, b] X.env) = (false, eval a X.env) :: backTo pos (starEach [b] X.env) := by rfl) (hpl : (backTo pos (starEach [a, b] X.env)).any (·.1) = false := by rfl) :
    JI X E (.Tuple elts kk tpos) (.Call (.Name "zip" p) [a, b] [⟨some "strict", ek, kpos⟩] pos) (sItA (zipSL bb) s) := by
  obtain ⟨t, pp, ha⟩ := h.ex
  refine ⟨_, pi_zipB hg hm pp hek hs hpl, fun B σ Γ H0 H R ok w => ?_⟩
  have w : IW X B E σ Γ H0 H (sItA (zipSL bb) s Γ) R := w
  show t σ H fun vs H1 => _
  refine a_then ha wok_I ok w fun Γ1 x v H01 H1 w1 ok1 g1 l1 r1 => ?_
  unfold zipSL at w1
  split at w1
  · rename_i xs ys hx
    have hx : x = [.list xs, .list ys] := hx
    subst hx
    split at w1
    · exact w1.elim
    · rename_i hz
      cases r1 with
      | cons r1 r2 =>
        cases r2 with
        | cons r2 r3 =>
          cases r3
          cases r1 with
          | lst h1 h2 =>
            cases r2 with
            | lst h3 h4 =>
              cases bb
              · exact ⟨_, _, _, _, rfl, .inr (.inl ⟨rfl, SqL.of (ok1.sub _ _ h1), SqL.of (ok1.sub _ _ h3), w1 _ H01 H1 ok1 (Grow.refl _ _ _) (Less.refl _) (itok_zip h1 h2 h3 h4)⟩)⟩
              · have hl := Decidable.not_not.mp fun q => hz ⟨rfl, q⟩
                exact ⟨_, _, _, _, rfl, .inl ⟨rfl, SqL.of (ok1.sub _ _ h1), SqL.of (ok1.sub _ _ h3), w1 _ H01 H1 ok1 (Grow.refl _ _ _) (Less.refl _) (itok_zipS hl h1 h2 h3 h4)⟩⟩
  · rename_i xs ys hx
    have hx : x = [.tuple xs, .tuple ys] := hx
    subst hx
    split at w1
    · exact w1.elim
    · rename_i hz
      have hz : bb = false := by cases bb with | true => exact absurd rfl hz | false => rfl
      subst hz
      cases r1 with
      | cons r1 r2 =>
        cases r2 with
        | cons r2 r3 =>
          cases r3
          cases r1 with
          | tup h1 h2 =>
            cases r2 with
            | tup h3 h4 => exact ⟨_, _, _, _, rfl, .inr (.inr ⟨rfl, ex_t ok1.sub h1, ex_t ok1.sub h3, w1 _ H01 H1 ok1 (Grow.refl _ _ _) (Less.refl _) (itok_zipT h1 h2 h3 h4)⟩)⟩
  · exact w1.elim
end
end Mi
namespace Mi
open PySem PySem.Spec PyProof.Rows L2 Evl

/-! ### the law's own head; cs: the code objects and their tables, empty at the law's entry -/
/-- the script and the tables alone are tracked -/
def OnlyT (cs : List (Addr × Addr)) (H : Hp) : Prop := ∀ b, H b = none ∨ (∃ p ∈ cs, p.2 = b) ∨ ∃ o xs, H b = some (.frz o (.lst xs))
section
variable {P : Program} {w : World} {K : PySem.W.Frag} {mg mb : Str → Option Value} {k : Nat} {fa a : Addr} {fd : FuncData} {x : Str} {sp : Sp} {s₁ : Shared} {cs : List (Addr × Addr)}
/-- from a heap of values that knows the script and the tables at most -/
theorem lawG_from {H : Hp} (KX : K.In s₁.heap) (hns : s₁.heap.Ns mainGlobals mg) (hb : s₁.heap.Ns builtinsNs mb) (hbb : ∀ x : Str, x ≠ "__name__" → mb x = bootBuiltins x) (hlim : s₁.heap.NoLimit) (hg : s₁.gens = #[])
    (tE : ∀ p ∈ cs, s₁.heap.get? p.2 = some { cls := .none, data := .fields #[] }) (tC : ∀ p ∈ cs, PySem.W.CodeHd s₁.heap p.1 p.2)
    (tM : ∃ (m : Addr) (o : Obj), mg "__builtins__" = some (.ref m) ∧ m ≠ builtinsNs ∧ s₁.heap.get? m = some o ∧ o.cls = .type "module" ∧ o.dict = some builtinsNs ∧ o.data = .plain)
    (hr : Room k callerA) (F : ∀ base : Heap, K.In base → base.Ns mainGlobals mg → (∀ p ∈ cs, LamX.TabB base mg p.1 p.2) → FnG P w K mg base k fa fd [x] sp) (hbind : ∀ (s : Shared) (u : Value), BindsTo s fd ⟨[u], []⟩ [(x, u)])
    (hH : ∀ p ∈ cs, H p.2 = some (.tbl #[])) (hO : OnlyT cs H) (hok : HOk P w H s₁.heap) (hKH : ∀ b o, K.lookup b = some o → H b = none) (hdH : ∀ b o, s₁.heap.get? b = some o → (∀ xs n, o.data ≠ .seq xs n) → o.data ≠ .fields #[] → H b = none)
    (hs : sp [.ref a] H (fun v _ => v = .bl true) fun _ _ _ => False) :
    codeAny (model P w) callerA (.call (.ref fa) ⟨[.ref a], []⟩) (fun r s' => r = .ok (.ret (.bool true)) ∧ OldK s₁.heap s'.heap ∧ s'.os = s₁.os ∧ AllBare s'.gens) s₁ := by
  have hid : ∀ {b : Addr} {o : Obj}, s₁.heap.get? b = some o → (∀ xs n, o.data ≠ .seq xs n) → o.data ≠ .fields #[] → (hidT s₁.heap H).get? b = some o := fun e n1 n2 => hidT_get e (hdH _ _ e n1 n2)
  have ns' : ∀ {b : Addr} {m : Str → Option Value}, s₁.heap.Ns b m → (hidT s₁.heap H).Ns b m := fun {b m} ⟨o, es, ep, e, d, r⟩ => ⟨o, es, ep, hid e (fun xs n z => by rw [d] at z; cases z) (fun z => by rw [d] at z; cases z), d, r⟩
  have kb : K.In (hidT s₁.heap H) := fun b o e => hidT_get (KX b o e) (hKH b o e)
  obtain ⟨mc, l1, l2⟩ := hlim
  have e0 : Env0 P w K mg (hidT s₁.heap H) callerA [] s₁ H :=
    ⟨rfl, ⟨kb, ns' hns, ⟨mb, ns' hb, hbb⟩, ⟨mc, ns' l1, l2⟩⟩, fun b o e => of_hidT e, Nat.le_of_eq (hidT_size _ _), trivial, fun b hb => absurd (show b ∈ ([] : List Addr) from hb) (by simp), hok, .of_eq hg⟩
  have tB : ∀ p ∈ cs, LamX.TabB (hidT s₁.heap H) mg p.1 p.2 := by
    intro p hp
    have ep := tE p hp
    constructor
    · obtain ⟨o, us, f1, f2, f3, f4, f5, f6, f7, e, c1, c2, c3, c4⟩ := tC p hp
      refine ⟨o, us, f1, f2, f3, f4, f5, f6, f7, hid e (fun xs n z => ?_) (fun z => ?_), c1, c2, c3, c4⟩ <;> (rw [c2] at z; cases z)
      simp at c3
    · obtain ⟨m, o, m1, m2, m3, m4, m5, m6⟩ := tM
      refine ⟨m, o, m1, m2, fun z => ?_, fun z => ?_, hid m3 (fun xs n z => ?_) (fun z => ?_), m4, m5, m6⟩
      · obtain ⟨o', es, ei, g1, g2, _⟩ := hns
        rw [z, g1] at m3; cases m3; rw [g2] at m6; cases m6
      · rw [z, ep] at m3; cases m3; cases m6
      · rw [m6] at z; cases z
      · rw [m6] at z; cases z
    · intro z
      obtain ⟨o', es, ei, g1, g2, _⟩ := hns
      rw [z, ep] at g1; cases g1; cases g2
  refine codeAny_mono ((F _ kb (ns' hns) tB).go callerA [] s₁ H _ [.ref a] [.ref a] _ _ hr rfl e0 (hbind s₁ (.ref a)) (.cons rfl .nil) hs) ?_
  intro r s' h
  match r, h with
  | .error _, ⟨_, _, _, _, _, _, _, _, _, _, _, _, z⟩ => exact z.elim
  | .ok .next, h => exact h.elim
  | .ok .brk, h => exact h.elim
  | .ok .cont, h => exact h.elim
  | .ok (.ret u), ⟨v, H', os, bare, un, hok', r', q⟩ =>
    cases (show v = .bl true from q)
    cases (show u = Value.bool true from r')
    have tab : ∀ p ∈ cs, ∃ vs : Array Value, s'.heap.get? p.2 = some { cls := .none, data := .fields vs } := fun p hp => by
      obtain ⟨vs, z⟩ := un.tbls _ _ (hH p hp)
      exact ⟨_, hok' _ _ z⟩
    have same : ∀ b o, s₁.heap.get? b = some o → (∀ p ∈ cs, p.2 ≠ b) → s'.heap.get? b = some o := fun b o e nt => by
      rcases hO b with z | ⟨p, hp, z⟩ | ⟨ob, xs, z⟩
      · exact un.keep b o e z (by intro y; exact absurd (show b ∈ ([] : List Addr) from y) (by simp)) (by simp)
      · exact absurd z (nt p hp)
      · have z1 := (hok b _ z).1
        rw [e] at z1
        cases z1
        exact (hok' b _ (un.frzs b _ _ z)).1
    refine ⟨rfl, ⟨fun b o e => ?_, fun b o e => ?_⟩, os, bare⟩
    all_goals by_cases hb : ∃ p ∈ cs, p.2 = b
    · obtain ⟨p, hp, rfl⟩ := hb
      obtain ⟨vs, z⟩ := tab p hp
      have ep := tE p hp
      rw [ep] at e; cases e
      exact .inr (.inl ⟨((tC p hp).tab ep).isCodeTable, rfl, #[], vs, rfl, by rw [Array.empty_append]; exact z⟩)
    · exact .inl (same b o e fun p hp z => hb ⟨p, hp, z⟩)
    · obtain ⟨p, hp, rfl⟩ := hb
      obtain ⟨vs, z⟩ := tab p hp
      exact ⟨_, z⟩
    · exact ⟨o, same b o e fun p hp z => hb ⟨p, hp, z⟩⟩
theorem lawG {vs : List Value} {ns : List Int} (KX : K.In s₁.heap) (hns : s₁.heap.Ns mainGlobals mg) (hb : s₁.heap.Ns builtinsNs mb) (hbb : ∀ x : Str, x ≠ "__name__" → mb x = bootBuiltins x) (hlim : s₁.heap.NoLimit) (hg : s₁.gens = #[])
    (tE : ∀ p ∈ cs, s₁.heap.get? p.2 = some { cls := .none, data := .fields #[] }) (tK : ∀ p ∈ cs, K.lookup p.2 = none) (tC : ∀ p ∈ cs, PySem.W.CodeHd s₁.heap p.1 p.2)
    (tM : ∃ (m : Addr) (o : Obj), mg "__builtins__" = some (.ref m) ∧ m ≠ builtinsNs ∧ s₁.heap.get? m = some o ∧ o.cls = .type "module" ∧ o.dict = some builtinsNs ∧ o.data = .plain)
    (ha : s₁.heap.get? a = some { cls := .type "list", data := .seq vs.toArray }) (hi : IntsAre vs ns) (hl : ns.length ≤ sizeLine) (hr : Room k callerA)
    (F : ∀ base : Heap, K.In base → base.Ns mainGlobals mg → (∀ p ∈ cs, LamX.TabB base mg p.1 p.2) → FnG P w K mg base k fa fd [x] sp) (hbind : ∀ (s : Shared) (u : Value), BindsTo s fd ⟨[u], []⟩ [(x, u)])
    (hsp : ∀ H : Hp, (∀ p ∈ cs, H p.2 = some (.tbl #[])) → SqL K H a (ns.map V.int) → sp [.ref a] H (fun v _ => v = .bl true) fun _ _ _ => False) :
    codeAny (model P w) callerA (.call (.ref fa) ⟨[.ref a], []⟩) (fun r s' => r = .ok (.ret (.bool true)) ∧ OldK s₁.heap s'.heap ∧ s'.os = s₁.os ∧ AllBare s'.gens) s₁ := by
  classical
  let tb : Addr → Prop := fun b => ∃ p ∈ cs, p.2 = b
  have nta : ¬ tb a := fun ⟨p, hp, z⟩ => by
    have e := tE p hp
    rw [z, ha] at e; cases e
  have tbE : ∀ b, tb b → s₁.heap.get? b = some { cls := .none, data := .fields #[] } := fun b ⟨p, hp, z⟩ => z ▸ tE p hp
  cases hk : K.lookup a with
  | some o =>
    have eo : o = { cls := .type "list", data := .seq vs.toArray } := Option.some.inj ((KX a o hk).symm.trans ha)
    subst eo
    let H : Hp := fun b => if tb b then some (.tbl #[]) else none
    have on : ∀ {b}, tb b → H b = some (.tbl #[]) := fun h => if_pos h
    have off : ∀ {b}, ¬ tb b → H b = none := fun n => if_neg n
    refine lawG_from (H := H) KX hns hb hbb hlim hg tE tC tM hr F hbind (fun p hp => on ⟨p, hp, rfl⟩) (fun b => ?_) (fun b u z => ?_) (fun b o e => off fun ⟨p, hp, z⟩ => ?_) (fun b o e n1 n2 => off fun t => ?_) (hsp H (fun p hp => on ⟨p, hp, rfl⟩) (.inr ⟨_, vs.toArray, _, hk, rfl, rfl, rfl, ?_, ?_⟩))
    · by_cases t : tb b
      · exact .inr (.inl t)
      · exact .inl (off t)
    · by_cases t : tb b
      · rw [on t] at z; cases z; exact tbE b t
      · rw [off t] at z; cases z
    · rw [← z, tK p hp] at e; cases e
    · rw [tbE b t] at e; cases e; exact n2 rfl
    · rw [List.size_toArray, hi.length]
      exact hl
    · simpa using vals_ints hi
  | none =>
    let fz : HO := .frz { cls := .type "list", data := .seq vs.toArray } (.lst (ns.map V.int))
    let H : Hp := fun b => if b = a then some fz else if tb b then some (.tbl #[]) else none
    have at_a : H a = some fz := if_pos rfl
    have on : ∀ {b}, tb b → H b = some (.tbl #[]) := fun {b} h => (if_neg fun z : b = a => nta (z ▸ h)).trans (if_pos h)
    have off : ∀ {b}, b ≠ a → ¬ tb b → H b = none := fun n n' => (if_neg n).trans (if_neg n')
    refine lawG_from (H := H) KX hns hb hbb hlim hg tE tC tM hr F hbind (fun p hp => on ⟨p, hp, rfl⟩) (fun b => ?_) (fun b u z => ?_) (fun b o e => off (fun q => ?_) fun ⟨p, hp, z⟩ => ?_) (fun b o e n1 n2 => off (fun q => ?_) fun t => ?_) (hsp H (fun p hp => on ⟨p, hp, rfl⟩) (.inl (.inr ⟨_, at_a⟩)))
    · by_cases t : tb b
      · exact .inr (.inl t)
      · by_cases e : b = a
        · exact .inr (.inr ⟨_, _, e ▸ at_a⟩)
        · exact .inl (off e t)
    · by_cases t : tb b
      · rw [on t] at z; cases z; exact tbE b t
      · by_cases e : b = a
        · subst e
          rw [at_a] at z
          cases z
          exact ⟨ha, by rw [List.length_map]; exact hl, vs, _, vals_ints hi, ha⟩
        · rw [off e t] at z
          cases z
    · rw [q, hk] at e
      cases e
    · rw [← z, tK p hp] at e; cases e
    · rw [q, ha] at e
      cases e
      exact n1 _ _ rfl
    · rw [tbE b t] at e; cases e; exact n2 rfl
end
/-- what a law with tables gives at its head; no tables: tab0 -/
structure Tab0 (K : PySem.W.Frag) (h : Heap) (cs : List (Addr × Addr)) : Prop where
  e : ∀ p ∈ cs, h.get? p.2 = some { cls := .none, data := .fields #[] }
  k : ∀ p ∈ cs, K.lookup p.2 = none
  c : ∀ p ∈ cs, PySem.W.CodeHd h p.1 p.2
theorem tab0_nil {K : PySem.W.Frag} {h : Heap} : Tab0 K h [] := ⟨nofun, nofun, nofun⟩
theorem tab0_cons {K : PySem.W.Frag} {h : Heap} {c P : Addr} {cs : List (Addr × Addr)} (h1 : h.get? P = some { cls := .none, data := .fields #[] }) (h2 : K.lookup P = none) (h3 : PySem.W.CodeHd h c P) (r : Tab0 K h cs) : Tab0 K h ((c, P) :: cs) :=
  ⟨List.forall_mem_cons.mpr ⟨h1, r.e⟩, List.forall_mem_cons.mpr ⟨h2, r.k⟩, List.forall_mem_cons.mpr ⟨h3, r.c⟩⟩
/-- the goal that the head leaves, from the law's own meaning: the value function m of its body answers True -/
theorem walkG {l : PySem.W.OpenLaw} {n k : Nat} {q : Program} {loose : List Str} {XP : (Str → Option Value) → Heap → Prop} {YP : World → Heap → Prop} {d : DefRec} {K : Params → PySem.W.Frag} {x : Str} {m : Ga → Res (Ga × R)}
    (hn : l.most = some n) (hn2 : n ≤ sizeLine) (hdf : d.params.defaults = []) (hr : Room k callerA)
    (hY : ∀ (w : World) (h : Heap), YP w h → (K w.params).In h)
    (F : ∀ (w : World) (mg : Str → Option Value) (fa : Addr) (h : Heap), YP w h → (K w.params).In h → h.Ns mainGlobals mg → mg d.name = some (.ref fa) →
      ∃ (fd : FuncData) (T : Tbl) (cs : List (Addr × Addr)), Tab0 (K w.params) h cs ∧ (∀ p ∈ T.T, ∃ c, (c, p.1) ∈ cs) ∧ T.C = [] ∧ (∀ b, T.M b = none) ∧ (∀ (s : Shared) (u : Value), BindsTo s fd ⟨[u], []⟩ [(x, u)]) ∧
        ∀ base : Heap, (K w.params).In base → base.Ns mainGlobals mg → (∀ p ∈ cs, LamX.TabB base mg p.1 p.2) → FD l.prog w (K w.params) mg base k fa fd [x] m)
    (law : ∀ ns : List Int, ns.length ≤ n → (∀ z ∈ ns, Builtin.Int.intBits z ≤ 1048576) → ∃ Γ, m [.scr ns] = .ok (Γ, .d (.bool true))) :
    PySem.W.WalkO q loose XP YP l.row.toRowW d [] (fun f vs => PySem.call f vs) := by
  refine Att.attach_callB hn hdf fun w s₀ s₁ mg mb fa o pm cd doc a vs ns G Y ho hd hcd hmg hobj hints hlen hbits hg => ?_
  have KX := hY w _ Y
  obtain ⟨fd, T, cs, t0, tc, tC, tM, hb, hF⟩ := F w mg fa _ Y KX G.T.g hmg
  refine lawG KX G.T.g G.T.b G.T.builtins G.T.nolimit hg t0.e t0.k t0.c G.T.bmain hobj hints (Nat.le_trans hlen hn2) hr (fun base h1 h2 h3 => (hF base h1 h2 h3).ok) hb fun H hH hS => ?_
  obtain ⟨Γ', e⟩ := law ns hlen hbits
  let H0 : Hp := fun b => match H b with
    | some (.tbl _) => none
    | o => o
  have h0 : ∀ {b : Addr} {o : HO}, H b = some o → (∀ ps, o ≠ .tbl ps) → H0 b = some o := fun {b o} e n => by
    show (match H b with | some (.tbl _) => none | o => o) = some o
    rw [e]
    cases o <;> first | rfl | exact absurd rfl (n _)
  have h1 : ∀ {b : Addr} {o : HO}, H0 b = some o → H b = some o ∧ ∀ ps, o ≠ .tbl ps := fun {b o} e => by
    have e : (match H b with | some (.tbl _) => none | o => o) = some o := e
    split at e
    · cases e
    · rename_i n; exact ⟨e, fun ps z => n ps (by rw [← z]; exact e)⟩
  have hS0 : SqL (K w.params) H0 a (ns.map V.int) := by
    rcases hS with (z | ⟨o, z⟩) | z
    · exact .inl (.inl (h0 z nofun))
    · exact .inl (.inr ⟨o, h0 z nofun⟩)
    · exact .inr z
  refine ⟨rfl, H0, [.scr ns], ?_, ?_⟩
  · refine ⟨fun b o q => (h1 q).1, rfl, fun i y q => ?_, fun i ms q => ?_, fun i b xs q => ?_, fun i j b c xs ys p _ q => ?_, Grow.refl _ _ _, ⟨fun p hp => ?_, fun p hp => by rw [tC] at hp; cases hp⟩, ⟨fun b o e => (by rw [tM b] at e; cases e), fun p ps q => (h1 q).2 ps rfl⟩, fun i q => (by
      match i, q with
      | 0, q => cases q
      | i + 1, q => simp at q)⟩
    · match i, q with
      | 0, q => cases q
      | i + 1, q => simp at q
    · match i, q with
      | 0, q => cases q; exact ⟨a, rfl, hS0⟩
      | i + 1, q => simp at q
    · match i, q with
      | 0, q => cases q
      | i + 1, q => simp at q
    · match i, q with
      | 0, q => cases q
      | i + 1, q => simp at q
    · obtain ⟨c, hc⟩ := tc p hp
      exact .nil (hH _ hc)
  · rw [e]
    intro v H0' H' ok r
    rcases r with r
    cases r with
    | d r => cases r; rfl
/-- a law without lambdas -/
theorem wG0 {K : PySem.W.Frag} {P : Program} {w : World} {mg : Str → Option Value} {k : Nat} {fa : Addr} {x : Str} {m : Ga → Res (Ga × R)} {h : Heap}
    (F : ∀ [Tbl], ∃ fd : FuncData, (∀ (s : Shared) (u : Value), BindsTo s fd ⟨[u], []⟩ [(x, u)]) ∧ ∀ base : Heap, K.In base → base.Ns mainGlobals mg → FD P w K mg base k fa fd [x] m) :
    ∃ (fd : FuncData) (T : Tbl) (cs : List (Addr × Addr)), Tab0 K h cs ∧ (∀ p ∈ T.T, ∃ c, (c, p.1) ∈ cs) ∧ T.C = [] ∧ (∀ b, T.M b = none) ∧ (∀ (s : Shared) (u : Value), BindsTo s fd ⟨[u], []⟩ [(x, u)]) ∧
        ∀ base : Heap, K.In base → base.Ns mainGlobals mg → (∀ p ∈ cs, LamX.TabB base mg p.1 p.2) → FD P w K mg base k fa fd [x] m := by
  letI T : Tbl := ⟨[], nofun, [], fun _ => none, 0⟩
  obtain ⟨fd, a, b⟩ := F
  exact ⟨fd, T, [], tab0_nil, nofun, rfl, fun _ => rfl, a, fun base h1 h2 _ => b base h1 h2⟩
end Mi
namespace Mi
open PySem PySem.Spec PyProof.Rows L2 Evl
variable [Tbl]
section
variable {X : Cx} {E : XK} {e a b c : Expr} {pos : Pos} {x : Str} {p : Pos}

/-! ### names of the module -/
theorem jd_gint {n : Int} {t : Tok} (hg : Gl X x) (hm : X.mg x = some (.int n t)) (hd : (x == ("__debug__" : Str)) = false := by decide) : JD X E (.Name x p) (sC (.int n)) := jd_const (pe_glob (v := .int n) hg hm ⟨t, rfl⟩ hd) rfl fun _ _ => .int n
theorem jd_gstr {z : Str} {t : Tok} (hg : Gl X x) (hm : X.mg x = some (.str z t)) (hd : (x == ("__debug__" : Str)) = false := by decide) : JD X E (.Name x p) (sC (.str z)) := jd_const (pe_glob (v := .str z) hg hm ⟨t, rfl⟩ hd) rfl fun _ _ => .str z

/-! ### a op b op c -/
def sChain (g h : D → D → Res R) (sa sb sc : Ga → Res (Ga × D)) : Ga → Res (Ga × R) := fun Γ => (sa Γ).bind fun p => (sb p.1).bind fun q => (g p.2 q.2).bind fun z => match z with
  | .d (.bool true) => (sc q.1).bind fun r => (h q.2 r.2).bind fun y => .ok (r.1, y)
  | .d (.bool false) => .ok (q.1, .d (.bool false))
  | _ => .stuck
theorem chain_sound {f f' : Value → Value → Sem Value} {g h : D → D → Res R} {sa sb sc : Ga → Res (Ga × D)} {r r' : R2} {ta tb tc : TE}
    (hr : ∀ B σ Γ H0 H Q v u x y, EnvOk X.K B σ Γ H0 H → RpB X.K H0 H v x → RpB X.K H0 H u y → EW X B E σ Γ H0 H ((g x y).bind fun z => .ok (Γ, z)) Q → r v u H Q)
    (hr' : ∀ B σ Γ H0 H Q v u x y, EnvOk X.K B σ Γ H0 H → RpB X.K H0 H v x → RpB X.K H0 H u y → EW X B E σ Γ H0 H ((h x y).bind fun z => .ok (Γ, z)) Q → r' v u H Q)
    (ha : ∀ B σ Γ H0 H Q, EnvOk X.K B σ Γ H0 H → DW X B E σ Γ H0 H (sa Γ) Q → ta σ H Q) (hb : ∀ B σ Γ H0 H Q, EnvOk X.K B σ Γ H0 H → DW X B E σ Γ H0 H (sb Γ) Q → tb σ H Q) (hc : ∀ B σ Γ H0 H Q, EnvOk X.K B σ Γ H0 H → BW X B E σ Γ H0 H (sc Γ) Q → tc σ H Q) :
    ∀ B σ Γ H0 H Q, EnvOk X.K B σ Γ H0 H → EW X B E σ Γ H0 H (sChain g h sa sb sc Γ) Q → tChain r r' ta tb tc σ H Q := fun B σ Γ H0 H Q ok w => by
  show ta σ H fun x H1 => tb σ H1 fun y H2 => r x y H2 fun z H3 => ∃ k, z = .bl k ∧ (if k = true then tc σ H3 fun w' H4 => r' y w' H4 Q else Q (.bl false) H3)
  refine d_then ha wok_E ok w fun Γ1 x v H01 H1 w1 ok1 g1 l1 r1 => ?_
  refine d_then hb wok_E ok1 w1 fun Γ2 y u H02 H2 w2 ok2 g2 l2 r2 => ?_
  refine hr B σ Γ2 H02 H2 _ v u x y ok2 (.inl (r1.m g2.ex0)) (.inl r2) ?_
  cases hg : g x y with
  | stuck => simp only [hg] at w2; exact w2.elim
  | exc k z => simp only [hg] at w2; exact w2
  | ok z =>
    simp only [hg, bind_ok] at w2 ⊢
    intro vv H03 H3 ok3 g3 l3 r3
    have w3 := (wok_E (X := X) (E := E) (σ := σ) (B := B)).shift _ _ _ _ _ _ _ ok2 g3 l3 w2
    split at w3
    · cases r3 with
      | d r3 =>
        cases r3
        refine ⟨true, rfl, ?_⟩
        rw [if_pos rfl]
        refine b_then hc wok_E ok3 w3 fun Γ4 y4 u4 H04 H4 w4 ok4 g4 l4 r4 => ?_
        exact hr' B σ Γ4 H04 H4 Q u u4 y y4 ok4 (.inl ((r2.m g3.ex0).m g4.ex0)) r4 w4
    · cases r3 with
      | d r3 =>
        cases r3
        refine ⟨false, rfl, ?_⟩
        rw [if_neg Bool.false_ne_true]
        exact w3 _ H03 H3 ok3 (Grow.refl _ _ _) (Less.refl _) (.d (.bl _))
    · exact w3.elim
theorem je_chain {op op' : CmpOp} {g h : D → D → Res R} {sa sb sc : Ga → Res (Ga × D)} (o : OpD X E (compareOp op) g) (o' : OpD X E (compareOp op') h) (ha : JD X E a sa) (hb : JD X E b sb) (hc : JB X E c sc) (hm : lastMarks [op, op'] [b, c] = false := by with_unfolding_all rfl) :
    JE X E (.Compare a [op, op'] [b, c] pos) (sChain g h sa sb sc) := by
  obtain ⟨r, z, hr⟩ := o
  obtain ⟨r', z', hr'⟩ := o'
  obtain ⟨ta, pa, ha⟩ := ha.ex
  obtain ⟨tb, pb, hb⟩ := hb.ex
  obtain ⟨tc, pc, hc⟩ := hc.ex
  exact ⟨_, pe_chain z z' pa pb pc hm, chain_sound (f := compareOp op) (f' := compareOp op') hr hr' ha hb hc⟩
theorem jt_chain {op op' : CmpOp} {g h : D → D → Res R} {sa sb sc : Ga → Res (Ga × D)} (o : OpD X E (compareOp op) g) (o' : OpD X E (compareOp op') h) (ha : JD X E a sa) (hb : JD X E b sb) (hc : JB X E c sc) (hm : lastMarks [op, op'] [b, c] = false := by with_unfolding_all rfl) :
    JT X E (.Compare a [op, op'] [b, c] pos) (sTst (sChain g h sa sb sc)) := by
  obtain ⟨r, z, hr⟩ := o
  obtain ⟨r', z', hr'⟩ := o'
  obtain ⟨ta, pa, ha⟩ := ha.ex
  obtain ⟨tb, pb, hb⟩ := hb.ex
  obtain ⟨tc, pc, hc⟩ := hc.ex
  exact ⟨_, pt_chain z z' pa pb pc hm, tst_sound (chain_sound (f := compareOp op) (f' := compareOp op') hr hr' ha hb hc)⟩

/-! ### the script's length -/
def sLenScr (i : Nat) : Ga → Res (Ga × R) := fun Γ => match Γ[i]? with
  | some (.scr ns) => .ok (Γ, .d (.int ns.length))
  | _ => .stuck
theorem je_lenScr {i : Nat} {y : Str} {q : Pos} (hg : Gl X y) (hm : X.mg y = none) (hv : bootBuiltins y = some (.builtin "len")) (pa : PE X e (tVar i)) (hn : y ≠ "__name__" := by decide) (hdb : (y == ("__debug__" : Str)) = false := by decide)
    (hst : starEach (e :: []) X.env = (false, eval e X.env) :: starEach [] X.env := by rfl) : JE X E (.Call (.Name y q) [e] [] pos) (sLenScr i) := by
  refine ⟨_, pe_callB call_len_seq hg hm hv (pa_cons pa pa_nil hst) hn hdb hst rfl, fun B σ Γ H0 H Q ok w => ?_⟩
  unfold sLenScr at w
  split at w
  · rename_i ns hns
    obtain ⟨p, e1, hq⟩ := ok.scr i ns hns
    refine ⟨_, e1, p, _, rfl, .inl (ex_l ok.sub hq), ?_⟩
    have w := w (.int ns.length) H0 H ok (Grow.refl _ _ _) (Less.refl _) (.d (.int _))
    rw [List.length_map]
    exact w
  · exact w.elim

/-! ### x[k] op= e, ints -/
omit [Tbl] in
theorem get_list : PGet X (rIxL X.K) := by
  intro pins s σ H o i ov iv Q I ro ri h
  obtain ⟨p, xs, k, z, rfl, rfl, hq, he, q⟩ := h
  cases ro
  obtain ⟨t, rfl⟩ := ri
  obtain ⟨its, r, pl, hz⟩ := I.list hq
  obtain ⟨j, h1, h2, h3, h4, h5⟩ := atI_get he
  obtain ⟨v, ev, rv⟩ := r.get h2
  have hl := r.length
  have hn := line63
  have fin : EP X pins σ Q v s := ⟨z, H, I, rv, q⟩
  by_cases h0 : 0 ≤ k
  · refine wpAny_getItem_list (x := v) pl.isList h0 (by omega) ?_ fin
    rw [seqIndex_of h0 h5] at h1
    rw [Option.some.inj h1]
    simpa using ev
  · refine wpAny_getItem_list_neg (x := v) pl.isList (by omega) (by rw [List.size_toArray] <;> omega) (by omega) ?_ fin
    rw [seqIndex_neg (by omega) h4] at h1
    rw [List.size_toArray, ← hl, Option.some.inj h1]
    simpa using ev
def sAugAt (g : Int → Int → Int) (i : Nat) (k v : Ga → Res (Ga × D)) : Ga → Res (Ga × Fl) := fun Γ => match ownAt Γ i with
  | some _ => (k Γ).bind fun p => match ownAt p.1 i, p.2 with
    | some (_, xs), .int n => (match ixN xs.length n with
      | some j => (match xs[j]? with
        | some (.int y) => (v p.1).bind fun q => match ownAt q.1 i, q.2 with
          | some (b', xs'), .int d => if xs'.length = xs.length then .ok (q.1.set i (.own b' (xs'.set j (.int (g y d)))), .nx) else .stuck
          | _, _ => .stuck
        | _ => .stuck)
      | none => .stuck)
    | _, _ => .stuck
  | none => .stuck
theorem js_augAt {i : Nat} {op : Operator} {g : Int → Int → Int} {sk sv : Ga → Res (Ga × D)} {tpos : Pos} (hp : PE X a (tVar i)) (hk : JD X E b sk) (hv : JD X E e sv) (ho : ∀ {X : Cx}, PIp X op (ipI g))
    (ha : ∀ ov iv new, augStore b ov iv new = (do holding [new, ov, iv] (setItem ov iv new); release [new, ov, iv] []; pure .next) := by intros; rfl) :
    JS X E (.AugAssign (.Subscript a b tpos) op e pos) (sAugAt g i sk sv) := by
  obtain ⟨t, p, hke⟩ := hk.ex
  obtain ⟨u, q, hve⟩ := hv.ex
  refine ⟨_, ps_augS hp p get_list q ho set_list ha, fun B σ Γ H0 H Dn ok w => ?_⟩
  unfold sAugAt at w
  show tVar i σ H fun o H1 => t σ H1 fun n H2 => rIxL X.K o n H2 fun x H3 => u σ H3 fun y H4 => ipI g x y H4 fun z H5 => rSetL o n z H5 fun H6 => Dn.nx σ H6
  split at w
  · rename_i bx hbx
    obtain ⟨b0, xs0⟩ := bx
    obtain ⟨r, us, q1, q2, q3, q4, _⟩ := ok.own i _ _ (ownAt_eq hbx)
    refine ⟨.ref r, q1, d_then hke wok_S ok w fun Γ1 n nv H01 H1 w1 ok1 g1 l1 r1 => ?_⟩
    split at w1
    · rename_i b xs k hx hk
      have hk : n = .int k := hk
      subst hk
      cases r1
      split at w1
      · rename_i j hj
        split at w1
        · rename_i y hy
          have hx := ownAt_eq hx
          obtain ⟨vs, h1, h2, h3⟩ := own_same (xs := xs0) (b := b0) q1 ok1 hx
          obtain ⟨yv, ey, ry⟩ := h3.get hy
          cases ry
          refine ⟨r, vs, k, .int y, rfl, rfl, .inl (.inl h1), ?_, ?_⟩
          · unfold atI
            rw [h3.len, hj]
            exact ey
          · refine d_then hve wok_S ok1 w1 fun Γ2 dd dv H02 H2 w2 ok2 g2 l2 r2 => ?_
            split at w2
            · rename_i b' xs' d hx' hd
              have hd : dd = .int d := hd
              subst hd
              cases r2
              split at w2
              · rename_i hlen
                have hx' := ownAt_eq hx'
                obtain ⟨vs', h1', h2', h3'⟩ := own_same (xs := xs0) (b := b0) q1 ok2 hx'
                refine ⟨_, _, rfl, rfl, r, vs', k, j, rfl, rfl, h1', by rw [h3'.len, hlen]; exact hj, ?_⟩
                exact w2 σ H02 _ (ok2.setOwn hx' q1 (h3'.set j (.int _))) (Ex.refl _)
              · exact w2.elim
            · exact w2.elim
        · exact w1.elim
      · exact w1.elim
    · exact w1.elim
  · exact w.elim

/-! ### the defs of the text, by name -/
structure Def (K : PySem.W.Frag) (mg : Str → Option Value) (x : Str) (st : Stmt) (ps : List Str) (f : Addr) (fd : FuncData) : Prop where
  fn : Fun K x x st f fd
  at_ : mg x = some (.ref f)
  bd : Binds K fd ps []
structure Has (P : Program) (w : World) (K : PySem.W.Frag) (mg : Str → Option Value) (base : Heap) (x : Str) (k : Nat) (ps : List Str) (m : Ga → Res (Ga × R)) : Prop where
  ex : ∃ f fd, FD P w K mg base k f fd ps m ∧ mg x = some (.ref f) ∧ PySem.W.keepIn K (.ref f) = true ∧ Binds K fd ps []
theorem je_callH {j k : Nat} {ps : List Str} {m : Ga → Res (Ga × R)} {es : List Expr} {ks : List (Option Nat)} {s : Ga → Res (Ga × List D)} (F : Has X.prog X.w X.K X.mg X.base x j ps m) (hr : Room k X.A) (hj : j ≤ k) (hq : X.A.guards = some []) (hg : Gl X x) (tk : Takes X fun cls d _ H => E cls d H) (ha : JP X E (e :: es) ks s) (nd : (ks.filterMap id).Nodup) (hl : ks.length = ps.length)
    (hdb : (x == ("__debug__" : Str)) = false := by decide) (he : starEach (e :: es) X.env = (false, eval e X.env) :: starEach es X.env := by rfl) (hpl : (backTo pos (starEach es X.env)).any (·.1) = false := by rfl) :
    JE X E (.Call (.Name x p) (e :: es) [] pos) (callS m ks s) := by
  obtain ⟨f, fd, G, hm, hk, hb⟩ := F.ex
  exact je_call G (hr.mono hj) hq hg hm hk hb tk ha nd hl hdb he hpl
theorem je_callH0 {j k : Nat} {m : Ga → Res (Ga × R)} (F : Has X.prog X.w X.K X.mg X.base x j [] m) (hr : Room k X.A) (hj : j ≤ k) (hq : X.A.guards = some []) (hg : Gl X x) (tk : Takes X fun cls d _ H => E cls d H)
    (hdb : (x == ("__debug__" : Str)) = false := by decide) : JE X E (.Call (.Name x p) [] [] pos) (callS m [] sNil) := by
  obtain ⟨f, fd, G, hm, hk, hb⟩ := F.ex
  exact je_call0 G (hr.mono hj) hq hg hm hk hb tk hdb
end
section
variable {P : Program} {w : World} {K : PySem.W.Frag} {mg : Str → Option Value} {base : Heap}
theorem has_of {x : Str} {st : Stmt} {ps N : List Str} {f : Addr} {fd : FuncData} {k : Nat} {body : Ga → Res (Ga × Fl)} (D : Def K mg x st ps f fd) (S : FnScope N ps (defScope st))
    (hbody : ∀ (cdv : Value) (A : Around) (outer : List Env) (s : Shared) (H : Hp) (E : XK), Room k (A.deeper (envOfC x (defScope st) s.heap.objs.size f cdv)) → A.guards = some [] →
      JSs (cxOf (L2.CX P w) P w K mg base N x (defScope st) f cdv A outer s H E) E (defBody st) body) : Has P w K mg base x (k + 1) ps (defS ps.length (N.length - ps.length) body) :=
  ⟨f, fd, fd_of D.fn S hbody, D.at_, D.fn.kp, D.bd⟩
end
end Mi
namespace Mi
open PySem PySem.Spec PyProof.Rows L2 Evl
variable [Tbl]

/-! ### the plain law: what the terms compute -/
section
variable {Γ : Ga} {i j k n l : Nat} {x y : D} {xs ys : List D} {g h : D → D → Res R}
omit [Tbl] in
@[simp] theorem q_pub {s : Ga → Res (Ga × R)} : sPub s Γ = (s Γ).bind fun p => .ok (p.1, pubR p.2) := rfl
omit [Tbl] in
@[simp] theorem q_dat {s : Ga → Res (Ga × D)} : sDat s Γ = (s Γ).bind fun p => .ok (p.1, .d p.2) := rfl
omit [Tbl] in
@[simp] theorem q_pubd : pubR (.d x) = x := rfl
omit [Tbl] in
@[simp] theorem q_pubf : pubR (.f xs) = .list xs := rfl
omit [Tbl] in
theorem q_name (e : Γ[i]? = some (.d x)) : sName i Γ = .ok (Γ, x) := by unfold sName; rw [e]
omit [Tbl] in
@[simp] theorem q_nameU : sName i Γ = match Γ[i]? with | some (.d x) => .ok (Γ, x) | some (.own false xs) => .ok (Γ.set i (.d (.list xs)), .list xs) | _ => .stuck := rfl
omit [Tbl] in
@[simp] theorem q_slD : slD Γ i = match Γ[i]? with | some (.d x) => .ok x | some (.own _ xs) => .ok (.list xs) | _ => .stuck := rfl
omit [Tbl] in
@[simp] theorem q_bor : sBor i Γ = (slD Γ i).bind fun x => .ok (Γ, x) := rfl
omit [Tbl] in
@[simp] theorem q_C : sC x Γ = .ok (Γ, x) := rfl
omit [Tbl] in
@[simp] theorem q_bin {sa sb : Ga → Res (Ga × D)} : sBin g sa sb Γ = (sa Γ).bind fun p => (sb p.1).bind fun q => (g p.2 q.2).bind fun z => .ok (q.1, z) := rfl
omit [Tbl] in
@[simp] theorem q_binN {sb : Ga → Res (Ga × D)} : sBinN g i sb Γ = (slD Γ i).bind fun _ => (sb Γ).bind fun q => (slD q.1 i).bind fun x => (g x q.2).bind fun z => .ok (q.1, z) := rfl
omit [Tbl] in
@[simp] theorem q_tst {s : Ga → Res (Ga × R)} : sTst s Γ = (s Γ).bind asB := rfl
omit [Tbl] in
@[simp] theorem q_asB {b : Bool} : asB (Γ, .d (.bool b)) = .ok (Γ, b) := rfl
omit [Tbl] in
@[simp] theorem q_and {s u : Ga → Res (Ga × Bool)} : sAnd s u Γ = (s Γ).bind fun p => if p.2 = true then u p.1 else .ok (p.1, false) := rfl
omit [Tbl] in
@[simp] theorem q_or {s u : Ga → Res (Ga × Bool)} : sOr s u Γ = (s Γ).bind fun p => if p.2 = true then .ok (p.1, true) else u p.1 := rfl
omit [Tbl] in
@[simp] theorem q_not {s : Ga → Res (Ga × Bool)} : sNot s Γ = (s Γ).bind fun p => .ok (p.1, !p.2) := rfl
omit [Tbl] in
@[simp] theorem q_val {s : Ga → Res (Ga × Bool)} : sVal s Γ = (s Γ).bind fun p => .ok (p.1, .d (.bool p.2)) := rfl
omit [Tbl] in
@[simp] theorem q_if {c : Ga → Res (Ga × Bool)} {s u : Ga → Res (Ga × R)} : sIf c s u Γ = (c Γ).bind fun p => if p.2 = true then s p.1 else u p.1 := rfl
omit [Tbl] in
@[simp] theorem q_un {g : D → Res R} {s : Ga → Res (Ga × D)} : sUn g s Γ = (s Γ).bind fun p => (g p.2).bind fun z => .ok (p.1, z) := rfl
omit [Tbl] in
@[simp] theorem q_nil : sNil Γ = .ok (Γ, []) := rfl
omit [Tbl] in
@[simp] theorem q_cons {s : Ga → Res (Ga × D)} {r : Ga → Res (Ga × List D)} : sCons s r Γ = (s Γ).bind fun p => (r p.1).bind fun q => .ok (q.1, p.2 :: q.2) := rfl
omit [Tbl] in
@[simp] theorem q_star {s : Ga → Res (Ga × D)} {r : Ga → Res (Ga × List D)} : sStar s r Γ = (s Γ).bind fun p => (starD p.2).bind fun xs => (r p.1).bind fun q => .ok (q.1, xs ++ q.2) := rfl
omit [Tbl] in
@[simp] theorem q_starl : starD (.list xs) = .ok xs := rfl
omit [Tbl] in
@[simp] theorem q_start : starD (.tuple xs) = .ok xs := rfl
omit [Tbl] in
@[simp] theorem q_tup {s : Ga → Res (Ga × List D)} : sTup s Γ = (s Γ).bind fun p => if p.2.length ≤ sizeLine then .ok (p.1, .d (.tuple p.2)) else .stuck := rfl
omit [Tbl] in
@[simp] theorem q_lst {s : Ga → Res (Ga × List D)} : sLst s Γ = (s Γ).bind fun p => if p.2.length ≤ sizeLine then .ok (p.1, .f p.2) else .stuck := rfl
omit [Tbl] in
@[simp] theorem q_noO : sNoO Γ = .ok (Γ, none) := rfl
omit [Tbl] in
@[simp] theorem q_someO {s : Ga → Res (Ga × D)} : sSomeO s Γ = (s Γ).bind fun p => match p.2 with | .int i => .ok (p.1, some i) | _ => .stuck := rfl
omit [Tbl] in
@[simp] theorem q_sl {s : Ga → Res (Ga × D)} {lo hi : Ga → Res (Ga × Option Int)} : sSl s lo hi Γ = (s Γ).bind fun p => (lo p.1).bind fun q => (hi q.1).bind fun r => (slG p.2 q.2 r.2).bind fun z => .ok (r.1, z) := rfl
omit [Tbl] in
@[simp] theorem q_slN {lo hi : Ga → Res (Ga × Option Int)} : sSlN i lo hi Γ = (slD Γ i).bind fun _ => (lo Γ).bind fun q => (hi q.1).bind fun r => (slD r.1 i).bind fun x => (slG x q.2 r.2).bind fun z => .ok (r.1, z) := rfl
omit [Tbl] in
@[simp] theorem q_slGl {lo hi : Option Int} : slG (.list xs) lo hi = .ok (.f (cutD xs lo hi)) := rfl
omit [Tbl] in
@[simp] theorem q_slGt {lo hi : Option Int} : slG (.tuple xs) lo hi = .ok (.d (.tuple (cutD xs lo hi))) := rfl
omit [Tbl] in
@[simp] theorem q_callB {g : List D → Res R} {s : Ga → Res (Ga × List D)} : sCallB g s Γ = (s Γ).bind fun p => (g p.2).bind fun z => .ok (p.1, z) := rfl
omit [Tbl] in
@[simp] theorem q_lenScr {ns : List Int} (e : Γ[i]? = some (.scr ns)) : sLenScr i Γ = .ok (Γ, .d (.int ns.length)) := by unfold sLenScr; rw [e]

omit [Tbl] in
@[simp] theorem q_chain {sa sb sc : Ga → Res (Ga × D)} : sChain g h sa sb sc Γ = (sa Γ).bind fun p => (sb p.1).bind fun q => (g p.2 q.2).bind fun z => match z with
  | .d (.bool true) => (sc q.1).bind fun r => (h q.2 r.2).bind fun y => .ok (r.1, y)
  | .d (.bool false) => .ok (q.1, .d (.bool false))
  | _ => .stuck := rfl
/-! statements -/
omit [Tbl] in
@[simp] theorem q_skip : sSkip Γ = .ok (Γ, .nx) := rfl

omit [Tbl] in
@[simp] theorem q_cond {c : Ga → Res (Ga × Bool)} {s u : Ga → Res (Ga × Fl)} : sCond c s u Γ = (c Γ).bind fun p => if p.2 = true then s p.1 else u p.1 := rfl
end
end Mi
namespace Mi
open PySem PySem.Spec PyProof.Rows L2 Evl
variable [Tbl]
section
variable {X : Cx} {E : XK} {B : Bg} {σ : L2.St} {Γ : Ga} {e a b c : Expr} {pos : Pos}
/-! ### a, b = x, y where a name is a cell: the tuple is made -/
omit [Tbl] in
theorem RVB.up {K : PySem.W.Frag} {H0 H : Hp} {r : R} {v : V} {p : Addr} {o : HO} (h : RVB K B H0 H r v) (n : H p = none) : RVB K B H0 (upd H p o) r v := by
  cases h with
  | d r => exact .d r
  | f h1 h2 h3 h4 => exact .f h1 h2 (by rw [upd_ne (ne_of_none h3 n)]; exact h3) h4
theorem js_parC2 {i j : Nat} {x y : Str} {s : Ga → Res (Ga × List R)} {px py pt : Pos} {kt k2 pt2} (hc : X.calm = true) (hN : X.N.Nodup) (hi : X.N[i]? = some x) (hj : X.N[j]? = some y)
    (hx : Loc X.env.scope x) (hy : Loc X.env.scope y) (ha : JR X E [a, b] s) (fx : X.fn x = true ∨ X.env.scope.names.lookup x = some .local := by first | exact .inl rfl | exact .inr rfl) (fy : X.fn y = true ∨ X.env.scope.names.lookup y = some .local := by first | exact .inl rfl | exact .inr rfl)
    (hw : swappedStores [.Tuple [.Name x px, .Name y py] kt pt] (.Tuple [a, b] k2 pt2) X.env = pure none := by rfl)
    (hs : swapsWithSole [.Tuple [.Name x px, .Name y py] kt pt] (.Tuple [a, b] k2 pt2) pos.line X.env = pure false := by rfl) (h1 : (assignEach [.Tuple [.Name x px, .Name y py] kt pt] X.env).map (·.2) = [assign (.Tuple [.Name x px, .Name y py] kt pt) X.env] := by rfl) :
    JS X E (.Assign [.Tuple [.Name x px, .Name y py] kt pt] (.Tuple [a, b] k2 pt2) pos) (sPar2 i j s) := by
  obtain ⟨t, p, he⟩ := ha.ex
  refine ⟨_, ps_asg (pe_tup p) (pg_tup hc (pgs_cons (pg_name hN hi hx fx) (pgs_cons (pg_name hN hj hy fy) pgs_nil))) hs hw h1, fun B σ Γ H0 H Dn ok w => ?_⟩
  show t σ H fun xs H1 => xs.length ≤ sizeLine ∧ ∀ p, H1 p = none → gTup X.K 2 _ (.ref p) σ (upd H1 p (.tup xs)) Dn.nx
  refine r_then he wok_S ok w fun Γ1 rs vs H01 H1 w1 ok1 g1 l1 r1 => ?_
  split at w1
  · rename_i x y hxy
    have hxy : rs = [x, y] := hxy
    subst hxy
    cases r1 with
    | @cons _ v _ vs r1 r2 d1 =>
      cases r2 with
      | @cons _ u _ us r2 r3 d2 =>
        cases r3
        refine ⟨by show 2 ≤ sizeLine; unfold sizeLine; omega, fun p hp => ⟨p, [v, u], rfl, SqT.of upd_same, rfl, v, [u], rfl, u, [], rfl, rfl, ?_⟩⟩
        have ok2 := ok1.same (Grow.fresh (o := .tup [v, u]) hp) (Ex.upd1 ok1.sub (fresh_back ok1.sub hp))
        refine w1 _ H01 _ ?_ (Ex.refl _)
        have o1 := setR i ok2 ((r1.toB ok).up hp) fun xs a e1 e2 z => by
          subst e1 e2
          cases r1 with
          | f n _ _ _ => exact (ok.ownLive (l1.own z)).1 n
        refine setR j o1 ((r2.toB ok).up hp) fun xs a e1 e2 z => ?_
        subst e1 e2
        rcases own_set ok1.len z with z | ⟨ys, z1, z2⟩
        · cases r2 with
          | f n _ _ _ => exact (ok.ownLive (l1.own z)).1 n
        · exact d1 ys a z1 z2 0 xs rfl rfl
  · exact w1.elim
theorem js_parC3 {i j l : Nat} {x y z : Str} {s : Ga → Res (Ga × List R)} {px py pz pt : Pos} {kt k2 pt2} (hc : X.calm = true) (hN : X.N.Nodup) (hi : X.N[i]? = some x) (hj : X.N[j]? = some y) (hl : X.N[l]? = some z)
    (hx : Loc X.env.scope x) (hy : Loc X.env.scope y) (hz : Loc X.env.scope z) (ha : JR X E [a, b, c] s) (fx : X.fn x = true ∨ X.env.scope.names.lookup x = some .local := by first | exact .inl rfl | exact .inr rfl) (fy : X.fn y = true ∨ X.env.scope.names.lookup y = some .local := by first | exact .inl rfl | exact .inr rfl) (fz : X.fn z = true ∨ X.env.scope.names.lookup z = some .local := by first | exact .inl rfl | exact .inr rfl)
    (hw : swappedStores [.Tuple [.Name x px, .Name y py, .Name z pz] kt pt] (.Tuple [a, b, c] k2 pt2) X.env = pure none := by rfl)
    (hs : swapsWithSole [.Tuple [.Name x px, .Name y py, .Name z pz] kt pt] (.Tuple [a, b, c] k2 pt2) pos.line X.env = pure false := by rfl) (h1 : (assignEach [.Tuple [.Name x px, .Name y py, .Name z pz] kt pt] X.env).map (·.2) = [assign (.Tuple [.Name x px, .Name y py, .Name z pz] kt pt) X.env] := by rfl) :
    JS X E (.Assign [.Tuple [.Name x px, .Name y py, .Name z pz] kt pt] (.Tuple [a, b, c] k2 pt2) pos) (sPar3 i j l s) := by
  obtain ⟨t, p, he⟩ := ha.ex
  refine ⟨_, ps_asg (pe_tup p) (pg_tup hc (pgs_cons (pg_name hN hi hx fx) (pgs_cons (pg_name hN hj hy fy) (pgs_cons (pg_name hN hl hz fz) pgs_nil)))) hs hw h1, fun B σ Γ H0 H Dn ok w => ?_⟩
  show t σ H fun xs H1 => xs.length ≤ sizeLine ∧ ∀ p, H1 p = none → gTup X.K 3 _ (.ref p) σ (upd H1 p (.tup xs)) Dn.nx
  refine r_then he wok_S ok w fun Γ1 rs vs H01 H1 w1 ok1 g1 l1 r1 => ?_
  split at w1
  · rename_i x y z hxy
    have hxy : rs = [x, y, z] := hxy
    subst hxy
    cases r1 with
    | @cons _ v _ vs r1 r2 d1 =>
      cases r2 with
      | @cons _ u _ us r2 r3 d2 =>
        cases r3 with
        | @cons _ t' _ ts r3 r4 d3 =>
          cases r4
          refine ⟨by show 3 ≤ sizeLine; unfold sizeLine; omega, fun p hp => ⟨p, [v, u, t'], rfl, SqT.of upd_same, rfl, v, [u, t'], rfl, u, [t'], rfl, t', [], rfl, rfl, ?_⟩⟩
          have ok2 := ok1.same (Grow.fresh (o := .tup [v, u, t']) hp) (Ex.upd1 ok1.sub (fresh_back ok1.sub hp))
          refine w1 _ H01 _ ?_ (Ex.refl _)
          have o1 := setR i ok2 ((r1.toB ok).up hp) fun xs a e1 e2 z => by
            subst e1 e2
            cases r1 with
            | f n _ _ _ => exact (ok.ownLive (l1.own z)).1 n
          have o2 := setR j o1 ((r2.toB ok).up hp) fun xs a e1 e2 z => by
            subst e1 e2
            rcases own_set ok1.len z with z | ⟨ys, z1, z2⟩
            · cases r2 with
              | f n _ _ _ => exact (ok.ownLive (l1.own z)).1 n
            · exact d1 ys a z1 z2 0 xs rfl rfl
          refine setR l o2 ((r3.toB ok).up hp) fun xs a e1 e2 z => ?_
          subst e1 e2
          rcases own_set o1.len z with z | ⟨ys, z1, z2⟩
          · rcases own_set ok1.len z with z | ⟨ys, z1, z2⟩
            · cases r3 with
              | f n _ _ _ => exact (ok.ownLive (l1.own z)).1 n
            · exact d1 ys a z1 z2 1 xs rfl rfl
          · exact d2 ys a z1 z2 0 xs rfl rfl
  · exact w1.elim
end
end Mi
namespace Mi
open PySem PySem.Spec PyProof.Rows L2 Evl
variable [Tbl]
/-! ### match: [text, x, y] / [text, y] / _ -/
section
variable {X : Cx} {E : XK} {B : Bg} {σ : L2.St} {Γ : Ga} {e : Expr} {pos : Pos}
def sMatch (c1 c2 : Str) (i j l : Nat) (s : Ga → Res (Ga × D)) (b1 b2 b3 : Ga → Res (Ga × Fl)) : Ga → Res (Ga × Fl) := fun Γ => (s Γ).bind fun p => match p.2 with
  | .tuple [.str c, x, y] => if c = c1 then b1 ((p.1.set i (.d x)).set j (.d y)) else b3 p.1
  | .tuple [.str c, y] => if c = c2 then b2 (p.1.set l (.d y)) else b3 p.1
  | _ => .stuck
omit [Tbl] in
theorem match_text {x : Str} {u : Value} {pins : List (Addr × Obj)} {s : Shared} {H : Hp} {c : Str} {k : Nat} {p1 p2 : Pos} {Q : Option (List (Str × Value)) → Shared → Prop} (I : Inv X pins σ H s) (r : RelV (.str x) u)
    (h : ∀ s', Inv X pins σ H s' → (if x = c then Q (some []) s' else Q none s')) : wpAny (model X.prog X.w) X.A (matchPattern (.MatchValue (.Constant (.str c) k p1) p2) X.env u) Q X.xe s := by
  refine wpAny_matchPattern_Value (thn (pe_str.run pins s σ H (fun v H' => v = .str c ∧ H' = H) I ⟨rfl, rfl⟩) fun w s1 ⟨v, H1, I1, r1, ev, eh⟩ => ?_)
  subst ev eh
  refine thn (op_eq pins s1 σ H1 (.str x) (.str c) u w (fun v H' => v = .bl (decide (x = c)) ∧ H' = H1) I1 r r1 ?_) fun v s2 ⟨z, H2, I2, r2, ez, eh⟩ => ?_
  · exact ⟨rfl, congrArg V.bl (decide_eq_decide.mpr ⟨fun z => by cases z; rfl, fun z => by rw [z]⟩), rfl⟩
  · subst ez eh
    cases r2
    refine wpAny_truthy_bool ?_
    have := h s2 I2
    by_cases e : x = c
    · rw [if_pos e] at this
      rw [decide_eq_true e]
      exact this
    · rw [if_neg e] at this
      rw [decide_eq_false e]
      exact this

omit [Tbl] in
theorem match_rest {T : Type} {pins : List (Addr × Obj)} {s : Shared} {H : Hp} {ss : List Stmt} {p1 : Pos} {first : Bool} {u : Value} {t : TS} {D : Ends} (b : PSs X ss t) (I : Inv X pins σ H s) (h : t D σ H) :
    wpAny (model X.prog X.w) X.A (matchCases [⟨.MatchAs none none p1, none, ss⟩] X.env u first) (SP X pins D) X.xe s := by
  refine wpAny_matchCases_cons (wpAny_matchPattern_Capture ?_)
  exact wpAny_assignInOrder_none (b.run pins s σ H D I h)
theorem js_match {i j l : Nat} {c1 c2 x y z : Str} {k1 k2 : Nat} {p1 p2 p3 p4 p5 p6 p7 p8 p9 pA : Pos} {ss1 ss2 ss3 : List Stmt} {se : Ga → Res (Ga × D)} {b1 b2 b3 : Ga → Res (Ga × Fl)} (hc : X.calm = true) (hN : X.N.Nodup) (hi : X.N[i]? = some x) (hj : X.N[j]? = some y) (hl : X.N[l]? = some z) (hx : Loc X.env.scope x) (hy : Loc X.env.scope y) (hz : Loc X.env.scope z)
    (he : JD X E e se) (h1 : JSs X E ss1 b1) (h2 : JSs X E ss2 b2) (h3 : JSs X E ss3 b3)
    (fx : X.fn x = true ∨ X.env.scope.names.lookup x = some .local := by first | exact .inl rfl | exact .inr rfl) (fy : X.fn y = true ∨ X.env.scope.names.lookup y = some .local := by first | exact .inl rfl | exact .inr rfl) (fz : X.fn z = true ∨ X.env.scope.names.lookup z = some .local := by first | exact .inl rfl | exact .inr rfl) :
    JS X E (.Match e [⟨.MatchSequence [.MatchValue (.Constant (.str c1) k1 p1) p2, .MatchAs none (some x) p3, .MatchAs none (some y) p4] p5, none, ss1⟩, ⟨.MatchSequence [.MatchValue (.Constant (.str c2) k2 p6) p7, .MatchAs none (some z) p8] p9, none, ss2⟩, ⟨.MatchAs none none pA, none, ss3⟩] pos) (sMatch c1 c2 i j l se b1 b2 b3) := by
  obtain ⟨t, p, hse⟩ := he.ex
  obtain ⟨t1, q1, hb1⟩ := h1.ex
  obtain ⟨t2, q2, hb2⟩ := h2.ex
  obtain ⟨t3, q3, hb3⟩ := h3.ex
  refine ⟨fun D σ H => t σ H fun v H1 => (∃ a c vx vy, v = .ref a ∧ SqT X.K H1 a [.str c, vx, vy] ∧ (if c = c1 then t1 D ((σ.set i (some vx)).set j (some vy)) H1 else t3 D σ H1)) ∨ (∃ a c vy, v = .ref a ∧ SqT X.K H1 a [.str c, vy] ∧ (if c = c2 then t2 D (σ.set l (some vy)) H1 else t3 D σ H1)), ⟨fun pins s σ H D I h => ?_⟩, fun B σ Γ H0 H Dn ok w => ?_⟩
  · refine wpAny_Match (thn (p.run pins s σ H _ I h) fun u s1 ⟨v, H1, I1, r1, w1⟩ => ?_)
    rcases w1 with ⟨a, c, vx, vy, rfl, hq, w1⟩ | ⟨a, c, vy, rfl, hq, w1⟩
    · cases r1
      obtain ⟨its, rv, ht, _⟩ := I1.tuple hq
      cases rv with
      | @cons _ u0 _ us0 r0 rv =>
        cases rv with
        | @cons _ ux _ us1 rx rv =>
          cases rv with
          | @cons _ uy _ us2 ry rv =>
            cases rv
            refine wpAny_matchCases_cons (matchSeq_tuple_hit ht (by simp) rfl ?_)
            have I2 := I1.tok (s1.toks + 1 + 1)
            refine unpackItems_tuple (items := #[u0, ux, uy]) (I.ok.hd hc) ht fun h' hx' => ?_
            have I3 := I2.kept (h' := h') (t' := s1.toks + 1 + 1) fun b o e => hx' b o (Nat.ne_of_lt (Heap.lt_size e)) e
            refine wpAny_matchEach_cons (match_text I3 r0 fun s' I4 => ?_)
            by_cases e : c = c1
            · rw [if_pos e] at w1 ⊢
              refine wpAny_matchEach_cons (wpAny_matchPattern_Capture ?_)
              refine wpAny_matchEach_cons (wpAny_matchPattern_Capture (wpAny_matchEach_nil ?_))
              refine wpAny_assignInOrder_more (wpAny_bindName (store_ok I4 hN hi hx rx (fun s5 I5 => ?_) fx))
              refine wpAny_assignInOrder_more (wpAny_bindName (store_ok I5 hN hj hy ry (fun s6 I6 => wpAny_assignInOrder_none ?_) fy))
              exact q1.run pins s6 _ H1 D I6 w1
            · rw [if_neg e] at w1 ⊢
              have ht4 := I4.tuple hq
              obtain ⟨its4, rv4, ht4, _⟩ := ht4
              refine wpAny_matchCases_cons (matchSeq_tuple_miss ht4 (by have := rv4.length; simp at this ⊢; omega) (by have := rv4.length; simp at this ⊢; omega) ?_)
              exact match_rest (T := Nat) q3 (I4.tok _) w1
    · cases r1
      obtain ⟨its, rv, ht, _⟩ := I1.tuple hq
      cases rv with
      | @cons _ u0 _ us0 r0 rv =>
        cases rv with
        | @cons _ uy _ us1 ry rv =>
          cases rv
          refine wpAny_matchCases_cons (matchSeq_tuple_miss ht (by simp) (by simp) ?_)
          have I2 := I1.tok (s1.toks + 1 + 1)
          have ht2 : PyProof.Rows.IsTup ({ s1 with toks := s1.toks + 1 + 1 } : Shared).heap a #[u0, uy] := ht
          refine wpAny_matchCases_cons (matchSeq_tuple_hit ht2 (by simp) rfl ?_)
          have I2' := I2.tok (s1.toks + 1 + 1 + 1 + 1)
          refine unpackItems_tuple (items := #[u0, uy]) (I.ok.hd hc) ht fun h' hx' => ?_
          have I3 := I2'.kept (h' := h') (t' := s1.toks + 1 + 1 + 1 + 1) fun b o e => hx' b o (Nat.ne_of_lt (Heap.lt_size e)) e
          refine wpAny_matchEach_cons (match_text I3 r0 fun s' I4 => ?_)
          by_cases e : c = c2
          · rw [if_pos e] at w1 ⊢
            refine wpAny_matchEach_cons (wpAny_matchPattern_Capture (wpAny_matchEach_nil ?_))
            refine wpAny_assignInOrder_more (wpAny_bindName (store_ok I4 hN hl hz ry (fun s6 I6 => wpAny_assignInOrder_none ?_) fz))
            exact q2.run pins s6 _ H1 D I6 w1
          · rw [if_neg e] at w1 ⊢
            exact match_rest (T := Nat) q3 I4 w1
  · show t σ H fun v H1 => _
    refine d_then hse wok_S ok w fun Γ1 x v H01 H1 w1 ok1 g1 l1 r1 => ?_
    split at w1
    · rename_i c dx dy hxx
      have hxx : x = .tuple [.str c, dx, dy] := hxx
      subst hxx
      cases r1 with
      | tup hq ra =>
        cases ra with
        | cons r0 ra =>
          cases ra with
          | cons rx ra =>
            cases ra with
            | cons ry ra =>
              cases ra
              cases r0
              refine .inl ⟨_, c, _, _, rfl, ex_t ok1.sub hq, ?_⟩
              split at w1
              · rename_i e
                rw [if_pos e]
                exact hb1 B _ _ H01 H1 Dn ((ok1.setD i rx).setD j ry) w1
              · rename_i e
                rw [if_neg e]
                exact hb3 B σ Γ1 H01 H1 Dn ok1 w1
    · rename_i c dy hxx
      have hxx : x = .tuple [.str c, dy] := hxx
      subst hxx
      cases r1 with
      | tup hq ra =>
        cases ra with
        | cons r0 ra =>
          cases ra with
          | cons ry ra =>
            cases ra
            cases r0
            refine .inr ⟨_, c, _, rfl, ex_t ok1.sub hq, ?_⟩
            split at w1
            · rename_i e
              rw [if_pos e]
              exact hb2 B _ _ H01 H1 Dn (ok1.setD l ry) w1
            · rename_i e
              rw [if_neg e]
              exact hb3 B σ Γ1 H01 H1 Dn ok1 w1
    · exact w1.elim
end
end Mi
namespace Mi
open PySem PySem.Spec PyProof.Rows L2 Evl
variable [Tbl]
section
variable {X : Cx} {E : XK} {e : Expr} {pos : Pos}
/-! ### isinstance(x, (S, T)) -/
def isiG2 (S T : String) : D → Res R := fun x => match tyD x with | some t => .ok (.d (.bool (isiB t S || isiB t T))) | none => .stuck
theorem je_isi2 {x : Str} {p q1 q2 tp : Pos} {S T : String} {y z : Str} {kk : Nat} {s : Ga → Res (Ga × D)} (hS : S ∈ ["bool", "int", "str", "list", "tuple"]) (hT : T ∈ ["bool", "int", "str", "list", "tuple"]) (hg : Gl X x) (hm : X.mg x = none) (hv : bootBuiltins x = some (.builtin "isinstance")) (hg1 : Gl X y) (hm1 : X.mg y = none) (hv1 : bootBuiltins y = some (.type S)) (hg2 : Gl X z) (hm2 : X.mg z = none) (hv2 : bootBuiltins z = some (.type T))
    (h : JB X E e s) (hn : x ≠ "__name__" := by decide) (hdb : (x == ("__debug__" : Str)) = false := by decide) (hn1 : y ≠ "__name__" := by decide) (hdb1 : (y == ("__debug__" : Str)) = false := by decide) (hn2 : z ≠ "__name__" := by decide) (hdb2 : (z == ("__debug__" : Str)) = false := by decide)
    (hs : starEach (e :: [.Tuple [.Name y q1, .Name z q2] kk tp]) X.env = (false, eval e X.env) :: starEach [.Tuple [.Name y q1, .Name z q2] kk tp] X.env := by rfl)
    (hs2 : starEach (Expr.Tuple [.Name y q1, .Name z q2] kk tp :: []) X.env = (false, eval (.Tuple [.Name y q1, .Name z q2] kk tp) X.env) :: starEach [] X.env := by rfl)
    (hs3 : starEach (Expr.Name y q1 :: [.Name z q2]) X.env = (false, eval (.Name y q1) X.env) :: starEach [.Name z q2] X.env := by rfl) (hs4 : starEach (Expr.Name z q2 :: []) X.env = (false, eval (.Name z q2) X.env) :: starEach [] X.env := by rfl)
    (hpl : (backTo pos (starEach [.Tuple [.Name y q1, .Name z q2] kk tp] X.env)).any (·.1) = false := by rfl) :
    JE X E (.Call (.Name x p) [e, .Tuple [.Name y q1, .Name z q2] kk tp] [] pos) (sUn (isiG2 S T) s) := by
  obtain ⟨t, pp, ha⟩ := h.ex
  refine ⟨_, pe_callB call_isiT hg hm hv (pa_cons pp (pa_cons (pe_tup (pa_cons (pe_bltn (v := .ty S) hg1 hm1 hv1 rfl hn1 hdb1) (pa_cons (pe_bltn (v := .ty T) hg2 hm2 hv2 rfl hn2 hdb2) pa_nil hs4) hs3)) pa_nil hs2) hs) hn hdb hs hpl, fun B σ Γ H0 H Q ok w => ?_⟩
  show t σ H fun x H1 => 2 ≤ sizeLine ∧ ∀ p, H1 p = none → rIsiT X.K [x, .ref p] (upd H1 p (.tup [.ty S, .ty T])) Q
  refine b_then ha wok_E ok w fun Γ1 x v H01 H1 w1 ok1 g1 l1 r1 => ⟨by unfold sizeLine; omega, fun a hp => ?_⟩
  unfold isiG2 at w1
  split at w1
  · rename_i t' ht
    have ok2 := ok1.same (Grow.fresh (o := .tup [.ty S, .ty T]) hp) (Ex.upd1 ok1.sub (fresh_back ok1.sub hp))
    have r2 : RpB X.K H01 (upd H1 a (.tup [.ty S, .ty T])) v x := by
      rcases r1 with r | ⟨b, vs, xs, e1, e2, e3, r⟩
      · exact .inl r
      · exact .inr ⟨b, vs, xs, e1, e2, by rw [upd_ne (ne_of_none e3 hp)]; exact e3, r⟩
    obtain ⟨h1, h2⟩ := tyD_ok ok2.sub r2 ht
    refine ⟨v, a, [.ty S, .ty T], _, [.type S, .type T], isiB t' S || isiB t' T, rfl, upd_same, .cons (.ty S) (.cons (.ty T) .nil), h1, ?_, ?_⟩
    · show PySem.W.kitAny X.K (.type t') [.type S, .type T] = _
      have k1 := kit_ty (K := X.K) (kit_all _ h2 _ hS)
      have k2 := kit_ty (K := X.K) (kit_all _ h2 _ hT)
      unfold PySem.W.kitAny
      rw [k1]
      cases isiB t' S with
      | true => rfl
      | false =>
        unfold PySem.W.kitAny
        rw [k2]
        cases isiB t' T <;> rfl
    · exact w1 _ H01 _ ok2 (Grow.fresh hp) (Less.refl _) (.d (.bl _))
  · exact w1.elim
end
end Mi
namespace Mi
open PySem PySem.Spec PyProof.Rows L2 Evl
variable [Tbl]
section
variable {X : Cx} {E : XK} {e : Expr} {pos : Pos}
/-! ### sorted of a list of data -/
def leP (a b : V × D) : Bool := PySem.W.dataLe false Prod.snd a b
def sortP (ds : List D) : Prop := PySem.W.AllAlike ds ∧ PySem.W.Sortable ds ∧ (∀ d ∈ ds, d.depth ≤ 60) ∧ ds.length ≤ sizeLine
noncomputable def sortedG : D → Res R
  | .list ds => if okB (sortP ds) = true then .ok (.f (ds.mergeSort fun a b => PySem.W.dataLe false id a b)) else .stuck
  | _ => .stuck
omit [Tbl] in
theorem each_zip {H : Hp} {pins : List (Addr × Obj)} {σ : L2.St} {s : Shared} (I : Inv X pins σ H s) : ∀ {vs : List V} {ds : List D} {us : List Value}, DpAll X.K H vs ds → Vals vs us → PySem.W.EachIs (fun u (b : V × D) => RelV b.1 u) us (vs.zip ds) ∧ PySem.W.EachIs (fun u (b : V × D) => ∃ as, Reads s.heap u b.2 as) us (vs.zip ds)
  | _, _, _, .nil, .nil => ⟨.nil, .nil⟩
  | _, _, _, .cons d r, .cons v t => by
    obtain ⟨h1, h2⟩ := each_zip I r t
    exact ⟨.cons v h1, .cons (Dp.reads I _ _ _ d v) h2⟩
omit [Tbl] in
theorem each_vals : ∀ {us : List Value} {bs : List (V × D)}, PySem.W.EachIs (fun u (b : V × D) => RelV b.1 u) us bs → Vals (bs.map Prod.fst) us
  | _, _, .nil => .nil
  | _, _, .cons h t => .cons h (each_vals t)
omit [Tbl] in
theorem dpAll_len {K : PySem.W.Frag} {H : Hp} : ∀ {vs : List V} {ds : List D}, DpAll K H vs ds → vs.length = ds.length
  | _, _, .nil => rfl
  | _, _, .cons _ t => by simp [dpAll_len t]
omit [Tbl] in
theorem zip_snd {vs : List V} {ds : List D} (h : vs.length = ds.length) : (vs.zip ds).map Prod.snd = ds := List.map_snd_zip (by omega)
omit [Tbl] in
theorem RpAll.ofZip {K : PySem.W.Frag} {H : Hp} : ∀ {vs : List V} {ds : List D}, RpAll K H vs ds → ∀ b ∈ vs.zip ds, Rp K H b.1 b.2
  | _, _, .nil, b, h => by cases h
  | _, _, .cons r t, b, h => by
    rcases List.mem_cons.mp h with rfl | h
    · exact r
    · exact ofZip t b h
omit [Tbl] in
theorem rp_of_pairs {K : PySem.W.Frag} {H : Hp} : ∀ bs : List (V × D), (∀ b ∈ bs, Rp K H b.1 b.2) → RpAll K H (bs.map Prod.fst) (bs.map Prod.snd)
  | [], _ => .nil
  | b :: bs, h => .cons (h b List.mem_cons_self) (rp_of_pairs bs fun c hc => h c (List.mem_cons_of_mem _ hc))
theorem cd_sorted (hu : X.A.units + 64 < cLine) : CallD1 X E (.builtin "sorted") sortedG := by
  refine ⟨fun xs H Q => ∃ a vs ds, xs = [.ref a] ∧ SqL X.K H a vs ∧ DpAll X.K H vs ds ∧ sortP ds ∧ ∀ p, H p = none → Q (.ref p) (upd H p (.lst (((vs.zip ds).mergeSort leP).map Prod.fst))), ?_, fun B σ Γ H0 H Q v x ok rx w => ?_⟩
  · intro pins s σ H xs us Q I r h
    obtain ⟨a, vs, ds, rfl, hs, hd, ⟨h1, h2, h3, h4⟩, q⟩ := h
    obtain ⟨its, rv, hl, _⟩ := I.list hs
    rw [Vals.ref1 r]
    obtain ⟨z1, z2⟩ := each_zip I hd rv
    have hlen := dpAll_len hd
    have em : (vs.zip ds).map Prod.snd = ds := zip_snd hlen
    have ezl : (vs.zip ds).length = ds.length := by rw [List.length_zip, hlen, Nat.min_self]
    refine PySem.W.sorted_data (enc := Prod.snd) hl.isList z1 z2 (by rw [em]; exact h1) (by rw [em]; exact h2) (by rw [ezl]; exact h4) (fun b hb => ?_) fun out ho he => ?_
    · have : b.2 ∈ ds := by rw [← em]; exact List.mem_map_of_mem hb
      have := h3 _ this
      omega
    · obtain ⟨ep, he'⟩ := PyProof.Rows.sortedAll_at s.heap its (List.toArray out)
      have hv := each_vals he
      refine ⟨.ref _, upd H (s.heap.objs.size + 1) (.lst (((vs.zip ds).mergeSort leP).map Prod.fst)), I.laid (t' := s.toks) (fun _ _ => PyProof.Rows.sortedAll_old) (Nat.le_succ _) ⟨?_, out, ep, hv, he'⟩, rfl, q _ (I.hok.fresh (Nat.le_succ _))⟩
      rw [List.length_map, List.length_mergeSort, ezl]
      exact h4
  · unfold sortedG at w
    split at w
    · split at w
      · rename_i ds hz
        have hz := okB_iff.mp hz
        obtain ⟨p, vs, rfl, h1, r1⟩ := rx.lst ok.sub
        refine ⟨p, vs, ds, rfl, SqL.of h1, (r1.m ok.sub).dp, hz, fun p hp => ?_⟩
        refine opd_lst ok w ?_ hp
        have em : (vs.zip ds).map Prod.snd = ds := zip_snd (dpAll_len r1.dp)
        have es : ((vs.zip ds).mergeSort leP).map Prod.snd = ds.mergeSort fun a b => PySem.W.dataLe false id a b := by
          have hm := List.map_mergeSort (r := leP) (s := fun a b => PySem.W.dataLe false id a b) (f := Prod.snd) (l := vs.zip ds) (fun a _ b _ => rfl)
          rw [hm, em]
        rw [← es]
        exact rp_of_pairs _ fun b hb => r1.ofZip b (List.mem_mergeSort.mp hb)
      · exact w.elim
    · exact w.elim
end
end Mi
namespace Mi
open PySem PySem.Spec PyProof.Rows L2 Evl PySem.W
variable [Tbl]
section
variable {prog : Program} {w : World} {A : Around} {E : Value → Shared → Prop} {s : Shared} {β : Type} {R : Value → β → Prop} {enc : β → PyData} {bs : List β} {vs : List Value}
omit [Tbl] in
/-- sorted(t), t a tuple of data -/
theorem sorted_tup {t : Addr} {o : Obj} {n : Nat} {Q : Value → Shared → Prop} (ho : s.heap.get? t = some o) (hc : o.cls = .type "tuple") (hd : o.data = .seq vs.toArray n) (e : EachIs R vs bs) (er : EachIs (fun v b => ∃ as, Reads s.heap v (enc b) as) vs bs) (hal : AllAlike (bs.map enc)) (hk : Sortable (bs.map enc)) (hL : bs.length ≤ sizeLine)
    (hu : ∀ b, b ∈ bs → A.units + 2 + (enc b).depth < cLine) (h : ∀ (h1 : Heap) (p : Addr) (out : List Value) (k : Nat) (h' : Heap), (∀ b o, s.heap.get? b = some o → h1.get? b = some o) → h1.objs.size ≤ p → (∀ b o, h1.get? b = some o → h'.get? b = some o) → h'.get? p = some { cls := .type "list", data := .seq (List.toArray out) k } → EachIs R out (bs.mergeSort (dataLe false enc)) → Q (.ref p) { s with heap := h' }) :
    wpAny (model prog w) A (call (.builtin "sorted") [.ref t]) Q E s := by
  have hvs : vs.length ≤ sizeLine := by rw [e.length]; exact hL
  refine PySem.Calls.call_function_entry kind_sorted plain_sorted entry_sorted (args_sorted1 _) ?_
  unfold Builtin.«sorted»
  refine wpAny_bind (m := checkCount "sorted" 1 1 _) (wpAny_pure ?_)
  refine wpAny_bind (wpAny_collect_seq t (.inr rfl) ho hc hd (fun h1 k1 => ?_) (by rw [List.size_toArray]; exact hvs))
  have el : vs.toArray.toList = vs := by simp
  rw [el]
  refine wpAny_bind (wpAny_newList ?_ hvs)
  have hat : (h1.push { cls := .type "list", data := .seq vs.toArray }).get? h1.objs.size = some (seqObj "list" vs.toArray 0) := Heap.get?_push_size _ rfl
  have old : ∀ b o, s.heap.get? b = some o → (sortingHeap (h1.push { cls := .type "list", data := .seq vs.toArray }) h1.objs.size vs).get? b = some o := fun b o q => sortingHeap_old (Nat.ne_of_lt (Heap.lt_size (k1 b o q))) (Heap.get?_push_of_some _ (k1 b o q))
  have er' : EachIs (fun v b => ∃ as, Reads (sortingHeap (h1.push { cls := .type "list", data := .seq vs.toArray }) h1.objs.size vs) v (enc b) as) vs bs := er.mono fun _ _ ⟨as, r⟩ => ⟨as, PyProof.Rows.Reads.keeps old r⟩
  refine wpAny_bind (wpAny_holding (wpAny_call_entry slot_list_sort ⟨_, hat, rfl⟩ entry_list_sort (list_sort_vals (s := { s with heap := h1.push { cls := .type "list", data := .seq vs.toArray } }) (κ := dataKind (sortingHeap (h1.push { cls := .type "list", data := .seq vs.toArray }) h1.objs.size vs) (bs.map enc)) hat
    (SortsAt.data (s := { s with heap := sortingHeap (h1.push { cls := .type "list", data := .seq vs.toArray }) h1.objs.size vs }) (each_map (R := fun v d => ∃ as, Reads (sortingHeap (h1.push { cls := .type "list", data := .seq vs.toArray }) h1.objs.size vs) v d as) enc er') hal hk (bound_map hu)) hvs ⟨.none, rfl, ?_⟩) (args_list_sort _)))
  refine wpAny_pure ⟨_, rfl, ?_⟩
  have hout := sortVals_data (R := R) false e er' hal
  obtain ⟨k, hk'⟩ := sortedHeap_at (out := (sortVals (dataKind (sortingHeap (h1.push { cls := .type "list", data := .seq vs.toArray }) h1.objs.size vs) (bs.map enc)) false vs vs).toArray) hat
  refine h h1 _ _ k _ k1 (Nat.le_refl _) (fun b o q => ?_) hk' hout
  rw [sortedHeap_old (Nat.ne_of_lt (Heap.lt_size q)) (by rw [Heap.size_push]; exact Nat.lt_succ_of_lt (Heap.lt_size q))]
  exact Heap.get?_push_of_some _ q
end
section
variable {X : Cx} {E : XK}
noncomputable def sortedA : D → Res R
  | .list ds => if okB (sortP ds) = true then .ok (.f (ds.mergeSort fun a b => PySem.W.dataLe false id a b)) else .stuck
  | .tuple ds => if okB (sortP ds) = true then .ok (.f (ds.mergeSort fun a b => PySem.W.dataLe false id a b)) else .stuck
  | _ => .stuck
omit [Tbl] in
theorem sorted_rp {K : PySem.W.Frag} {H : Hp} {vs : List V} {ds : List D} (r1 : RpAll K H vs ds) : RpAll K H (((vs.zip ds).mergeSort leP).map Prod.fst) (ds.mergeSort fun a b => PySem.W.dataLe false id a b) := by
  have em : (vs.zip ds).map Prod.snd = ds := zip_snd (dpAll_len r1.dp)
  have hm := List.map_mergeSort (r := leP) (s := fun a b => PySem.W.dataLe false id a b) (f := Prod.snd) (l := vs.zip ds) (fun a _ b _ => rfl)
  rw [em] at hm
  rw [← hm]
  exact rp_of_pairs _ fun b hb => r1.ofZip b (List.mem_mergeSort.mp hb)
theorem cd_sortedA (hu : X.A.units + 64 < cLine) : CallD1 X E (.builtin "sorted") sortedA := by
  refine ⟨fun xs H Q => ∃ a vs ds, xs = [.ref a] ∧ (SqL X.K H a vs ∨ SqT X.K H a vs) ∧ DpAll X.K H vs ds ∧ sortP ds ∧ ∀ p, H p = none → Q (.ref p) (upd H p (.lst (((vs.zip ds).mergeSort leP).map Prod.fst))), ?_, fun B σ Γ H0 H Q v x ok rx w => ?_⟩
  · intro pins s σ H xs us Q I r h
    obtain ⟨a, vs, ds, rfl, hs, hd, ⟨h1, h2, h3, h4⟩, q⟩ := h
    have hlen := dpAll_len hd
    have em : (vs.zip ds).map Prod.snd = ds := zip_snd hlen
    have ezl : (vs.zip ds).length = ds.length := by rw [List.length_zip, hlen, Nat.min_self]
    have hdep : ∀ b, b ∈ vs.zip ds → X.A.units + 2 + b.2.depth < cLine := fun b hb => by
      have : b.2 ∈ ds := by rw [← em]; exact List.mem_map_of_mem hb
      have := h3 _ this
      omega
    have hl2 : (((vs.zip ds).mergeSort leP).map Prod.fst).length ≤ sizeLine := by
      rw [List.length_map, List.length_mergeSort, ezl]
      exact h4
    rcases hs with hs | hs
    · obtain ⟨its, rv, hl, _⟩ := I.list hs
      rw [Vals.ref1 r]
      obtain ⟨z1, z2⟩ := each_zip I hd rv
      refine PySem.W.sorted_data (enc := Prod.snd) hl.isList z1 z2 (by rw [em]; exact h1) (by rw [em]; exact h2) (by rw [ezl]; exact h4) hdep fun out ho he => ?_
      obtain ⟨ep, he'⟩ := PyProof.Rows.sortedAll_at s.heap its (List.toArray out)
      exact ⟨.ref _, upd H (s.heap.objs.size + 1) (.lst (((vs.zip ds).mergeSort leP).map Prod.fst)), I.laid (t' := s.toks) (fun _ _ => PyProof.Rows.sortedAll_old) (Nat.le_succ _) ⟨hl2, out, ep, each_vals he, he'⟩, rfl, q _ (I.hok.fresh (Nat.le_succ _))⟩
    · obtain ⟨its, rv, ht, _⟩ := I.tuple hs
      rw [Vals.ref1 r]
      obtain ⟨z1, z2⟩ := each_zip I hd rv
      obtain ⟨o, e1, e2, n, e3⟩ := ht
      refine sorted_tup (enc := Prod.snd) e1 e2 e3 z1 z2 (by rw [em]; exact h1) (by rw [em]; exact h2) (by rw [ezl]; exact h4) hdep fun hh p out k h' k1 le k2 e4 he => ?_
      have I1 : Inv X pins σ H { s with heap := hh } := I.kept (t' := s.toks) k1
      exact ⟨.ref p, upd H p (.lst (((vs.zip ds).mergeSort leP).map Prod.fst)), I1.laid (t' := s.toks) k2 le ⟨hl2, out, k, each_vals he, e4⟩, rfl, q _ (I1.hok.fresh le)⟩
  · unfold sortedA at w
    split at w
    · split at w
      · rename_i ds hz
        obtain ⟨p, vs, rfl, h1, r1⟩ := rx.lst ok.sub
        exact ⟨p, vs, ds, rfl, .inl (SqL.of h1), (r1.m ok.sub).dp, okB_iff.mp hz, fun p hp => opd_lst ok w (sorted_rp r1) hp⟩
      · exact w.elim
    · split at w
      · rename_i ds hz
        obtain ⟨p, vs, rfl, h1, r1⟩ := rx.tup ok.sub
        exact ⟨p, vs, ds, rfl, .inr h1, (r1.m ok.sub).dp, okB_iff.mp hz, fun p hp => opd_lst ok w (sorted_rp r1) hp⟩
      · exact w.elim
    · exact w.elim
end
end Mi
namespace Mi
open PySem PySem.Spec PyProof.Rows L2 Evl
variable [Tbl]
section
variable {X : Cx} {E : XK}
/-! ### repr of data -/
def reprP (d : D) : Prop := d.showable = true ∧ d.hasDict = false ∧ d.depth ≤ 40 ∧ d.shown.length ≤ sizeLine
noncomputable def reprG (d : D) : Res R := if okB (reprP d) = true then .ok (.d (.str d.shown)) else .stuck
theorem cd_repr (hu : X.A.units + 64 < cLine) (hq : X.A.guards = some []) : CallD1 X E (.builtin "repr") reprG := by
  refine ⟨fun xs H Q => ∃ v d, xs = [v] ∧ Dp X.K H v d ∧ reprP d ∧ Q (.str d.shown) H, ?_, fun B σ Γ H0 H Q v x ok rx w => ?_⟩
  · intro pins s σ H xs us Q I r h
    obtain ⟨v, d, rfl, hd, ⟨h1, h2, h3, h4⟩, q⟩ := h
    obtain ⟨u, rfl, ru⟩ := vals1 r
    have fin : ∀ (h' : Heap) (t : Tok) (tk : Nat), (∀ b o, s.heap.get? b = some o → h'.get? b = some o) → EP X pins σ Q (.str d.shown t) { s with heap := h', toks := tk } := fun h' t tk k => ⟨.str d.shown, H, I.kept (t' := tk) k, ⟨t, rfl⟩, q⟩
    cases hd with
    | non =>
      cases ru
      exact PySem.P.repr_of_none (fin s.heap _ _ fun _ _ e => e)
    | bl b =>
      cases ru
      refine PySem.P.repr_of_bool ?_
      cases b
      · exact fin s.heap _ _ fun _ _ e => e
      · exact fin s.heap _ _ fun _ _ e => e
    | int i =>
      obtain ⟨t, rfl⟩ := ru
      refine PySem.P.repr_of_int (by simpa [PyData.showable] using h1) ?_
      exact fin s.heap _ _ fun _ _ e => e
    | str z =>
      obtain ⟨t, rfl⟩ := ru
      refine PySem.P.repr_of_str ?_ h4
      exact fin s.heap _ _ fun _ _ e => e
    | lst hs ha =>
      cases ru
      obtain ⟨as, rd⟩ := Dp.reads I _ _ _ (.lst hs ha) rfl
      exact PySem.repr_of_reads' rd h1 (fun z => by rw [h2] at z; cases z) hq (by omega) (fun _ _ e => e) (fun h' t tk k => fin h' t tk k) h4
    | tup hs ha =>
      cases ru
      obtain ⟨as, rd⟩ := Dp.reads I _ _ _ (.tup hs ha) rfl
      exact PySem.repr_of_reads' rd h1 (fun z => by rw [h2] at z; cases z) hq (by omega) (fun _ _ e => e) (fun h' t tk k => fin h' t tk k) h4
  · unfold reprG at w
    split at w
    · rename_i hz
      exact ⟨v, x, rfl, rx.dp ok.sub, okB_iff.mp hz, opd_d ok w (.str _)⟩
    · exact w.elim
end
end Mi
namespace Mi
open PySem PySem.Spec PyProof.Rows L2 Evl
variable [Tbl]
/-! ### data of the module by name -/
def GDat (K : PySem.W.Frag) (mg : Str → Option Value) (x : Str) (d : D) : Prop := ∃ u v, mg x = some u ∧ RelV v u ∧ ∀ H, Rp K H v d
section
variable {X : Cx} {E : XK} {x : Str} {p : Pos}
theorem jd_gdat {d : D} (hg : Gl X x) (hm : GDat X.K X.mg x d) (hd : (x == ("__debug__" : Str)) = false := by decide) : JD X E (.Name x p) (sC d) := by
  obtain ⟨u, v, h1, h2, h3⟩ := hm
  exact ⟨_, pe_glob hg h1 h2 hd, fun B σ Γ H0 H Q ok w => w v H0 H ok (Grow.refl _ _ _) (Less.refl _) (h3 _)⟩
end
omit [Tbl] in
/-- ((), 0, ()) -/
theorem gdat_identity {K : PySem.W.Frag} {mg : Str → Option Value} {x : Str} {a b c : Addr} {t : Tok} {oa ob oc : Option Addr} {na nb nc : Nat} {sa sb sc : Array (Option Value)} (hm : mg x = some (.ref a)) (h1 : K.lookup a = some ⟨.type "tuple", oa, .seq #[.ref b, .int 0 t, .ref c] na, sa⟩)
    (h2 : K.lookup b = some ⟨.type "tuple", ob, .seq #[] nb, sb⟩) (h3 : K.lookup c = some ⟨.type "tuple", oc, .seq #[] nc, sc⟩) : GDat K mg x (.tuple [.tuple [], .int 0, .tuple []]) := by
  refine ⟨.ref a, .ref a, hm, rfl, fun H => .tup (xs := [.ref b, .int 0, .ref c]) (.inr ⟨_, _, _, h1, rfl, rfl, by show 3 ≤ sizeLine; unfold sizeLine; omega, .cons rfl (.cons ⟨t, rfl⟩ (.cons rfl .nil))⟩) (.cons ?_ (.cons (.int 0) (.one ?_)))⟩
  · exact .tup (xs := []) (.inr ⟨_, _, _, h2, rfl, rfl, Nat.zero_le _, .nil⟩) .nil
  · exact .tup (xs := []) (.inr ⟨_, _, _, h3, rfl, rfl, Nat.zero_le _, .nil⟩) .nil
end Mi
namespace Mi
open PySem L2 Evl
variable [Tbl]
section
variable {X : Cx} {E : XK}
def flatD : D → Bool
  | .none => true
  | .bool _ => true
  | .int _ => true
  | .str _ => true
  | _ => false
omit [Tbl] in
theorem flat_v {K : PySem.W.Frag} {H0 H : Hp} {v : V} {x : D} (r : RpB K H0 H v x) (h : flatD x = true) : flatV v = true := by
  cases x with
  | none => rw [r.non]; rfl
  | bool b => rw [r.bl]; rfl
  | int i => rw [r.int]; rfl
  | str s => rw [r.str]; rfl
  | list _ => cases h
  | tuple _ => cases h
  | dict _ => cases h
omit [Tbl] in
theorem eq_flat {K : PySem.W.Frag} {H0 H : Hp} {v u : V} {x y : D} (rx : RpB K H0 H v x) (ry : RpB K H0 H u y) (hx : flatD x = true) (hy : flatD y = true) : eqV v u = PyData.eqv x y := by
  cases x with
  | none =>
    rw [rx.non]
    cases y with
    | none => rw [ry.non]; rfl
    | bool b => rw [ry.bl]; rfl
    | int i => rw [ry.int]; rfl
    | str s => rw [ry.str]; rfl
    | _ => cases hy
  | bool b =>
    rw [rx.bl]
    cases y with
    | none => rw [ry.non]; rfl
    | bool b => rw [ry.bl]; rfl
    | int i => rw [ry.int]; rfl
    | str s => rw [ry.str]; rfl
    | _ => cases hy
  | int i =>
    rw [rx.int]
    cases y with
    | none => rw [ry.non]; rfl
    | bool b => rw [ry.bl]; rfl
    | int i => rw [ry.int]; rfl
    | str s => rw [ry.str]; rfl
    | _ => cases hy
  | str s =>
    rw [rx.str]
    cases y with
    | none => rw [ry.non]; rfl
    | bool b => rw [ry.bl]; rfl
    | int i => rw [ry.int]; rfl
    | str s => rw [ry.str]; rfl
    | _ => cases hy
  | _ => cases hx
omit [Tbl] in
theorem all_flat {K : PySem.W.Frag} {H0 H : Hp} {v : V} {x : D} (rx : RpB K H0 H v x) (hx : flatD x = true) : ∀ {ys : List D} {us : List V}, RpAll K H0 us ys → ys.all flatD = true → us.all flatV = true ∧ inV v us = ys.any fun z => PyData.eqv z x
  | [], _, r, _ => by cases r; exact ⟨rfl, rfl⟩
  | y :: ys, _, r, h => by
    cases r with
    | cons r1 r2 =>
      rw [List.all_cons, Bool.and_eq_true] at h
      obtain ⟨h1, h2⟩ := all_flat rx hx r2 h.2
      have e := eq_flat (H := H) (.inl r1) rx h.1 hx
      refine ⟨by rw [List.all_cons, flat_v (H := H) (.inl r1) h.1, h1]; rfl, ?_⟩
      have h3 : (List.any _ fun y => eqV y v) = _ := h2
      show (eqV _ v || List.any _ fun y => eqV y v) = _
      rw [List.any_cons, e, h3]
def inG : D → D → Res R
  | x, .list ys => if (SeqAt.shaped x && SeqAt.shaped (.list ys)) = true then .ok (.d (.bool (ys.any fun z => PyData.eqv z x))) else .stuck
  | x, .tuple ys => if (flatD x && ys.all flatD) = true then .ok (.d (.bool (ys.any fun z => PyData.eqv z x))) else .stuck
  | .str s, .str z => match s.cps.toList with | [c] => .ok (.d (.bool (decide (c ∈ z.cps.toList)))) | _ => .stuck
  | _, _ => .stuck
def notinG : D → D → Res R
  | x, .list ys => if (SeqAt.shaped x && SeqAt.shaped (.list ys)) = true then .ok (.d (.bool (!ys.any fun z => PyData.eqv z x))) else .stuck
  | x, .tuple ys => if (flatD x && ys.all flatD) = true then .ok (.d (.bool (!ys.any fun z => PyData.eqv z x))) else .stuck
  | .str s, .str z => match s.cps.toList with | [c] => .ok (.d (.bool (!decide (c ∈ z.cps.toList)))) | _ => .stuck
  | _, _ => .stuck
omit [Tbl] in
theorem one_sign {s : Str} {c : Nat} (h : s.cps.toList = [c]) : s = ⟨#[c]⟩ := by
  obtain ⟨⟨l⟩⟩ := s
  have h : l = [c] := h
  rw [h]
omit [Tbl] in
theorem OpR.or {f : Value → Value → Sem Value} {r r' : R2} (a : OpR X f r) (b : OpR X f r') : OpR X f fun x y H Q => r x y H Q ∨ r' x y H Q := by
  intro pins s σ H x y v u Q I rx ry h
  rcases h with h | h
  · exact a pins s σ H x y v u Q I rx ry h
  · exact b pins s σ H x y v u Q I rx ry h
theorem opd_in (hu : X.A.units + 65 < cLine) : OpD X E (compareOp .In) inG := by
  refine ⟨_, OpR.or (op_inD hu) (OpR.or op_in_seq op_in_sign), fun B σ Γ H0 H Q v u x y ok rx ry w => ?_⟩
  unfold inG at w
  split at w
  · split at w
    · rename_i hz
      rw [Bool.and_eq_true] at hz
      exact .inl ⟨x, _, rx.dp ok.sub, ry.dp ok.sub, hz.1, hz.2, opd_d ok w (.bl _)⟩
    · exact w.elim
  · split at w
    · rename_i hz
      rw [Bool.and_eq_true] at hz
      obtain ⟨a, vs, rfl, h1, h2⟩ := ry.tup ok.sub
      obtain ⟨h3, h4⟩ := all_flat rx hz.1 h2 hz.2
      refine .inr (.inl ⟨a, vs, rfl, .inr h1, flat_v rx hz.1, h3, ?_⟩)
      show Q (.bl (if false = true then _ else _)) H
      rw [if_neg Bool.false_ne_true, h4]
      exact opd_d ok w (.bl _)
    · exact w.elim
  · split at w
    · rename_i hc
      have e := one_sign hc
      subst e
      exact .inr (.inr ⟨_, _, rx.str, ry.str, opd_d ok w (.bl _)⟩)
    · exact w.elim
  · exact w.elim
theorem opd_notin (hu : X.A.units + 65 < cLine) : OpD X E (compareOp .NotIn) notinG := by
  refine ⟨_, OpR.or (op_notInD hu) (OpR.or op_notIn_seq op_notIn_sign), fun B σ Γ H0 H Q v u x y ok rx ry w => ?_⟩
  unfold notinG at w
  split at w
  · split at w
    · rename_i hz
      rw [Bool.and_eq_true] at hz
      exact .inl ⟨x, _, rx.dp ok.sub, ry.dp ok.sub, hz.1, hz.2, opd_d ok w (.bl _)⟩
    · exact w.elim
  · split at w
    · rename_i hz
      rw [Bool.and_eq_true] at hz
      obtain ⟨a, vs, rfl, h1, h2⟩ := ry.tup ok.sub
      obtain ⟨h3, h4⟩ := all_flat rx hz.1 h2 hz.2
      refine .inr (.inl ⟨a, vs, rfl, .inr h1, flat_v rx hz.1, h3, ?_⟩)
      show Q (.bl (if true = true then _ else _)) H
      rw [if_pos rfl, h4]
      exact opd_d ok w (.bl _)
    · exact w.elim
  · split at w
    · rename_i hc
      have e := one_sign hc
      subst e
      exact .inr (.inr ⟨_, _, rx.str, ry.str, opd_d ok w (.bl _)⟩)
    · exact w.elim
  · exact w.elim
end
end Mi
namespace Mi
open PySem PySem.Spec PyProof.Rows L2 Evl
variable [Tbl]

/-! ### list(zip(..)): the library's rules for a zip want its tuple given back; here it is kept -/
section
variable {prog : Program} {w : World} {A : Around} {E : Value → Shared → Prop} {s : Shared} {z TI TO T i1 i2 : Addr} {fp1 fp2 : List Addr} {n1 n2 i : Nat} {P1 P2 : Nat → Value → Prop} {St1 St2 : Nat → Heap → Prop} {f : Bool} {oT : Obj}
omit [Tbl] in
theorem held_item {Q : Value → Shared → Prop} (S : ZipSep2 z TI TO i1 i2 fp1 fp2) (D1 : Draws prog w A i1 fp1 n1 P1 St1) (D2 : Draws prog w A i2 fp2 n2 P2 St2)
    (hz : IsZipHeld s.heap z TI TO T f) (hT : s.heap.get? T = some oT) (hTI : IsTupOf2 s.heap TI (.ref i1) (.ref i2)) (st1 : St1 i s.heap) (st2 : St2 i s.heap) (l1 : i < n1) (l2 : i < n2)
    (hQ : ∀ x1 x2 h' tk, P1 i x1 → P2 i x2 → IsZipHeld h' z TI TO T true → St1 (i + 1) h' → St2 (i + 1) h' → IsTupOf2 h' s.heap.objs.size x1 x2 → h'.objs.size = s.heap.objs.size + 1 →
      (∀ c o, c ≠ z → c ≠ i1 → c ≠ i2 → s.heap.get? c = some o → h'.get? c = some o) → Q (.ref s.heap.objs.size) { s with heap := h', toks := tk }) :
    wpAny (model prog w) A (Builtin.«zip.__next__» ⟨[.ref z], []⟩) (fun fin s' => ∃ v, fin = .done (.ret v) ∧ Q v s') E s := by
  obtain ⟨hp, g, d, tk0, os⟩ := s
  refine wpAny_bind (wpAny_pure ?_)
  refine wpAny_bind (wpAny_field hz rfl (x := .bool false) rfl ?_)
  refine wpAny_bind (wpAny_field hz rfl (x := .ref TI) rfl ?_)
  refine wpAny_bind (wpAny_seqItems hTI rfl ?_)
  show wpAny _ _ (Builtin.SmallTypes.ownedTupleIsFree (.ref z) >>= _) _ _ _
  refine wpAny_bind (wpAny_tupleHeld_zip hz hT fun g0 hz0 s0 => ?_)
  replace s0 : Heap.SameBut z hp g0 := s0
  simp only [Bool.false_eq_true, if_false]
  refine wpAny_bind ?_
  rw [← Array.forIn_toList]
  simp only [List.forIn_cons, List.forIn_nil]
  refine wpAny_bind (wpAny_bind (wpAny_holding ?_))
  show wpAny _ _ (Builtin.SmallTypes.nextOf (.ref i1) >>= _) _ _ ⟨g0, g, d, tk0, os⟩
  refine wpAny_bind (D1.item i _ _ _ l1 (D1.over st1 s0 S.zf1) fun x1 g1 tk1 p1 sn1 s1 => wpAny_pure (wpAny_pure ?_))
  replace s1 : Heap.SameBut i1 g0 g1 := s1
  refine wpAny_bind (wpAny_bind (wpAny_holding ?_))
  show wpAny _ _ (Builtin.SmallTypes.nextOf (.ref i2) >>= _) _ _ ⟨g1, g, d, tk1, os⟩
  refine wpAny_bind (D2.item i _ _ _ l2 (D2.over (D2.over st2 s0 S.zf2) s1 S.sep1_2) fun x2 g2 tk2 p2 sn2 s2 => wpAny_pure (wpAny_pure (wpAny_pure ?_)))
  replace s2 : Heap.SameBut i2 g1 g2 := s2
  show wpAny _ _ (newTuple [x1, x2] >>= _) _ _ _
  refine wpAny_bind (wpAny_newTuple (wpAny_pure ⟨_, rfl, ?_⟩))
  have hsz : g2.objs.size = hp.objs.size := by rw [s2.1, s1.1, s0.1]
  have up : ∀ (c : Addr) (o : Obj), g2.get? c = some o → (g2.push { cls := .type "tuple", data := .seq #[x1, x2] }).get? c = some o := fun c o e => Heap.get?_push_of_some _ e
  have hk : ∀ c o, c ≠ z → c ≠ i1 → c ≠ i2 → hp.get? c = some o → g2.get? c = some o := fun c o c1 c2 c3 e => s2.extBut _ _ c3 (s1.extBut _ _ c2 (s0.extBut _ _ c1 e))
  have hz2 : IsZipHeld g2 z TI TO T true := s2.extBut _ _ S.zi2 (s1.extBut _ _ S.zi1 hz0)
  have hpair : IsTupOf2 (g2.push { cls := .type "tuple", data := .seq #[x1, x2] }) g2.objs.size x1 x2 := Heap.get?_push_size _ rfl
  have hs2 : (g2.push { cls := .type "tuple", data := .seq #[x1, x2] }).objs.size = g2.objs.size + 1 := Heap.size_push ..
  show Q (.ref g2.objs.size) _
  rw [hsz] at hpair hs2 ⊢
  exact hQ x1 x2 _ tk2 p1 p2 (up _ _ hz2) (D1.frame _ _ _ (D1.over sn1 s2 S.sep2_1) fun b _ o e => up b o e) (D2.frame _ _ _ sn2 fun b _ o e => up b o e) hpair hs2 fun c o c1 c2 c3 e => up c o (hk c o c1 c2 c3 e)
omit [Tbl] in
theorem held_end {Q : Fin → Shared → Prop} (S : ZipSep2 z TI TO i1 i2 fp1 fp2) (D1 : Draws prog w A i1 fp1 n1 P1 St1) (D2 : Draws prog w A i2 fp2 n2 P2 St2)
    (hz : IsZipHeld s.heap z TI TO T f) (hT : s.heap.get? T = some oT) (hTI : IsTupOf2 s.heap TI (.ref i1) (.ref i2)) (st1 : St1 i s.heap) (st2 : St2 i s.heap) (l1 : i ≤ n1) (l2 : i ≤ n2) (hend : i = n1 ∨ i = n2)
    (hE : ∀ h' tk e, (∀ c o, c ≠ z → c ≠ i1 → c ≠ i2 → s.heap.get? c = some o → h'.get? c = some o) → (∃ o, h'.get? e = some o ∧ o.cls = .type "StopIteration") → E (.ref e) { s with heap := h', toks := tk }) :
    wpAny (model prog w) A (Builtin.«zip.__next__» ⟨[.ref z], []⟩) Q E s := by
  obtain ⟨hp, g, d, tk0, os⟩ := s
  refine wpAny_bind (wpAny_pure ?_)
  refine wpAny_bind (wpAny_field hz rfl (x := .bool false) rfl ?_)
  refine wpAny_bind (wpAny_field hz rfl (x := .ref TI) rfl ?_)
  refine wpAny_bind (wpAny_seqItems hTI rfl ?_)
  show wpAny _ _ (Builtin.SmallTypes.ownedTupleIsFree (.ref z) >>= _) _ _ _
  refine wpAny_bind (wpAny_tupleHeld_zip hz hT fun g0 hz0 s0 => ?_)
  replace s0 : Heap.SameBut z hp g0 := s0
  simp only [Bool.false_eq_true, if_false]
  refine wpAny_bind ?_
  rw [← Array.forIn_toList]
  simp only [List.forIn_cons, List.forIn_nil]
  refine wpAny_bind (wpAny_bind (wpAny_holding ?_))
  show wpAny _ _ (Builtin.SmallTypes.nextOf (.ref i1) >>= _) _ _ ⟨g0, g, d, tk0, os⟩
  by_cases h1 : i = n1
  · subst h1
    refine wpAny_bind (D1.done _ _ _ (D1.over st1 s0 S.zf1) fun h' e k he => ?_)
    exact hE h' tk0 e (fun c o c1 c2 _ x => k _ _ c2 (s0.extBut _ _ c1 x)) he
  · have h2 : i = n2 := by rcases hend with h | h; exact absurd h h1; exact h
    subst h2
    refine wpAny_bind (D1.item i _ _ _ (by omega) (D1.over st1 s0 S.zf1) fun x1 g1 tk1 p1 sn1 s1 => wpAny_pure (wpAny_pure ?_))
    replace s1 : Heap.SameBut i1 g0 g1 := s1
    refine wpAny_bind (wpAny_bind (wpAny_holding ?_))
    show wpAny _ _ (Builtin.SmallTypes.nextOf (.ref i2) >>= _) _ _ ⟨g1, g, d, tk1, os⟩
    refine wpAny_bind (D2.done _ _ _ (D2.over (D2.over st2 s0 S.zf2) s1 S.sep1_2) fun h' e k he => ?_)
    exact hE h' tk1 e (fun c o c1 c2 c3 x => k _ _ c3 (s1.extBut _ _ c2 (s0.extBut _ _ c1 x))) he

omit [Tbl] in
theorem held_next {Q : Option Value → Shared → Prop} (S : ZipSep2 z TI TO i1 i2 fp1 fp2) (D1 : Draws prog w A.in1 i1 fp1 n1 P1 St1) (D2 : Draws prog w A.in1 i2 fp2 n2 P2 St2)
    (hz : IsZipHeld s.heap z TI TO T f) (hT : s.heap.get? T = some oT) (hTI : IsTupOf2 s.heap TI (.ref i1) (.ref i2)) (st1 : St1 i s.heap) (st2 : St2 i s.heap) (l1 : i < n1) (l2 : i < n2)
    (hQ : ∀ x1 x2 h' tk, P1 i x1 → P2 i x2 → IsZipHeld h' z TI TO T true → St1 (i + 1) h' → St2 (i + 1) h' → IsTupOf2 h' s.heap.objs.size x1 x2 → h'.objs.size = s.heap.objs.size + 1 →
      (∀ c o, c ≠ z → c ≠ i1 → c ≠ i2 → s.heap.get? c = some o → h'.get? c = some o) → Q (some (.ref s.heap.objs.size)) { s with heap := h', toks := tk }) :
    wpAny (model prog w) A (pyNext (.ref z)) Q E s := by
  have hTy : s.TypeIs (.ref z) "zip" := ⟨_, hz, rfl⟩
  unfold pyNext
  exact wpAny_bind (wpAny_attempt (wpAny_callSpecial?_slot (name := Str.ofString "__next__") hTy F.slot_zip_next (wpAny_call_entry F.slot_zip_next hTy F.entry_zip_next
    (held_item S D1 D2 hz hT hTI st1 st2 l1 l2 fun x1 x2 h' tk a1 a2 a3 a4 a5 a6 a7 a8 => wpAny_pure (hQ x1 x2 h' tk a1 a2 a3 a4 a5 a6 a7 a8)) (F.args_zip_next_1 _))))
omit [Tbl] in
theorem held_stop {Q : Option Value → Shared → Prop} (S : ZipSep2 z TI TO i1 i2 fp1 fp2) (D1 : Draws prog w A.in1 i1 fp1 n1 P1 St1) (D2 : Draws prog w A.in1 i2 fp2 n2 P2 St2)
    (hz : IsZipHeld s.heap z TI TO T f) (hT : s.heap.get? T = some oT) (hTI : IsTupOf2 s.heap TI (.ref i1) (.ref i2)) (st1 : St1 i s.heap) (st2 : St2 i s.heap) (l1 : i ≤ n1) (l2 : i ≤ n2) (hend : i = n1 ∨ i = n2)
    (hQ : ∀ h' tk, (∀ c o, c ≠ z → c ≠ i1 → c ≠ i2 → s.heap.get? c = some o → h'.get? c = some o) → Q none { s with heap := h', toks := tk }) :
    wpAny (model prog w) A (pyNext (.ref z)) Q E s := by
  have hTy : s.TypeIs (.ref z) "zip" := ⟨_, hz, rfl⟩
  unfold pyNext
  refine wpAny_bind (wpAny_attempt (wpAny_callSpecial?_slot (name := Str.ofString "__next__") hTy F.slot_zip_next (wpAny_call_entry F.slot_zip_next hTy F.entry_zip_next
    (held_end S D1 D2 hz hT hTI st1 st2 l1 l2 hend fun h' tk e hk he => ?_) (F.args_zip_next_1 _))))
  obtain ⟨o, ho, hc⟩ := he
  exact wpAny_bind (wpAny_isInstance (T := "StopIteration") (b := true) ⟨o, ho, hc⟩ isSubtype_stop (wpAny_pure (hQ h' tk hk)))

/-- the pairs made so far, each a new tuple -/
structure Pairs (P1 P2 : Nat → Value → Prop) (N : Nat) (h : Heap) (Ts : List Addr) : Prop where
  nodup : Ts.Nodup
  new : ∀ T ∈ Ts, N ≤ T ∧ T < h.objs.size
  at_ : ∀ (j : Nat) (T : Addr), Ts[j]? = some T → ∃ x y, IsTupOf2 h T x y ∧ P1 j x ∧ P2 j y
omit [Tbl] in
theorem ne_low {N T z : Nat} (h : N ≤ T) (q : z < N) : T ≠ z := by omega
omit [Tbl] in
theorem Pairs.nil {h : Heap} {N : Nat} : Pairs P1 P2 N h [] := ⟨List.nodup_nil, (fun _ h => nomatch h), (fun j T h => nomatch h)⟩
omit [Tbl] in
theorem Pairs.keep {h h' : Heap} {N : Nat} {Ts : List Addr} (p : Pairs P1 P2 N h Ts) (k : ∀ T o, N ≤ T → h.get? T = some o → h'.get? T = some o) : Pairs P1 P2 N h' Ts where
  nodup := p.nodup
  new := fun T hT => by
    obtain ⟨j, hj⟩ := List.getElem?_of_mem hT
    obtain ⟨x, y, h1, _⟩ := p.at_ j T hj
    exact ⟨(p.new T hT).1, Heap.lt_size (k T _ (p.new T hT).1 h1)⟩
  at_ := fun j T e => let ⟨x, y, h1, h2⟩ := p.at_ j T e; ⟨x, y, k T _ (p.new T (List.mem_of_getElem? e)).1 h1, h2⟩
omit [Tbl] in
theorem Pairs.snoc {h h' : Heap} {N : Nat} {Ts : List Addr} {x y : Value} (p : Pairs P1 P2 N h Ts) (hN : N ≤ h.objs.size) (k : ∀ T o, N ≤ T → h.get? T = some o → h'.get? T = some o)
    (ht : IsTupOf2 h' h.objs.size x y) (hx : P1 Ts.length x) (hy : P2 Ts.length y) : Pairs P1 P2 N h' (Ts ++ [h.objs.size]) where
  nodup := by
    rw [List.nodup_append]
    refine ⟨p.nodup, List.nodup_cons.mpr ⟨(fun h => nomatch h), List.nodup_nil⟩, fun a ha b hb => ?_⟩
    rw [List.mem_singleton] at hb
    rw [hb]; exact Nat.ne_of_lt (p.new a ha).2
  new := fun T hT => by
    rcases List.mem_append.mp hT with q | q
    · exact (p.keep k).new T q
    · rw [List.mem_singleton] at q; subst q; exact ⟨hN, Heap.lt_size ht⟩
  at_ := fun j T e => by
    by_cases hj : j < Ts.length
    · rw [List.getElem?_append_left hj] at e
      exact (p.keep k).at_ j T e
    · rw [List.getElem?_append_right (by omega)] at e
      have hj0 : j - Ts.length = 0 := by
        have := (List.getElem?_eq_some_iff.mp e).1
        simp at this; omega
      rw [hj0] at e
      have e : h.objs.size = T := by simpa using e
      have hj2 : j = Ts.length := by omega
      subst hj2; subst e
      exact ⟨x, y, ht, hx, hy⟩
omit [Tbl] in
theorem zip_drain {R : Result → Shared → Prop} (S : ZipSep2 z TI TO i1 i2 fp1 fp2) (D1 : Draws prog w A.in1.in1 i1 fp1 n1 P1 St1) (D2 : Draws prog w A.in1.in1 i2 fp2 n2 P2 St2) {L : Addr} {N : Nat} (hn : min n1 n2 ≤ sizeLine)
    (hz : z < N) (hTI : TI < N) (hTO : TO < N) (hf1 : ∀ b ∈ fp1, b < N) (hf2 : ∀ b ∈ fp2, b < N) (hL : L < N) (Lz : L ≠ z) (LTI : L ≠ TI) (LTO : L ≠ TO) (Lf1 : L ∉ fp1) (Lf2 : L ∉ fp2) (res : Value) :
    ∀ (k i : Nat) (s : Shared) (Ts : List Addr) (c : Nat), min n1 n2 - i = k → i ≤ min n1 n2 → Ts.length = i → N ≤ s.heap.objs.size → IsTupOf2 s.heap TI (.ref i1) (.ref i2) → St1 i s.heap → St2 i s.heap →
      ((IsZip s.heap z TI TO .none ∧ ∃ a b, IsTupOf2 s.heap TO a b) ∨ ∃ T f oT, IsZipHeld s.heap z TI TO T f ∧ s.heap.get? T = some oT ∧ N ≤ T) →
      s.heap.get? L = some { cls := .type "list", dict := none, data := .seq (Ts.map Value.ref).toArray c, slots := #[] } → Pairs P1 P2 N s.heap Ts →
      (∀ h' tk Ts' c', (∀ b o, b ≠ L → b ≠ z → b ≠ TO → b ≠ i1 → b ≠ i2 → s.heap.get? b = some o → h'.get? b = some o) →
        h'.get? L = some { cls := .type "list", dict := none, data := .seq (Ts'.map Value.ref).toArray c', slots := #[] } → Ts'.length = min n1 n2 → Pairs P1 P2 N h' Ts' → R (.ok (.ret res)) { s with heap := h', toks := tk }) →
      codeAny (model prog w) A (.builtin "list.extend.loop" ⟨[.ref L, .ref z, res], []⟩) R s := by
  have hi1 : i1 < N := hf1 _ S.mem1
  have hi2 : i2 < N := hf2 _ S.mem2
  have Li1 : L ≠ i1 := fun e => Lf1 (by rw [e]; exact S.mem1)
  have Li2 : L ≠ i2 := fun e => Lf2 (by rw [e]; exact S.mem2)
  intro k
  induction k with
  | zero =>
    intro i s Ts c hk hi hlen hN hti st1 st2 hzz hl hp hR
    have hie : i = n1 ∨ i = n2 := by omega
    refine codeAny_builtin F.entry_extend_loop ?_
    rw [Around.under_plainId F.plain_extend_loop _]
    show wpAny _ A.in1 (pyNext (.ref z) >>= _) _ _ s
    have fin : ∀ h' tk, (∀ c o, c ≠ z → c ≠ TO → c ≠ i1 → c ≠ i2 → s.heap.get? c = some o → h'.get? c = some o) → R (.ok (.ret res)) { s with heap := h', toks := tk } := fun h' tk hk =>
      hR h' tk Ts c (fun b o _ b1 b2 b3 b4 e => hk b o b1 b2 b3 b4 e) (hk _ _ Lz LTO Li1 Li2 hl) (by omega) (hp.keep fun T o hT e => hk T o (ne_low hT hz) (ne_low hT hTO) (ne_low hT hi1) (ne_low hT hi2) e)
    rcases hzz with ⟨h0, a, b, ho⟩ | ⟨T, f, oT, h0, hT, hNT⟩
    · exact wpAny_bind (wpAny_pyNext_zipD2_end S D1 D2 h0 hti ho st1 st2 (by omega) (by omega) hie fun h' tk hk => wpAny_pure (fin h' tk hk))
    · exact wpAny_bind (held_stop S D1 D2 h0 hT hti st1 st2 (by omega) (by omega) hie fun h' tk hk => wpAny_pure (fin h' tk fun c o c1 _ c3 c4 e => hk c o c1 c3 c4 e))
  | succ k ih =>
    intro i s Ts c hk hi hlen hN hti st1 st2 hzz hl hp hR
    refine codeAny_builtin F.entry_extend_loop ?_
    rw [Around.under_plainId F.plain_extend_loop _]
    show wpAny _ A.in1 (pyNext (.ref z) >>= _) _ _ s
    have go : ∀ (x1 x2 : Value) (h' : Heap) (tk : Nat), P1 i x1 → P2 i x2 → (∃ T f oT, IsZipHeld h' z TI TO T f ∧ h'.get? T = some oT ∧ N ≤ T) → St1 (i + 1) h' → St2 (i + 1) h' → IsTupOf2 h' s.heap.objs.size x1 x2 →
        (∀ c o, c ≠ z → c ≠ TO → c ≠ i1 → c ≠ i2 → s.heap.get? c = some o → h'.get? c = some o) →
        wpAny (model prog w) A.in1 (updateSeq L (·.push (.ref s.heap.objs.size)) >>= fun _ => again (.builtin "list.extend.loop" ⟨[.ref L, .ref z, res], []⟩))
          (fun fin s' => match fin with | .done f => R (.ok f) s' | .again c' => c'.quiet = true ∧ codeAny (model prog w) A c' R s') (fun e s' => R (.error e) s') { s with heap := h', toks := tk } := fun x1 x2 h' tk q1 q2 hz' s1' s2' ht hkk => by
      have hl' := hkk _ _ Lz LTO Li1 Li2 hl
      have keep3 : ∀ b o, b ≠ L → h'.get? b = some o → (h'.update L (Obj.mapSeq (·.push (Value.ref s.heap.objs.size)))).get? b = some o := fun b o hb e => (Heap.get?_update_other _ _ (Ne.symm hb)).trans e
      have pr : Pairs P1 P2 N h' (Ts ++ [s.heap.objs.size]) := hp.snoc hN (fun T o hT e => hkk T o (ne_low hT hz) (ne_low hT hTO) (ne_low hT hi1) (ne_low hT hi2) e) ht (by rw [hlen]; exact q1) (by rw [hlen]; exact q2)
      refine wpAny_bind ?_
      refine wpAny_updateSeq (s := { s with heap := h', toks := tk }) hl' rfl (wpAny_pure ⟨plainId_quiet F.plain_extend_loop _, ?_⟩) (by simp; omega) (by simp; omega)
      obtain ⟨T, f, oT, h0, hT, hNT⟩ := hz'
      have e : ((Ts ++ [s.heap.objs.size]).map Value.ref).toArray = (Ts.map Value.ref).toArray.push (.ref s.heap.objs.size) := by simp
      have hl2 : ∃ c2, (h'.update L (Obj.mapSeq (·.push (Value.ref s.heap.objs.size)))).get? L = some { cls := .type "list", dict := none, data := .seq ((Ts ++ [s.heap.objs.size]).map Value.ref).toArray c2, slots := #[] } := by
        rw [e]; exact ⟨_, Heap.get?_update_self _ hl' rfl⟩
      obtain ⟨c2, hl2⟩ := hl2
      have hsz : N ≤ (h'.update L (Obj.mapSeq (·.push (Value.ref s.heap.objs.size)))).objs.size := Nat.le_trans hN (Nat.le_of_lt (Heap.lt_size (keep3 _ _ (ne_low hN hL) ht)))
      exact ih (i + 1) _ (Ts ++ [s.heap.objs.size]) c2 (by omega) (by omega) (by rw [List.length_append, hlen]; rfl) hsz (keep3 _ _ LTI.symm (hkk _ _ S.TIz S.TITO S.TIi1 S.TIi2 hti)) (D1.frame _ _ _ s1' fun b hb o e => keep3 b o (fun q => Lf1 (q ▸ hb)) e)
        (D2.frame _ _ _ s2' fun b hb o e => keep3 b o (fun q => Lf2 (q ▸ hb)) e) (.inr ⟨T, f, oT, keep3 _ _ Lz.symm h0, keep3 _ _ (ne_low hNT hL) hT, hNT⟩) hl2 (pr.keep fun T o hT e => keep3 T o (ne_low hT hL) e)
        fun h2 tk2 Ts2 c2 k2 l2 n2' p2 => hR h2 tk2 Ts2 c2 (fun b o b0 b1 b2 b3 b4 e => k2 b o b0 b1 b2 b3 b4 (keep3 b o b0 (hkk b o b1 b2 b3 b4 e))) l2 n2' p2
    rcases hzz with ⟨h0, a, b, ho⟩ | ⟨T, f, oT, h0, hT, hNT⟩
    · refine wpAny_bind (wpAny_pyNext_zipD2_item S D1 D2 h0 hti ho st1 st2 (by omega) (by omega) fun x1 x2 h' tk y1 y2 b1 b2 d1 d2 b5 b6 hk => ?_)
      exact go x1 x2 h' tk y1 y2 ⟨_, false, _, b1, b5, hN⟩ d1 d2 b5 hk
    · refine wpAny_bind (held_next S D1 D2 h0 hT hti st1 st2 (by omega) (by omega) fun x1 x2 h' tk y1 y2 b1 d1 d2 b5 b6 hk => ?_)
      exact go x1 x2 h' tk y1 y2 ⟨T, true, oT, b1, hk _ _ (ne_low hNT hz) (ne_low hNT hi1) (ne_low hNT hi2) hT, hNT⟩ d1 d2 b5 fun c o c1 _ c3 c4 e => hk c o c1 c3 c4 e
end
end Mi
namespace Mi
open PySem PySem.Spec PyProof.Rows L2 Evl
variable [Tbl]
omit [Tbl] in
theorem zip_nolen : typeLookup (.type "zip") "__len__" = pure none := am_miss_of_fast (by decide +kernel)
omit [Tbl] in
theorem zip_nohint : typeLookup (.type "zip") "__length_hint__" = pure none := am_miss_of_fast (by decide +kernel)
section
variable {prog : Program} {w : World} {A : Around} {E : Value → Shared → Prop} {s : Shared} {z TI TO T i1 i2 : Addr} {fp1 fp2 : List Addr} {n1 n2 i : Nat} {P1 P2 : Nat → Value → Prop} {St1 St2 : Nat → Heap → Prop}
omit [Tbl] in
theorem call_list_zip {Q : Value → Shared → Prop} {a0 b0 : Value} (S : ZipSep2 z TI TO i1 i2 fp1 fp2) (D1 : Draws prog w A.in1.in1.in1 i1 fp1 n1 P1 St1) (D2 : Draws prog w A.in1.in1.in1 i2 fp2 n2 P2 St2) (hn : min n1 n2 ≤ sizeLine)
    (hz : IsZip s.heap z TI TO .none) (hTI : IsTupOf2 s.heap TI (.ref i1) (.ref i2)) (hTO : IsTupOf2 s.heap TO a0 b0) (hf1 : ∀ b ∈ fp1, b < s.heap.objs.size) (hf2 : ∀ b ∈ fp2, b < s.heap.objs.size) (st1 : St1 0 s.heap) (st2 : St2 0 s.heap)
    (hQ : ∀ h' tk Ts' c', (∀ b o, b ≠ z → b ≠ TO → b ≠ i1 → b ≠ i2 → s.heap.get? b = some o → h'.get? b = some o) →
        h'.get? s.heap.objs.size = some { cls := .type "list", dict := none, data := .seq (Ts'.map Value.ref).toArray c', slots := #[] } → Ts'.length = min n1 n2 → Pairs P1 P2 (s.heap.objs.size + 1) h' Ts' → Q (.ref s.heap.objs.size) { s with heap := h', toks := tk }) :
    wpAny (model prog w) A (call (.type "list") [.ref z]) Q E s := by
  have lz := Heap.lt_size hz
  have lTI := Heap.lt_size hTI
  have lTO := Heap.lt_size hTO
  have ne : ∀ {b : Addr}, b < s.heap.objs.size → s.heap.objs.size ≠ b := fun h => Nat.ne_of_gt h
  refine callType_codes (Q₁ := fun obj s₁ => obj = .ref s.heap.objs.size ∧ s₁ = { s with heap := s.heap.push { cls := .type "list", data := .seq #[] } }) F.called_list (F.typeCall_list_1 _) F.entry_list_init
    (code_list_new _ ⟨rfl, rfl⟩) fun obj s₁ h₁ => ?_
  obtain ⟨rfl, rfl⟩ := h₁
  have hS : (s.heap.push { cls := .type "list", data := .seq #[] }).get? s.heap.objs.size = some { cls := .type "list", data := .seq #[] } := Heap.get?_push_size _ rfl
  have hs1 : (s.heap.push { cls := .type "list", data := .seq #[] }).objs.size = s.heap.objs.size + 1 := Heap.size_push ..
  refine ⟨⟨_, hS, rfl⟩, F.args_list_init_2 _ _, ?_⟩
  show wpAny _ A.in1.in1 (do let old ← Builtin.List.listItems (.ref s.heap.objs.size); Builtin.List.listUpdate (.ref s.heap.objs.size) (fun _ => #[]); letGo old.toList.reverse; Builtin.List.listExtendWith (.ref s.heap.objs.size) (.ref z) .none) _ _ _
  refine wpAny_bind ?_
  unfold Builtin.List.listItems
  refine wpAny_bind (wpAny_seqItems hS rfl (wpAny_pure ?_))
  show wpAny _ A.in1.in1 (updateSeq s.heap.objs.size (fun _ => #[]) >>= fun _ => letGo (#[] : Array Value).toList.reverse >>= fun _ => Builtin.List.listExtendWith (.ref s.heap.objs.size) (.ref z) .none) _ _ _
  refine wpAny_bind (wpAny_updateSeq hS rfl ?_)
  have hS2 := Heap.get?_update_self (Obj.mapSeq (fun _ => (#[] : Array Value))) hS rfl
  refine wpAny_bind (wpAny_letGo ?_)
  unfold Builtin.List.listExtendWith
  have up : ∀ (h : Heap) (f : Obj → Obj), (∀ b o, s.heap.get? b = some o → h.get? b = some o) → ∀ b o, s.heap.get? b = some o → (h.update s.heap.objs.size f).get? b = some o := fun h f q b o e =>
    (Heap.get?_update_other _ _ (Ne.symm (Nat.ne_of_lt (Heap.lt_size e)))).trans (q b o e)
  have k1 : ∀ b o, s.heap.get? b = some o → (s.heap.push { cls := .type "list", data := .seq #[] }).get? b = some o := fun b o e => Heap.get?_push_of_some _ e
  have k2 := up _ (Obj.mapSeq (fun _ => (#[] : Array Value))) k1
  have gty : ∀ {h : Heap}, (∀ b o, s.heap.get? b = some o → h.get? b = some o) → ({ s with heap := h } : Shared).TypeIs (.ref z) "zip" := fun {h} q => ⟨_, q _ _ hz, rfl⟩
  refine wpAny_bind (wpAny_typeOf (gty k2) ?_)
  have h1 : Builtin.List.listSameRef (.ref s.heap.objs.size) (.ref z) = false := by simp [Builtin.List.listSameRef, ne lz]
  have h2 : (Value.type "zip" == Value.type "list") = false := by decide
  have h3 : (Value.type "zip" == Value.type "tuple") = false := by decide
  simp only [h1, h2, h3, Bool.or_false, Bool.false_eq_true, if_false]
  refine wpAny_bind (wpAny_pyIter_zip (s := { s with heap := _ }) (k2 _ _ hz) ?_)
  refine wpAny_bind (wpAny_holding ?_)
  unfold Builtin.List.listLengthHint
  refine wpAny_bind (wpAny_specialOf (gty k2) zip_nolen ?_)
  show wpAny _ A.in1.in1 (specialOf (Value.ref z) (Str.ofString "__length_hint__") >>= _) _ _ _
  refine wpAny_bind (wpAny_specialOf (gty k2) zip_nohint ?_)
  refine wpAny_pure ?_
  show wpAny _ A.in1.in1 (rule "list.extend.makes-room" >>= fun _ => Builtin.List.listTouch (.ref s.heap.objs.size) >>= fun _ =>
    again (.builtin "list.extend.loop" ⟨[.ref s.heap.objs.size, .ref z, .none], []⟩)) _ _ _
  refine wpAny_bind (wpAny_rule ?_)
  refine wpAny_bind ?_
  show wpAny _ A.in1.in1 (updateSeq s.heap.objs.size (·.push .none) >>= fun _ => updateSeq s.heap.objs.size (·.pop)) _ _ _
  refine wpAny_bind (wpAny_updateSeq hS2 rfl ?_)
  have hS3 := Heap.get?_update_self (Obj.mapSeq (·.push Value.none)) hS2 rfl
  refine wpAny_updateSeq (hz := by seq_fits) hS3 rfl ?_
  have hS4 := Heap.get?_update_self (Obj.mapSeq (·.pop)) hS3 rfl
  have k4 := up _ (Obj.mapSeq (·.pop)) (up _ (Obj.mapSeq (·.push Value.none)) k2)
  refine wpAny_pure ⟨plainId_quiet F.plain_extend_loop _, ?_⟩
  refine zip_drain (A := A.in1) S D1 D2 (N := s.heap.objs.size + 1) hn (Nat.lt_succ_of_lt lz) (Nat.lt_succ_of_lt lTI) (Nat.lt_succ_of_lt lTO) (fun b hb => Nat.lt_succ_of_lt (hf1 b hb)) (fun b hb => Nat.lt_succ_of_lt (hf2 b hb)) (Nat.lt_succ_self _)
    (ne lz) (ne lTI) (ne lTO) (fun h => Nat.lt_irrefl _ (hf1 _ h)) (fun h => Nat.lt_irrefl _ (hf2 _ h)) _ _ 0 _ [] _ rfl (Nat.zero_le _) rfl (Heap.lt_size hS4) (k4 _ _ hTI) (D1.frame _ _ _ st1 fun b _ o e => k4 b o e) (D2.frame _ _ _ st2 fun b _ o e => k4 b o e)
    (.inl ⟨k4 _ _ hz, _, _, k4 _ _ hTO⟩) hS4 Pairs.nil fun h' tk Ts' c' k l nn p => ⟨rfl, hQ h' tk Ts' c' (fun b o b1 b2 b3 b4 e => k b o (Nat.ne_of_lt (Heap.lt_size e)) b1 b2 b3 b4 (k4 b o e)) l nn p⟩
end
end Mi
namespace Mi
open PySem PySem.Spec PyProof.Rows L2 Evl
variable [Tbl]
/-- the new pairs, tracked -/
def pairsH (H : Hp) : List Addr → List V → List V → Hp
  | T :: Ts, x :: xs, y :: ys => upd (pairsH H Ts xs ys) T (.tup [x, y])
  | _, _, _ => H
omit [Tbl] in
theorem pairsH_out {H : Hp} : ∀ (Ts : List Addr) (xs ys : List V) {p : Addr}, p ∉ Ts → pairsH H Ts xs ys p = H p
  | [], _, _, _, _ => rfl
  | _ :: _, [], _, _, _ => rfl
  | _ :: _, _ :: _, [], _, _ => rfl
  | T :: Ts, x :: xs, y :: ys, p, h => by
    show upd (pairsH H Ts xs ys) T (.tup [x, y]) p = _
    rw [upd_ne (show p ≠ T from fun e => h (by rw [e]; exact List.mem_cons_self))]
    exact pairsH_out Ts xs ys fun q => h (List.mem_cons_of_mem _ q)
omit [Tbl] in
theorem pairsH_get {H : Hp} : ∀ (Ts : List Addr) (xs ys : List V) {j : Nat} {T : Addr} {x y : V}, Ts.Nodup → Ts[j]? = some T → xs[j]? = some x → ys[j]? = some y → pairsH H Ts xs ys T = some (.tup [x, y])
  | [], _, _, _, _, _, _, _, h, _, _ => by simp at h
  | _ :: _, [], _, _, _, _, _, _, _, h, _ => by simp at h
  | _ :: _, _ :: _, [], _, _, _, _, _, _, _, h => by simp at h
  | T :: Ts, x :: xs, y :: ys, 0, _, _, _, _, h, h1, h2 => by
    simp at h h1 h2
    subst h; subst h1; subst h2
    exact upd_same
  | T :: Ts, x :: xs, y :: ys, j + 1, T', _, _, nd, h, h1, h2 => by
    simp at h h1 h2
    have nd' := List.nodup_cons.mp nd
    show upd (pairsH H Ts xs ys) T (.tup [x, y]) T' = _
    rw [upd_ne (show T' ≠ T from fun e => nd'.1 (by rw [← e]; exact List.mem_of_getElem? h))]
    exact pairsH_get Ts xs ys nd'.2 h h1 h2
omit [Tbl] in
theorem inv_many {X : Cx} {pins : List (Addr × Obj)} {σ : L2.St} {H H' : Hp} {s : Shared} {h' : Heap} {t' : Nat} (I : Inv X pins σ H s) (k : ∀ b o, s.heap.get? b = some o → h'.get? b = some o)
    (ext : ∀ p : Addr, p < s.heap.objs.size → H' p = H p) (new : ∀ (p : Addr) o, s.heap.objs.size ≤ p → H' p = some o → ObjOk X.prog X.w H' h' p o) : Inv X pins σ H' { s with heap := h', toks := t' } := by
  have low : ∀ (p : Addr) o, H p = some o → p < s.heap.objs.size := fun p o e => Nat.lt_of_not_le fun h => by rw [I.hok.fresh h] at e; cases e
  have hE : ∀ p o, H p = some o → H' p = some o := fun p o e => by rw [ext p (low p o e)]; exact e
  refine I.un { keep := fun b u q _ _ _ => k b u q, slot := fun b u q _ _ _ => ⟨u.slots, k b u q⟩, free := fun b u q n _ => by rw [ext b (Heap.lt_size q)]; exact n, there := fun b u q _ => ⟨u, k b u q⟩, tups := fun b xs q => hE _ _ q, frzs := fun b u xs q => hE _ _ q, tbls := fun b ps q => ⟨#[], by rw [hE _ _ q]; simp⟩ } fun p o e => ?_
  by_cases hp : s.heap.objs.size ≤ p
  · exact new p o hp e
  · have hp := Nat.lt_of_not_le hp
    rw [ext p hp] at e
    exact (I.hok p o e).stay (fun c v _ q => k c v q) (fun c q => hE _ _ q) fun c xs q => hE _ _ q
omit [Tbl] in
theorem vals_addrs : ∀ Ts : List Addr, Vals (Ts.map V.ref) (Ts.map Value.ref)
  | [] => .nil
  | _ :: r => .cons rfl (vals_addrs r)
section
variable {X : Cx} {E : XK} {e e2 ek : Expr} {p p0 pz pos kpos : Pos}
def tLstZip (K : PySem.W.Frag) (ta : TA) : TE := fun σ H Q => ta σ H fun vs H1 => ∃ a b xs ys, vs = [.ref a, .ref b] ∧ SqT K H1 a xs ∧ SqT K H1 b ys ∧
  ∀ (Ts : List Addr) (S : Addr), Ts.Nodup → (∀ T ∈ Ts, H1 T = none) → S ∉ Ts → H1 S = none → Ts.length = min xs.length ys.length → Q (.ref S) (upd (pairsH H1 Ts xs ys) S (.lst (Ts.map V.ref)))
def ZipMade (X : Cx) (pins : List (Addr × Obj)) (σ : L2.St) (C : Addr → Addr → List V → List V → Hp → Prop) (u : Value) (s' : Shared) : Prop :=
  ∃ (s1 : Shared) (H1 : Hp) (a b : Addr) (xs ys : List V) (its its2 : List Value) (h' : Heap), s' = { s1 with heap := h' } ∧ u = .ref (s1.heap.objs.size + 4) ∧ Inv X pins σ H1 s1 ∧ Vals xs its ∧ Vals ys its2 ∧ h'.IsTuple a its.toArray ∧ h'.IsTuple b its2.toArray ∧
    a < s1.heap.objs.size ∧ b < s1.heap.objs.size ∧ xs.length ≤ sizeLine ∧ IsZip h' (s1.heap.objs.size + 4) (s1.heap.objs.size + 2) (s1.heap.objs.size + 3) .none ∧ IsTupOf2 h' (s1.heap.objs.size + 2) (.ref s1.heap.objs.size) (.ref (s1.heap.objs.size + 1)) ∧
    IsTupOf2 h' (s1.heap.objs.size + 3) .none .none ∧ h'.IsTupleIter s1.heap.objs.size a 0 ∧ h'.IsTupleIter (s1.heap.objs.size + 1) b 0 ∧ (∀ c o, s1.heap.get? c = some o → h'.get? c = some o) ∧ C a b xs ys H1
theorem ev_zip {ta : TA} {C : Addr → Addr → List V → List V → Hp → Prop} {pins : List (Addr × Obj)} {s : Shared} {σ : L2.St} {H : Hp} (hg : Gl X "zip") (hm : X.mg "zip" = none) (ha : PA X [e, e2] ta) (hek : ∀ s Q, Q (.bool false) s → wpAny (model X.prog X.w) X.A (eval ek X.env) Q X.xe s)
    (hs : backTo pz (starEach [e, e2] X.env) = (false, eval e X.env) :: backTo pz (starEach [e2] X.env)) (hpl : (backTo pz (starEach [e, e2] X.env)).any (·.1) = false)
    (I : Inv X pins σ H s) (h : ta σ H fun vs H1 => ∃ a b xs ys, vs = [.ref a, .ref b] ∧ SqT X.K H1 a xs ∧ SqT X.K H1 b ys ∧ C a b xs ys H1) :
    wpAny (model X.prog X.w) X.A (eval (.Call (.Name "zip" p) [e, e2] [⟨some "strict", ek, kpos⟩] pz) X.env) (ZipMade X pins σ C) X.xe s := by
  refine wpAny_Call_Name_kw (ld_blt I hg hm PyProof.Rows.boot_zip (callWith_kwT hpl rfl ?_))
  rw [hs]
  refine args_kwT rfl ?_
  rw [← hs]
  refine thn (ha.run pz pins s σ H _ I h) fun us s1 ⟨vs, H1, I1, r1, q1⟩ => ?_
  refine wpAny_evalAll_cons (wpAny_bind (hek _ _ (wpAny_bind (wpAny_standAt (wpAny_pure (wpAny_evalAll_nil ?_))))))
  obtain ⟨a, b, xs, ys, ex, qx, qy, q⟩ := q1
  subst ex
  cases r1 with
  | cons r rr =>
    cases rr with
    | cons r' rr =>
      cases rr
      cases r
      cases r'
      obtain ⟨its, rv, p1, hz1⟩ := I1.tuple qx
      obtain ⟨its2, rv2, p2, _⟩ := I1.tuple qy
      obtain ⟨w1, hw1, _⟩ := id p1
      obtain ⟨w2, hw2, _⟩ := id p2
      refine call_zipB (begins_tuple a its.toArray) (begins_tuple b its2.toArray) p1 p2 fun h' hz hTI hTO h1 h2 hk => ?_
      exact ⟨s1, H1, a, b, xs, ys, its, its2, h', rfl, rfl, I1, rv, rv2, Heap.IsTuple.at p1 fun o e => hk _ o e, Heap.IsTuple.at p2 fun o e => hk _ o e, Heap.lt_size hw1, Heap.lt_size hw2, hz1, hz, hTI, hTO, ⟨_, h1, rfl, rfl⟩, ⟨_, h2, rfl, rfl⟩, hk, q⟩
theorem pe_listZip {ta : TA} (hc : X.calm = true) (hgl : Gl X "list") (hml : X.mg "list" = none) (hg : Gl X "zip") (hm : X.mg "zip" = none) (ha : PA X [e, e2] ta) (hek : ∀ s Q, Q (.bool false) s → wpAny (model X.prog X.w) X.A (eval ek X.env) Q X.xe s)
    (na : starEach [.Call (.Name "zip" p) [e, e2] [⟨some "strict", ek, kpos⟩] pz] X.env = (false, eval (.Call (.Name "zip" p) [e, e2] [⟨some "strict", ek, kpos⟩] pz) X.env) :: starEach [] X.env := by rfl)
    (hs : backTo pz (starEach [e, e2] X.env) = (false, eval e X.env) :: backTo pz (starEach [e2] X.env) := by rfl) (hpl : (backTo pz (starEach [e, e2] X.env)).any (·.1) = false := by rfl) :
    PE X (.Call (.Name "list" p0) [.Call (.Name "zip" p) [e, e2] [⟨some "strict", ek, kpos⟩] pz] [] pos) (tLstZip X.K ta) := by
  refine ⟨fun pins s σ H Q I h => ?_⟩
  refine Call_ (ld_blt I hgl hml boot_list (PyProof.Rows.callWith_type1 (args_cons (thn (ev_zip hg hm ha hek hs hpl I h) fun u s2 ⟨s1, H1, a, b, xs, ys, its, its2, h1, es, eu, I1, rv, rv2, ta', tb', la, lb, hz1, hz, hTI, hTO, st1, st2, hk, q⟩ => args_nil ?_) na) na))
  subst es; subst eu
  have l1 := rv.length
  have l2 := rv2.length
  have hh : X.A.handled = none := I1.ok.hd hc
  have lt0 : ∀ {b : Addr}, b < s1.heap.objs.size → ∀ k, b ≠ s1.heap.objs.size + k := fun h k => Nat.ne_of_lt (Nat.lt_of_lt_of_le h (Nat.le_add_right _ k))
  have up : ∀ {b : Addr}, b < s1.heap.objs.size → b < h1.objs.size := fun h => Nat.lt_trans (Nat.lt_of_lt_of_le h (Nat.le_add_right _ 4)) (Heap.lt_size hz)
  have n0 : s1.heap.objs.size < h1.objs.size := Nat.lt_of_le_of_lt (Nat.le_add_right _ 4) (Heap.lt_size hz)
  have n1 : s1.heap.objs.size + 1 < h1.objs.size := Nat.lt_of_le_of_lt (Nat.add_le_add_left (by decide) _) (Heap.lt_size hz)
  have min_eq : min its.toArray.size its2.toArray.size = min xs.length ys.length := by simp [l1, l2]
  refine call_list_zip (s := { s1 with heap := h1 }) (zip_sep2 (N := s1.heap.objs.size) (fp1 := [a]) (fp2 := [b]) (fun c hc => by rw [List.mem_singleton] at hc; rw [hc]; exact la) (fun c hc => by rw [List.mem_singleton] at hc; rw [hc]; exact lb))
    (Draws.tuple (A := X.A.in1.in1.in1) hh s1.heap.objs.size a (Nat.ne_of_lt la) its.toArray) (Draws.tuple (A := X.A.in1.in1.in1) hh (s1.heap.objs.size + 1) b (lt0 lb 1) its2.toArray) (by rw [min_eq]; exact Nat.le_trans (Nat.min_le_left _ _) hz1) hz hTI hTO
    (fun c hc => by
      rcases List.mem_cons.mp hc with e | hc
      · rw [e]; exact n0
      · rw [List.mem_singleton] at hc; rw [hc]; exact up la)
    (fun c hc => by
      rcases List.mem_cons.mp hc with e | hc
      · rw [e]; exact n1
      · rw [List.mem_singleton] at hc; rw [hc]; exact up lb)
    ⟨st1, ta'⟩ ⟨st2, tb'⟩ fun h2 tk Ts c' k2 hl nn pr => ?_
  have k3 : ∀ b o, s1.heap.get? b = some o → h2.get? b = some o := fun b o e => k2 b o (lt0 (Heap.lt_size e) 4) (lt0 (Heap.lt_size e) 3) (Nat.ne_of_lt (Heap.lt_size e)) (lt0 (Heap.lt_size e) 1) (hk b o e)
  rw [min_eq] at nn
  have hT : ∀ T ∈ Ts, h1.objs.size + 1 ≤ T := fun T h => (pr.new T h).1
  have hS : h1.objs.size ∉ Ts := fun h => Nat.not_succ_le_self _ (hT _ h)
  have big : ∀ T ∈ Ts, s1.heap.objs.size ≤ T := fun T h => Nat.le_trans (Nat.le_of_lt n0) (Nat.le_trans (Nat.le_succ _) (hT T h))
  have I2 : Inv X pins σ (upd (pairsH H1 Ts xs ys) h1.objs.size (.lst (Ts.map V.ref))) { s1 with heap := h2, toks := tk } := by
    refine inv_many I1 k3 (fun p hp => ?_) (fun p o hp e => ?_)
    · rw [upd_ne (show p ≠ h1.objs.size from Nat.ne_of_lt (Nat.lt_trans hp n0)), pairsH_out Ts xs ys fun h => Nat.lt_irrefl _ (Nat.lt_of_lt_of_le hp (big p h))]
    · by_cases hpS : p = h1.objs.size
      · subst hpS
        rw [upd_same] at e
        cases e
        exact ⟨by rw [List.length_map, nn]; exact Nat.le_trans (Nat.min_le_left _ _) hz1, Ts.map Value.ref, c', vals_addrs Ts, hl⟩
      · rw [upd_ne hpS] at e
        by_cases hm : p ∈ Ts
        · obtain ⟨j, hj⟩ := List.getElem?_of_mem hm
          have hjl : j < min xs.length ys.length := by rw [← nn]; exact (List.getElem?_eq_some_iff.mp hj).1
          have ex := List.getElem?_eq_getElem (Nat.lt_of_lt_of_le hjl (Nat.min_le_left _ _))
          have ey := List.getElem?_eq_getElem (Nat.lt_of_lt_of_le hjl (Nat.min_le_right _ _))
          rw [pairsH_get Ts xs ys pr.nodup hj ex ey] at e
          cases e
          obtain ⟨u, u', ht, hu, hu'⟩ := pr.at_ j p hj
          obtain ⟨v, hv, rv1⟩ := rv.get ex
          obtain ⟨v', hv', rv2'⟩ := rv2.get ey
          have e1 : v = u := by simpa [hv] using hu
          have e2 : v' = u' := by simpa [hv'] using hu'
          subst e1; subst e2
          exact ⟨by show 2 ≤ sizeLine; decide, [v, v'], .cons rv1 (.cons rv2' .nil), ⟨_, ht, rfl, _, rfl⟩⟩
        · rw [pairsH_out Ts xs ys hm, I1.hok.fresh hp] at e
          cases e
  exact ⟨.ref h1.objs.size, _, I2, rfl, q Ts h1.objs.size pr.nodup (fun T h => I1.hok.fresh (big T h)) hS (I1.hok.fresh (Nat.le_of_lt n0)) nn⟩
end
end Mi
namespace Mi
open PySem L2 Evl
variable [Tbl]
theorem pairs_grow {O : Addr → Prop} {H0 H : Hp} (sub : Ex H0 H) : ∀ (Ts : List Addr) (xs ys : List V), Ts.Nodup → (∀ T ∈ Ts, H T = none) → Grow O H0 H (pairsH H0 Ts xs ys) (pairsH H Ts xs ys) ∧ Ex (pairsH H0 Ts xs ys) (pairsH H Ts xs ys)
  | [], _, _, _, _ => ⟨Grow.refl _ _ _, sub⟩
  | _ :: _, [], _, _, _ => ⟨Grow.refl _ _ _, sub⟩
  | _ :: _, _ :: _, [], _, _ => ⟨Grow.refl _ _ _, sub⟩
  | T :: Ts, x :: xs, y :: ys, nd, hn => by
    have nd' := List.nodup_cons.mp nd
    obtain ⟨g, e⟩ := pairs_grow (O := O) sub Ts xs ys nd'.2 fun T h => hn T (List.mem_cons_of_mem _ h)
    have n : pairsH H Ts xs ys T = none := (pairsH_out Ts xs ys nd'.1).trans (hn T List.mem_cons_self)
    exact ⟨g.trans (O' := fun _ => False) (Grow.data n e) (fun _ h => h.elim), Ex.upd2 e⟩
omit [Tbl] in
theorem rp_pairs {K : PySem.W.Frag} {H0 Hn : Hp} (sub : Ex H0 Hn) : ∀ (Ts : List Addr) (vs us : List V) (xs ys : List D), Ts.length = min vs.length us.length → RpAll K H0 vs xs → RpAll K H0 us ys →
    (∀ (j : Nat) T x y, Ts[j]? = some T → vs[j]? = some x → us[j]? = some y → Hn T = some (.tup [x, y])) → RpAll K Hn (Ts.map V.ref) (pairUp xs ys)
  | [], vs, us, xs, ys, hl, r1, r2, h => by
    have l1 := r1.len
    have l2 := r2.len
    have : pairUp xs ys = [] := by
      apply List.eq_nil_of_length_eq_zero
      rw [pair_len]; simp at hl; omega
    rw [this]; exact .nil
  | T :: Ts, [], us, xs, ys, hl, r1, r2, h => by simp at hl
  | T :: Ts, v :: vs, [], xs, ys, hl, r1, r2, h => by simp at hl
  | T :: Ts, v :: vs, u :: us, xs, ys, hl, r1, r2, h => by
    cases r1 with
    | cons a1 b1 =>
      cases r2 with
      | cons a2 b2 =>
        refine .cons (.tup (SqT.of (h 0 T v u rfl rfl rfl)) (.cons (a1.m sub) (.one (a2.m sub)))) (rp_pairs sub Ts vs us _ _ (by simp at hl; omega) b1 b2 fun j T' x y e1 e2 e3 => h (j + 1) T' x y e1 e2 e3)
section
variable {X : Cx} {E : XK} {a b ek : Expr} {p p0 pz pos kpos : Pos}
def listZipG : List D → Res R
  | [.tuple xs, .tuple ys] => .ok (.f (pairUp xs ys))
  | _ => .stuck
theorem je_listZip {s : Ga → Res (Ga × List D)} (hc : X.calm = true) (hgl : Gl X "list") (hml : X.mg "list" = none) (hg : Gl X "zip") (hm : X.mg "zip" = none) (h : JA X E [a, b] s) (hek : ∀ s Q, Q (.bool false) s → wpAny (model X.prog X.w) X.A (eval ek X.env) Q X.xe s)
    (na : starEach [.Call (.Name "zip" p) [a, b] [⟨some "strict", ek, kpos⟩] pz] X.env = (false, eval (.Call (.Name "zip" p) [a, b] [⟨some "strict", ek, kpos⟩] pz) X.env) :: starEach [] X.env := by rfl)
    (hs : backTo pz (starEach [a, b] X.env) = (false, eval a X.env) :: backTo pz (starEach [b] X.env) := by rfl) (hpl : (backTo pz (starEach [a, b] X.env)).any (·.1) = false := by rfl) :
    JE X E (.Call (.Name "list" p0) [.Call (.Name "zip" p) [a, b] [⟨some "strict", ek, kpos⟩] pz] [] pos) (sCallB listZipG s) := by
  obtain ⟨t, pp, ha⟩ := h.ex
  refine ⟨_, pe_listZip hc hgl hml hg hm pp hek na hs hpl, fun B σ Γ H0 H Q ok w => ?_⟩
  show t σ H fun vs H1 => _
  refine a_then ha wok_E ok w fun Γ1 x v H01 H1 w1 ok1 g1 l1 r1 => ?_
  unfold listZipG at w1
  split at w1
  · rename_i xs ys hx
    have hx : x = [.tuple xs, .tuple ys] := hx
    subst hx
    cases r1 with
    | cons r1 r2 =>
      cases r2 with
      | cons r2 r3 =>
        cases r3
        cases r1 with
        | tup h1 h2 =>
          cases r2 with
          | tup h3 h4 =>
            rename_i a1 vs _ a2 us
            refine ⟨_, _, _, _, rfl, ex_t ok1.sub h1, ex_t ok1.sub h3, fun Ts S nd fr hS hSn nn => ?_⟩
            obtain ⟨gF, sub⟩ := pairs_grow (O := fun _ => False) ok1.sub Ts _ _ nd fr
            obtain ⟨gO, _⟩ := pairs_grow (O := OwnOf σ Γ1) ok1.sub Ts _ _ nd fr
            have ok2 := ok1.same gF sub
            refine opd_lst ok2 (wok_E.shift Γ1 H01 H1 Γ1 _ _ _ ok1 gO (Less.refl _) w1) (rp_pairs gF.ex0 Ts _ _ _ _ nn h2 h4 fun j T x y e1 e2 e3 => pairsH_get Ts _ _ nd e1 e2 e3) ((pairsH_out Ts _ _ hS).trans hSn)
  · exact w1.elim
end
end Mi
namespace Mi
open PySem L2 Evl
variable [Tbl]
section
variable {X : Cx} {E : XK} {a b : Expr} {p p0 pz pos : Pos}
omit [Tbl] in
theorem rgV_rp {K : PySem.W.Frag} {H : Hp} (lo hi : Int) : RpAll K H (rgV lo hi) (rangeD lo (hi - lo).toNat) := by
  unfold rgV rangeD
  generalize List.range (hi - lo).toNat = l
  induction l with
  | nil => exact .nil
  | cons x r ih => exact .cons (.int _) ih
noncomputable def lstRg : D → D → Res R
  | .int i, .int j => if okB (RgOk i j) = true then .ok (.f (rangeD i (j - i).toNat)) else .stuck
  | _, _ => .stuck
noncomputable def tupRg : D → D → Res R
  | .int i, .int j => if okB (RgOk i j) = true then .ok (.d (.tuple (rangeD i (j - i).toNat))) else .stuck
  | _, _ => .stuck
noncomputable def lstRg1 : D → Res R := lstRg (.int 0)
noncomputable def tupRg1 : D → Res R := tupRg (.int 0)
theorem je_listRg1 {s : Ga → Res (Ga × D)} (hc : X.calm = true) (hgl : Gl X "list") (hml : X.mg "list" = none) (hg : Gl X "range") (hm : X.mg "range" = none) (h : JD X E a s)
    (n1 : starEach [a] X.env = (false, eval a X.env) :: starEach [] X.env := by rfl) (n2 : starEach [.Call (.Name "range" p) [a] [] pz] X.env = (false, eval (.Call (.Name "range" p) [a] [] pz) X.env) :: starEach [] X.env := by rfl) :
    JE X E (.Call (.Name "list" p0) [.Call (.Name "range" p) [a] [] pz] [] pos) (sUn lstRg1 s) := by
  obtain ⟨t, pp, ha⟩ := h.ex
  refine ⟨_, pe_listRg hc hgl hml (prg_1 hg hm pp n1) n2, fun B σ Γ H0 H Q ok w => ?_⟩
  show t σ H fun x H1 => _
  refine d_then ha wok_E ok w fun Γ1 x v H01 H1 w1 ok1 g1 l1 r1 => ?_
  unfold lstRg1 lstRg at w1
  split at w1
  · rename_i i j hi hj
    have hi : PyData.int 0 = .int i := hi
    cases hi
    have hj : x = .int j := hj
    subst hj
    split at w1
    · cases r1.ofInt
      exact ⟨j, rfl, okB_iff.mp (by assumption), fun q hq => opd_lst ok1 w1 (rgV_rp 0 j) hq⟩
    · exact w1.elim
  · exact w1.elim
theorem je_tupleRg1 {s : Ga → Res (Ga × D)} (hc : X.calm = true) (hgl : Gl X "tuple") (hml : X.mg "tuple" = none) (hg : Gl X "range") (hm : X.mg "range" = none) (h : JD X E a s)
    (n1 : starEach [a] X.env = (false, eval a X.env) :: starEach [] X.env := by rfl) (n2 : starEach [.Call (.Name "range" p) [a] [] pz] X.env = (false, eval (.Call (.Name "range" p) [a] [] pz) X.env) :: starEach [] X.env := by rfl) :
    JE X E (.Call (.Name "tuple" p0) [.Call (.Name "range" p) [a] [] pz] [] pos) (sUn tupRg1 s) := by
  obtain ⟨t, pp, ha⟩ := h.ex
  refine ⟨_, pe_tupRg hc hgl hml (prg_1 hg hm pp n1) n2, fun B σ Γ H0 H Q ok w => ?_⟩
  show t σ H fun x H1 => _
  refine d_then ha wok_E ok w fun Γ1 x v H01 H1 w1 ok1 g1 l1 r1 => ?_
  unfold tupRg1 tupRg at w1
  split at w1
  · rename_i i j hi hj
    have hi : PyData.int 0 = .int i := hi
    cases hi
    have hj : x = .int j := hj
    subst hj
    split at w1
    · cases r1.ofInt
      exact ⟨j, rfl, okB_iff.mp (by assumption), fun q hq => opd_tup ok1 w1 (rgV_rp 0 j) hq⟩
    · exact w1.elim
  · exact w1.elim
theorem je_listRg2 {s u : Ga → Res (Ga × D)} (hc : X.calm = true) (hgl : Gl X "list") (hml : X.mg "list" = none) (hg : Gl X "range") (hm : X.mg "range" = none) (h : JD X E a s) (h' : JD X E b u)
    (n1 : starEach [a, b] X.env = (false, eval a X.env) :: starEach [b] X.env := by rfl) (n1' : starEach [b] X.env = (false, eval b X.env) :: starEach [] X.env := by rfl) (n3 : (backTo pz (starEach [b] X.env)).any (·.1) = false := by rfl) (n2 : starEach [.Call (.Name "range" p) [a, b] [] pz] X.env = (false, eval (.Call (.Name "range" p) [a, b] [] pz) X.env) :: starEach [] X.env := by rfl) :
    JE X E (.Call (.Name "list" p0) [.Call (.Name "range" p) [a, b] [] pz] [] pos) (sBin lstRg s u) := by
  obtain ⟨t, pp, ha⟩ := h.ex
  obtain ⟨t', pp', ha'⟩ := h'.ex
  refine ⟨_, pe_listRg hc hgl hml (prg_2 hg hm pp pp' n1 n1' n3) n2, fun B σ Γ H0 H Q ok w => ?_⟩
  show t σ H fun x H1 => t' σ H1 fun y H2 => _
  refine d_then ha wok_E ok w fun Γ1 x v H01 H1 w1 ok1 g1 l1 r1 => ?_
  refine d_then ha' wok_E ok1 w1 fun Γ2 y v' H02 H2 w2 ok2 g2 l2 r2 => ?_
  unfold lstRg at w2
  split at w2
  · rename_i i j hi hj
    have hi : x = .int i := hi
    have hj : y = .int j := hj
    subst hi; subst hj
    split at w2
    · cases r1.ofInt; cases r2.ofInt
      exact ⟨i, j, rfl, rfl, okB_iff.mp (by assumption), fun q hq => opd_lst ok2 w2 (rgV_rp i j) hq⟩
    · exact w2.elim
  · exact w2.elim
theorem je_tupleRg2 {s u : Ga → Res (Ga × D)} (hc : X.calm = true) (hgl : Gl X "tuple") (hml : X.mg "tuple" = none) (hg : Gl X "range") (hm : X.mg "range" = none) (h : JD X E a s) (h' : JD X E b u)
    (n1 : starEach [a, b] X.env = (false, eval a X.env) :: starEach [b] X.env := by rfl) (n1' : starEach [b] X.env = (false, eval b X.env) :: starEach [] X.env := by rfl) (n3 : (backTo pz (starEach [b] X.env)).any (·.1) = false := by rfl) (n2 : starEach [.Call (.Name "range" p) [a, b] [] pz] X.env = (false, eval (.Call (.Name "range" p) [a, b] [] pz) X.env) :: starEach [] X.env := by rfl) :
    JE X E (.Call (.Name "tuple" p0) [.Call (.Name "range" p) [a, b] [] pz] [] pos) (sBin tupRg s u) := by
  obtain ⟨t, pp, ha⟩ := h.ex
  obtain ⟨t', pp', ha'⟩ := h'.ex
  refine ⟨_, pe_tupRg hc hgl hml (prg_2 hg hm pp pp' n1 n1' n3) n2, fun B σ Γ H0 H Q ok w => ?_⟩
  show t σ H fun x H1 => t' σ H1 fun y H2 => _
  refine d_then ha wok_E ok w fun Γ1 x v H01 H1 w1 ok1 g1 l1 r1 => ?_
  refine d_then ha' wok_E ok1 w1 fun Γ2 y v' H02 H2 w2 ok2 g2 l2 r2 => ?_
  unfold tupRg at w2
  split at w2
  · rename_i i j hi hj
    have hi : x = .int i := hi
    have hj : y = .int j := hj
    subst hi; subst hj
    split at w2
    · cases r1.ofInt; cases r2.ofInt
      exact ⟨i, j, rfl, rfl, okB_iff.mp (by assumption), fun q hq => opd_tup ok2 w2 (rgV_rp i j) hq⟩
    · exact w2.elim
  · exact w2.elim
omit [Tbl] in
theorem units65 {k : Nat} {A : Around} (hr : Room k A) : A.units + 65 < cLine := by
  have := hr.un
  omega
end
end Mi
namespace PySem
open Sem (wp)
namespace MiEn
set_option maxHeartbeats 1000000 in
theorem makes {v : Value} {o : Obj} {H : Heap → Prop} (B : Begins v o H) : Meets (Builtin.«enumerate.__new__» ⟨[.type "enumerate", v], []⟩) (fun _ R s => H s.heap ∧
    R (.ok (.ret (.ref (s.heap.push o).objs.size))) { s with heap := (s.heap.push o).push { cls := .type "enumerate", data := .fields #[.none, .bool false, .ref s.heap.objs.size, rawInt 0, .none, .none] } }) := .of_wp fun prog w A R s h => by
  obtain ⟨hp, g, d, tk, os⟩ := s
  obtain ⟨h1, hr⟩ := h
  have sub := sub_enumerate
  have turn : ∀ {A' : Around} {E : Value → Shared → Prop} {Q : Value → Shared → Prop}, Q (.ref hp.objs.size) ⟨hp.push o, g, d, tk, os⟩ → wpAny (model prog w) A' (pyIter v) Q E ⟨hp, g, d, tk, os⟩ := fun q => B.iter prog w _ _ ⟨hp, g, d, tk, os⟩ _ h1 q
  wp_walk using turn
  refine wpAny_stack_any fun st => wpAny_pure ?_
  split
  · rename_i c _ _ _ _ _
    cases (c == Value.type "enumerate") <;> (wp_walk using turn; exact ⟨_, rfl, hr⟩)
  · wp_walk using turn
    exact ⟨_, rfl, hr⟩
theorem called {prog : Program} {w : World} {A : Around} {E : Value → Shared → Prop} {s : Shared} {v : Value} {o : Obj} {H : Heap → Prop} {Q : Value → Shared → Prop} (B : Begins v o H) (h1 : H s.heap)
    (h : ∀ h', IsEnum h' (s.heap.objs.size + 1) s.heap.objs.size 0 .none → h'.get? s.heap.objs.size = some o → (∀ b u, s.heap.get? b = some u → h'.get? b = some u) → Q (.ref (s.heap.objs.size + 1)) { s with heap := h' }) :
    wpAny (model prog w) A (call (.type "enumerate") [v]) Q E s := by
  refine callType_new F.called_enumerate (by decide) (F.typeCall_enumerate_1 _) (F.newCall_enumerate_1 _) (fun obj => F.args_object_init_2 obj _) F.entry_enumerate_new (makes B) ⟨h1, ?_⟩
  have z : (s.heap.push o).objs.size = s.heap.objs.size + 1 := Heap.size_push ..
  show _ ∧ _
  rw [z]
  have en := Heap.get?_push_size (s.heap.push o) (o := { cls := .type "enumerate", data := .fields #[.none, .bool false, .ref s.heap.objs.size, rawInt 0, .none, .none] }) rfl
  rw [z] at en
  exact ⟨⟨_, en, rfl⟩, h _ en (Heap.get?_push_of_some _ (Heap.get?_push_size _ B.free)) fun b u x => Heap.get?_push_of_some _ (Heap.get?_push_of_some _ x)⟩
end MiEn
end PySem
namespace Mi
open PySem PySem.Spec PyProof.Rows L2 Evl
variable [Tbl]
/-! ### enumerate of a tuple -/
def IteT (K : PySem.W.Frag) (a : Addr) : It :=
  ⟨fun i H => ∃ (xs : List V) (x : V), SqT K H a xs ∧ xs[i]? = some x, fun i H v H' => ∃ T x, v = .ref T ∧ H T = none ∧ H' = upd H T (.tup [.int (i : Nat), x]) ∧ ∀ xs, SqT K H a xs → xs[i]? = some x, fun i H => ∃ xs : List V, SqT K H a xs ∧ xs.length ≤ i⟩
omit [Tbl] in
theorem turn_enumT {P : Program} {w : World} {K : PySem.W.Frag} {elts : List Expr} {kk : Nat} {tpos : Pos} (a e it : Addr) (hai : a ≠ it) (hae : e ≠ a) :
    Turn P w K (.Tuple elts kk tpos) (IteT K a) [e, it] e (fun i h => (∃ old, IsEnum h e it ((i : Nat) : Int) old) ∧ h.IsTupleIter it a i ∧ e ≠ it) where
  mem := by simp
  obj := fun i h st b hb => by
    obtain ⟨⟨old, he⟩, ⟨o, ho, hc, hd⟩, _⟩ := st
    rcases (by simpa using hb : b = e ∨ b = it) with z | z
    · rw [z]; exact ⟨_, he, fun v q => nomatch q⟩
    · rw [z]; exact ⟨o, ho, fun v q => by rw [hd] at q; cases q⟩
  keep := fun i h h' st k => let ⟨⟨old, he⟩, hi, hne⟩ := st; ⟨⟨old, k e (by simp) _ he⟩, hi.at fun o q => k it (by simp) o q, hne⟩
  item := by
    intro X hP hw hK hc i pins s σ H E I hf st hg
    subst hP hw hK
    obtain ⟨⟨old, he⟩, hit, hne⟩ := st
    obtain ⟨xs, x, hq, hx⟩ := hg
    obtain ⟨its, rv, p, hz⟩ := I.tuple hq
    obtain ⟨u, hu, ru⟩ := rv.get hx
    have hd : X.A.in1.handled = none := I.ok.hd hc
    have hel : e < s.heap.objs.size := Heap.lt_size he
    have hil : it < s.heap.objs.size := by obtain ⟨_, q, _⟩ := hit; exact Heap.lt_size q
    have hlt : i < its.toArray.size := by
      have := (List.getElem?_eq_some_iff.mp hu).1
      simpa using this
    refine wpAny_pyNext_enum_itemC (Draws.tuple (prog := X.prog) (w := X.w) hd it a hai its.toArray) he ⟨hit, show s.heap.IsTuple a its.toArray from p⟩ hlt hne (by simp [hne, hae]) fun x' h' tk hx' ho hst hT hsz hk => ?_
    have ex : x' = u := by
      have e1 : its[i]? = some x' := by simpa using hx'
      rw [hu] at e1
      exact (Option.some.inj e1).symm
    subst ex
    refine ⟨_, rfl, wpAny_letOwnedTupleGo_enum (s := { s with heap := h', toks := tk + 1 }) ho fun h'' he' sb => ?_⟩
    have hT2 : h''.get? s.heap.objs.size = some { cls := .type "tuple", data := .seq #[.int i tk, x'] } := (sb.2 _ (Nat.ne_of_gt hel)).trans hT
    have new : ObjOk X.prog X.w (upd H s.heap.objs.size (.tup [.int (i : Nat), x])) h'' s.heap.objs.size (.tup [.int (i : Nat), x]) :=
      ⟨by show 2 ≤ sizeLine; decide, [.int i tk, x'], .cons ⟨_, rfl⟩ (.cons ru .nil), ⟨_, hT2, rfl, _, rfl⟩⟩
    have I1 : Inv X pins σ (upd H s.heap.objs.size (.tup [.int (i : Nat), x])) { s with heap := h'', toks := tk + 1 } :=
      I.turnedNew (ch := [e, it]) (fun b ob hb q => (sb.2 b (fun z => hb (by simp [z]))).trans (hk b ob (fun z => hb (by simp [z])) (fun z => hb (by simp [z])) q)) hf (Nat.le_refl _) new
    refine ⟨.ref s.heap.objs.size, _, I1, rfl, ⟨_, x, rfl, I.hok.fresh (Nat.le_refl _), rfl, fun ys hy => by rw [I.tuple_inj hy hq]; exact hx⟩, ⟨⟨x', ?_⟩, hst.1.at fun o q => (sb.2 it (Ne.symm hne)).trans q, hne⟩, fun b hb => ?_⟩
    · have e1 : ((i + 1 : Nat) : Int) = (i : Int) + 1 := by omega
      rw [e1]; exact he'
    · have hb' : b < s.heap.objs.size := by
        rcases (by simpa using hb : b = e ∨ b = it) with z | z
        · rw [z]; exact hel
        · rw [z]; exact hil
      rw [upd_ne (Nat.ne_of_lt hb')]
      exact (hf b hb).1
  done := by
    intro X hP hw hK hc i pins s σ H E I hf st hg
    subst hP hw hK
    obtain ⟨⟨old, he⟩, hit, hne⟩ := st
    obtain ⟨xs, hq, hx⟩ := hg
    obtain ⟨its, rv, p, hz⟩ := I.tuple hq
    obtain ⟨f0, f1, f2, f3, f4, f5⟩ := hf it (by simp)
    have hl := rv.length
    have hd : X.A.in1.handled = none := I.ok.hd hc
    have pt : s.heap.IsTuple a its.toArray := p
    have out : its.toArray[i]? = none := by simp; omega
    have D : Draws X.prog X.w X.A.in1 it [it, a] i (fun _ _ => False) (fun j h => j = i ∧ h.IsTupleIter it a i ∧ h.IsTuple a its.toArray) :=
      ⟨fun j h st => by obtain ⟨_, ⟨o, ho, _⟩, _⟩ := st; exact ⟨o, ho⟩,
       fun j h h' st k => ⟨st.1, st.2.1.at fun o q => k it (by simp) o q, st.2.2.at fun o q => k a (by simp) o q⟩,
       fun j s Q E lt st _ => absurd st.1 (Nat.ne_of_lt lt),
       fun s Q E st k => wpAny_nextOf_tuple_end hd st.2.1 st.2.2 out k⟩
    exact wpAny_pyNext_enum_endD D he ⟨rfl, hit, pt⟩ fun h' eb => ⟨rfl, I.turned (t' := s.toks) (fun b o hb q => eb b o hb q) f0 f1 f3 f4 f5⟩
  self := fun A i s Q E st h => let ⟨⟨_, he⟩, _⟩ := st; wpAny_pyIter_enum he h
def iEnumA (K : PySem.W.Frag) (ta : TA) : TI := fun σ H R => ta σ H fun vs H1 => ∃ a xs, vs = [.ref a] ∧ ((SqL K H1 a xs ∧ R (Ite K a) H1) ∨ (SqT K H1 a xs ∧ R (IteT K a) H1))
omit [Tbl] in
theorem pi_enumA {X : Cx} {e : Expr} {ta : TA} {p pos tpos : Pos} {elts : List Expr} {kk : Nat} (hg : Gl X "enumerate") (hm : X.mg "enumerate" = none) (ha : PA X [e] ta) (hs : starEach [e] X.env = [(false, eval e X.env)] := by rfl) :
    PI X (.Tuple elts kk tpos) (.Call (.Name "enumerate" p) [e] [] pos) (iEnumA X.K ta) := by
  refine ⟨fun pins s σ H R I h => ?_⟩
  refine Call_ (ld_blt I hg hm boot_enumerate (PyProof.Rows.callWith_type1 (thn (ha.run pos pins s σ H _ I h) fun us s1 ⟨vs, H1, I1, r1, q1⟩ => ?_) hs rfl))
  obtain ⟨a, xs, ex, hq⟩ := q1
  subst ex
  cases r1 with
  | cons r rr =>
    cases rr
    cases r
    have two : ∀ b ∈ [s1.heap.objs.size + 1, s1.heap.objs.size], FpOk X pins H1 b := fun b hb => by
      have hle : s1.heap.objs.size ≤ b := by
        rcases (by simpa using hb : b = s1.heap.objs.size + 1 ∨ b = s1.heap.objs.size) with z | z <;> omega
      exact I1.fpOk hle (I1.hok.fresh hle)
    rcases hq with ⟨hq, q⟩ | ⟨hq, q⟩
    · obtain ⟨its, rv, p', hz⟩ := I1.list hq
      refine MiEn.called (begins_list a its.toArray) p'.isList fun h' he ho hk => wpAny_pyIter_enum he ?_
      have hit : h'.IsListIter s1.heap.objs.size a 0 := ⟨_, ho, rfl, rfl⟩
      exact ⟨s1.heap.objs.size + 1, [s1.heap.objs.size + 1, s1.heap.objs.size], _, _, H1, rfl, I1.kept (t' := s1.toks) hk, turn_enum a (s1.heap.objs.size + 1) s1.heap.objs.size, ⟨⟨.none, he⟩, hit, Nat.succ_ne_self _⟩, two, q⟩
    · obtain ⟨its, rv, p', hz⟩ := I1.tuple hq
      have pt : s1.heap.IsTuple a its.toArray := p'
      have lt : a < s1.heap.objs.size := by obtain ⟨o, ho, _⟩ := pt; exact Heap.lt_size ho
      refine MiEn.called (begins_tuple a its.toArray) pt fun h' he ho hk => wpAny_pyIter_enum he ?_
      have hit : h'.IsTupleIter s1.heap.objs.size a 0 := ⟨_, ho, rfl, rfl⟩
      exact ⟨s1.heap.objs.size + 1, [s1.heap.objs.size + 1, s1.heap.objs.size], _, _, H1, rfl, I1.kept (t' := s1.toks) hk, turn_enumT a (s1.heap.objs.size + 1) s1.heap.objs.size (Nat.ne_of_lt lt) (Ne.symm (Nat.ne_of_lt (Nat.lt_succ_of_lt lt))), ⟨⟨.none, he⟩, hit, Nat.succ_ne_self _⟩, two, q⟩
theorem itok_enumT {K : PySem.W.Frag} {p : Addr} {vs : List V} {xs : List D} {H0 : Hp} (h : SqT K H0 p vs) (r : RpAll K H0 vs xs) : ItOk K (IteT K p) (numb 0 xs) H0 where
  stop := fun i H0i Hi e1 e2 hi => ⟨vs, ex_t e2 (ex_t e1 h), by rw [r.len, ← numb_len xs 0]; exact hi⟩
  go := fun i H0i Hi e1 e2 hi => ⟨vs, vs[i]'(by rw [r.len, ← numb_len xs 0]; exact hi), ex_t e2 (ex_t e1 h), List.getElem?_eq_getElem _⟩
  yld := fun i x H0i Hi v H' e1 e2 hx y => by
    obtain ⟨T, w, rfl, hT, rfl, hv⟩ := y
    have e := hv vs (ex_t e2 (ex_t e1 h))
    rw [numb_get] at hx
    obtain ⟨z, hz, rfl⟩ := Option.map_eq_some_iff.mp hx
    obtain ⟨w', e', r'⟩ := r.get hz
    rw [e] at e'; cases e'
    refine new_tup hT e2 (.cons ?_ (.one (r'.m e1)))
    rw [Int.zero_add]; exact .int _
def enumG : List D → Res (List D)
  | [.list xs] => .ok (numb 0 xs)
  | [.tuple xs] => .ok (numb 0 xs)
  | _ => .stuck
omit [Tbl] in
@[simp] theorem z_enumGl {xs : List D} : enumG [.list xs] = .ok (numb 0 xs) := rfl
omit [Tbl] in
@[simp] theorem z_enumGt {xs : List D} : enumG [.tuple xs] = .ok (numb 0 xs) := rfl
theorem ji_enumA {X : Cx} {E : XK} {e : Expr} {p pos tpos : Pos} {elts : List Expr} {kk : Nat} {s : Ga → Res (Ga × List D)} (hg : Gl X "enumerate") (hm : X.mg "enumerate" = none) (h : JA X E [e] s) (hs : starEach [e] X.env = [(false, eval e X.env)] := by rfl) :
    JI X E (.Tuple elts kk tpos) (.Call (.Name "enumerate" p) [e] [] pos) (sItA enumG s) := by
  obtain ⟨t, pp, ha⟩ := h.ex
  refine ⟨_, pi_enumA hg hm pp hs, fun B σ Γ H0 H R ok w => ?_⟩
  have w : IW X B E σ Γ H0 H (sItA enumG s Γ) R := w
  show t σ H fun vs H1 => ∃ a xs, vs = [.ref a] ∧ ((SqL X.K H1 a xs ∧ R (Ite X.K a) H1) ∨ (SqT X.K H1 a xs ∧ R (IteT X.K a) H1))
  refine a_then ha wok_I ok w fun Γ1 x v H01 H1 w1 ok1 g1 l1 r1 => ?_
  unfold enumG at w1
  split at w1
  · rename_i xs hx
    have hx : x = [.list xs] := hx
    subst hx
    cases r1 with
    | cons r1 r2 =>
      cases r2
      cases r1 with
      | lst h1 h2 => exact ⟨_, _, rfl, .inl ⟨SqL.of (ok1.sub _ _ h1), w1 _ H01 H1 ok1 (Grow.refl _ _ _) (Less.refl _) (itok_enum h1 h2)⟩⟩
  · rename_i xs hx
    have hx : x = [.tuple xs] := hx
    subst hx
    cases r1 with
    | cons r1 r2 =>
      cases r2
      cases r1 with
      | tup h1 h2 => exact ⟨_, _, rfl, .inr ⟨ex_t ok1.sub h1, w1 _ H01 H1 ok1 (Grow.refl _ _ _) (Less.refl _) (itok_enumT h1 h2)⟩⟩
  · exact w1.elim
end Mi
namespace Mi
open PySem PySem.Spec PyProof.Rows L2 Evl
variable [Tbl]
/-! ### == of texts of any signs, else of data -/
section
variable {X : Cx} {E : XK}
def eqS : D → D → Res R
  | .str a, .str b => .ok (.d (.bool (decide (a = b))))
  | x, y => eqG x y
def neS : D → D → Res R
  | .str a, .str b => .ok (.d (.bool (!decide (a = b))))
  | x, y => neG x y
omit [Tbl] in
theorem dec_str {a b : Str} : decide (V.str a = V.str b) = decide (a = b) := by
  by_cases h : a = b
  · subst h; simp
  · have : ¬ V.str a = V.str b := fun e => h (by cases e; rfl)
    simp [h, this]
theorem opd_eqS (hu : X.A.units + 64 < cLine) : OpD X E (compareOp .Eq) eqS := by
  obtain ⟨r, h1, h2⟩ := opd_eq (E := E) hu
  refine ⟨_, OpR.or op_eq h1, fun B σ Γ H0 H Q v u x y ok rx ry w => ?_⟩
  unfold eqS at w
  split at w
  · rw [rx.str, ry.str]
    refine .inl ⟨rfl, ?_⟩
    rw [dec_str]
    exact opd_d ok w (.bl _)
  · exact .inr (h2 B σ Γ H0 H Q v u x y ok rx ry w)
theorem opd_neS (hu : X.A.units + 64 < cLine) : OpD X E (compareOp .NotEq) neS := by
  obtain ⟨r, h1, h2⟩ := opd_ne (E := E) hu
  refine ⟨_, OpR.or op_ne h1, fun B σ Γ H0 H Q v u x y ok rx ry w => ?_⟩
  unfold neS at w
  split at w
  · rw [rx.str, ry.str]
    refine .inl ⟨rfl, ?_⟩
    rw [dec_str]
    exact opd_d ok w (.bl _)
  · exact .inr (h2 B σ Γ H0 H Q v u x y ok rx ry w)
end
end Mi
namespace Mi
open PySem PySem.Spec PyProof.Rows L2 Evl
variable [Tbl]
/-! ### defs with a star parameter; calls with starred arguments -/
/-- how the values of a call are bound: the first n by themselves, the rest in a new tuple -/
def spStar (n : Nat) (sp : Sp) : Sp := fun vs H Q E => ∃ ws rest, vs = ws ++ rest ∧ ws.length = n ∧ rest.length ≤ sizeLine ∧ ∀ p, H p = Option.none → sp (ws ++ [V.ref p]) (upd H p (.tup rest)) Q E
def FnS (P : Program) (w : World) (K : PySem.W.Frag) (mg : Str → Option Value) (base : Heap) (k : Nat) (f : Addr) (sp : Sp) : Prop :=
  ∀ (A : Around) (fr : List Env) (s : Shared) (H : Hp) (us : List Value) (vs : List V) (Q : VK) (E : XK), Room k A → A.guards = some [] → Env0 P w K mg base A fr s H → Vals vs us → sp vs H Q E → codeAny (model P w) A (.call (.ref f) ⟨us, []⟩) (CR (L2.CX P w) fr P w H s Q E) s
structure FDS (P : Program) (w : World) (K : PySem.W.Frag) (mg : Str → Option Value) (base : Heap) (k : Nat) (f : Addr) (n : Nat) (m : Ga → Res (Ga × R)) : Prop where
  ok : FnS P w K mg base k f (spStar n (spD K mg (n + 1) m))
  shape : ∀ Γ Γ' r, m Γ = .ok (Γ', r) → Shape Γ Γ'
/-- what a def with a star parameter binds -/
def BindS (fd : FuncData) (ps : List Str) (pv : Str) : Prop := ∀ us rest : List Value, us.length = ps.length → bindArgs fd ⟨us ++ rest, []⟩ = (newTuple rest >>= fun t => pure (ps.zip us ++ [(pv, t)]))
omit [Tbl] in
theorem bind_star0 {B : List Value → Sem (List (Str × Value))} {pv : Str} (h0 : B [] = (newTuple [] >>= fun t => pure [(pv, t)])) (h1 : ∀ r rs, B (r :: rs) = (newTuple (r :: rs) >>= fun t => pure [(pv, t)])) :
    ∀ us rest : List Value, us.length = ([] : List Str).length → B (us ++ rest) = (newTuple rest >>= fun t => pure (([] : List Str).zip us ++ [(pv, t)]))
  | [], [], _ => h0
  | [], r :: rs, _ => h1 r rs
section
variable {P : Program} {w : World} {K : PySem.W.Frag} {mg : Str → Option Value} {base : Heap}
omit [Tbl] in
theorem fnS_of {x qual pv : Str} {st : Stmt} {f : Addr} {fd : FuncData} {N ps : List Str} {k : Nat} {sp : Sp} (F : Fun K x qual st f fd) (S : FnScope N (ps ++ [pv]) (defScope st)) (hb : BindS fd ps pv)
    (hbody : ∀ (cdv : Value) (A : Around) (fr : List Env) (s : Shared) (H : Hp) (vs : List V) (Q : VK) (E : XK), Room k (A.deeper (envOfC qual (defScope st) s.heap.objs.size f cdv)) → A.guards = some [] → sp vs H Q E →
      ∃ t, PSs (cxOf (L2.CX P w) P w K mg base N qual (defScope st) f cdv A fr s H E) (defBody st) t ∧ t { nx := fun _ H' => Q .non H', rt := Q } (L2.start N vs) H) : FnS P w K mg base (k + 1) f (spStar ps.length sp) := by
  obtain ⟨oc, od, kV, doc, pm, an, cdv, ct, osl, rfl, lk, hcd⟩ := F.ex
  intro A fr s H us vs Q E hr hq e0 r hsp
  obtain ⟨ws, rest, rfl, hl, hz, hc⟩ := hsp
  obtain ⟨u1, u2, rfl, r1, r2⟩ := StX.vals_split r
  have new0 : H s.heap.objs.size = Option.none := e0.hok.fresh (Nat.le_refl _)
  have l1 : u1.length = ps.length := by rw [← r1.length]; exact hl
  have l2 : u2.length ≤ sizeLine := by rw [← r2.length]; exact hz
  refine StX.run_bnd lk hcd S hr e0 (G := fun xs H2 => ∃ p, H p = Option.none ∧ xs = ws ++ [V.ref p] ∧ H2 = upd H p (.tup rest)) (fun A' Ex Q' h => ?_) ?_
  · rw [hb u1 u2 l1]
    refine wpAny_bind (wpAny_newTuple (wpAny_pure ?_) l2)
    have laid : ObjOk P w (upd H s.heap.objs.size (.tup rest)) (s.heap.push ({ cls := .type "tuple", data := .seq u2.toArray } : Obj)) s.heap.objs.size (.tup rest) := ⟨hz, u2, r2, ⟨_, Heap.get?_push_size _ rfl, rfl, _, rfl⟩⟩
    have same := StX.un_laid (fs := frs fr) (s := s) (o := ({ cls := .type "tuple", data := .seq u2.toArray } : Obj)) (u := .tup rest) new0
    have done := h _ _ (ws ++ [V.ref s.heap.objs.size]) (u1 ++ [Value.ref s.heap.objs.size]) (StX.env0_laid e0 laid) same rfl (fun e s' => StX.cxUp fr s H _ _ E e s' same (fun b o q => Heap.get?_push_of_some _ q) rfl) (r1.append (.cons rfl .nil))
      (by rw [List.length_append, List.length_append, hl] <;> rfl) ⟨_, new0, rfl, rfl⟩
    rw [List.zip_append l1.symm] at done
    exact done
  · rintro s2 H2 xs ⟨p, hp, rfl, rfl⟩ hr'
    exact hbody cdv A fr s2 _ _ Q E hr' hq (hc p hp)
end
/-- the arguments as the def has them -/
def packS (n : Nat) (s : Ga → Res (Ga × List D)) : Ga → Res (Ga × List D) := fun Γ => (s Γ).bind fun p => if n ≤ p.2.length ∧ p.2.length ≤ sizeLine then .ok (p.1, p.2.take n ++ [.tuple (p.2.drop n)]) else .stuck
def callV (m : Ga → Res (Ga × R)) (n : Nat) (s : Ga → Res (Ga × List D)) : Ga → Res (Ga × R) := callS m (List.replicate (n + 1) none) (packS n s)
section
variable {X : Cx} {E : XK} {B : Bg} {σ : L2.St}
omit [Tbl] in
theorem argR_all {K : PySem.W.Frag} {H0 : Hp} : ∀ {vs : List V} {xs : List D}, RpAll K H0 vs xs → ArgR K H0 σ vs (List.replicate xs.length none) xs
  | [], _, r => by cases r; exact .nil
  | v :: vs, _, r => by
    cases r with
    | cons r1 r2 => exact .d r1 (argR_all r2)
omit [Tbl] in
theorem argR_app {K : PySem.W.Frag} {H0 : Hp} {x : D} {v : V} (r1 : Rp K H0 v x) : ∀ {vs : List V} {xs : List D}, RpAll K H0 vs xs → ArgR K H0 σ (vs ++ [v]) (List.replicate (xs.length + 1) none) (xs ++ [x])
  | [], _, r => by cases r; exact .d r1 .nil
  | u :: vs, _, r => by
    cases r with
    | cons r2 r3 => exact .d r2 (argR_app r1 r3)
theorem callV_sound {t : TA} {n : Nat} {m : Ga → Res (Ga × R)} {s : Ga → Res (Ga × List D)} (sh : ∀ Γ Γ' r, m Γ = .ok (Γ', r) → Shape Γ Γ') (ha : ∀ B σ Γ H0 H Q, EnvOk X.K B σ Γ H0 H → AW X B E σ Γ H0 H (s Γ) Q → t σ H Q) :
    ∀ B σ Γ H0 H Q, EnvOk X.K B σ Γ H0 H → EW X B E σ Γ H0 H (callV m n s Γ) Q → t σ H (fun vs H1 => spStar n (spD X.K X.mg (n + 1) m) vs H1 Q E) := fun B σ Γ H0 H Q ok w => by
  have main := call_sound (X := X) (E := E) (ps := List.replicate (n + 1) "") (ks := List.replicate (n + 1) none) (m := m) (s := packS n s)
    (t := fun σ H Q => t σ H fun vs H1 => ∃ ws rest, vs = ws ++ rest ∧ ws.length = n ∧ rest.length ≤ sizeLine ∧ ∀ p, H1 p = Option.none → Q (ws ++ [V.ref p]) (upd H1 p (.tup rest))) sh (by
      rw [List.filterMap_replicate_of_none (by rfl)]
      exact .nil) (by simp) (fun B σ Γ H0 H Q ok w => by
      refine a_then ha wok_P ok w fun Γ1 xs vs H01 H1 w1 ok1 g1 l1 r1 => ?_
      split at w1
      · rename_i hn
        have hl := r1.len
        have hn : n ≤ xs.length ∧ xs.length ≤ sizeLine := hn
        refine ⟨vs.take n, vs.drop n, (List.take_append_drop n vs).symm, by rw [List.length_take]; omega, by rw [List.length_drop]; omega, fun p hp => ?_⟩
        have gr : Grow (fun _ => False) H01 H1 (upd H01 p (.tup (vs.drop n))) (upd H1 p (.tup (vs.drop n))) := Grow.data hp ok1.sub
        have ok2 := ok1.same gr (Ex.upd2 ok1.sub)
        refine w1 _ _ _ ok2 (gr.wide fun _ h => h.elim) (Less.refl _) ?_
        have rt : RpAll X.K (upd H01 p (.tup (vs.drop n))) (vs.take n) (xs.take n) := (r1.take n).m gr.ex0
        have rp : Rp X.K (upd H01 p (.tup (vs.drop n))) (.ref p) (.tuple (xs.drop n)) := .tup (SqT.of upd_same) ((r1.drop n).m gr.ex0)
        have := argR_app (σ := σ) rp rt
        rw [show (xs.take n).length + 1 = n + 1 by rw [List.length_take]; omega] at this
        exact this
      · exact w1.elim) B σ Γ H0 H Q ok w
  rw [List.length_replicate] at main
  exact main
variable {k : Nat} {f : Addr} {n : Nat} {m : Ga → Res (Ga × R)} {x : Str} {p pos sp_ : Pos} {e : Expr} {es : List Expr} {s : Ga → Res (Ga × List D)}
omit [Tbl] in
theorem run_S {pins : List (Addr × Obj)} {H : Hp} {sh : Shared} {Q : VK} {us : List Value} {vs : List V} {sp : Sp} (F : FnS X.prog X.w X.K X.mg X.base k f sp) (hr : Room k X.A) (hq : X.A.guards = some []) (tk : Takes X fun cls d _ H => E cls d H)
    (I : Inv X pins σ H sh) (r : Vals vs us) (h : sp vs H Q E) : wpAny (model X.prog X.w) X.A (PySem.call (.ref f) us) (EP X pins σ Q) X.xe sh := by
  refine wpAny_call (codeAny_mono (F X.A X.stack sh H us vs Q E hr hq I.env0 r h) ?_)
  intro res s' hres
  match res, hres with
  | .ok (.ret u), c => exact I.after c
  | .ok .next, c => exact c.elim
  | .ok .brk, c => exact c.elim
  | .ok .cont, c => exact c.elim
  | .error ex, c => exact passes_call tk (fun _ _ _ _ z => z) pins σ H sh ex s' I c
structure HasS (P : Program) (w : World) (K : PySem.W.Frag) (mg : Str → Option Value) (base : Heap) (x : Str) (k : Nat) (n : Nat) (m : Ga → Res (Ga × R)) : Prop where
  ex : ∃ f, FDS P w K mg base k f n m ∧ mg x = some (.ref f) ∧ PySem.W.keepIn K (.ref f) = true
omit [Tbl] in
theorem FnS.up {P : Program} {w : World} {K : PySem.W.Frag} {mg : Str → Option Value} {base : Heap} {j k : Nat} {f : Addr} {sp : Sp} (F : FnS P w K mg base j f sp) (h : j ≤ k) : FnS P w K mg base k f sp := fun A fr s H us vs Q E r => F A fr s H us vs Q E (r.mono h)
/-- f(a, b), f a def with a star parameter -/
theorem je_callV {j : Nat} (F : HasS X.prog X.w X.K X.mg X.base x j n m) (hr : Room k X.A) (hj : j ≤ k) (hq : X.A.guards = some []) (hg : Gl X x) (tk : Takes X fun cls d _ H => E cls d H) (ha : JA X E (e :: es) s)
    (hdb : (x == ("__debug__" : Str)) = false := by decide) (he : starEach (e :: es) X.env = (false, eval e X.env) :: starEach es X.env := by rfl) (hpl : (backTo pos (starEach es X.env)).any (·.1) = false := by rfl) :
    JE X E (.Call (.Name x p) (e :: es) [] pos) (callV m n s) := by
  obtain ⟨f, G, hm, hk⟩ := F.ex
  obtain ⟨t, pp, hs⟩ := ha.ex
  refine ⟨fun σ H Q => t σ H fun vs H1 => spStar n (spD X.K X.mg (n + 1) m) vs H1 Q E, ⟨fun pins sh σ H Q I h => ?_⟩, callV_sound G.shape hs⟩
  exact wpAny_Call_Name_kw (ld_glob I hg hm (PySem.W.callWith_K (h₀ := X.base) I.ok.mod.kin hk (thn (pp.run pos pins sh σ H _ I h) fun us s1 ⟨vs, H1, I1, r, q⟩ => ⟨I1.kIn, run_S G.ok (hr.mono hj) hq tk I1 r q⟩) he hpl) hdb)
/-- f() -/
theorem je_callV0 {j : Nat} (F : HasS X.prog X.w X.K X.mg X.base x j n m) (hr : Room k X.A) (hj : j ≤ k) (hq : X.A.guards = some []) (hg : Gl X x) (tk : Takes X fun cls d _ H => E cls d H)
    (hdb : (x == ("__debug__" : Str)) = false := by decide) : JE X E (.Call (.Name x p) [] [] pos) (callV m n sNil) := by
  obtain ⟨f, G, hm, hk⟩ := F.ex
  refine ⟨fun σ H Q => spStar n (spD X.K X.mg (n + 1) m) [] H Q E, ⟨fun pins sh σ H Q I h => ?_⟩, fun B σ Γ H0 H Q ok w => callV_sound (X := X) (E := E) (t := tNil) (s := sNil) G.shape (fun B σ Γ H0 H Q ok w => w [] H0 H ok (Grow.refl _ _ _) (Less.refl _) .nil) B σ Γ H0 H Q ok w⟩
  exact wpAny_Call_Name_kw (ld_glob I hg hm (PySem.W.callWith_K0 I.kIn hk (run_S G.ok (hr.mono hj) hq tk I .nil h)) hdb)
/-- f(a, .., *xs) -/
theorem je_callVs {j : Nat} (F : HasS X.prog X.w X.K X.mg X.base x j n m) (hr : Room k X.A) (hj : j ≤ k) (hq : X.A.guards = some []) (hg : Gl X x) (tk : Takes X fun cls d _ H => E cls d H) (ha : JA X E (e :: es) s)
    (hdb : (x == ("__debug__" : Str)) = false := by decide) (he : starEach (e :: es) X.env = (false, eval e X.env) :: starEach es X.env := by rfl) (hpl : (backTo pos (starEach es X.env)).any (·.1) = true := by rfl) :
    JE X E (.Call (.Name x p) (e :: es) [] pos) (callV m n s) := by
  obtain ⟨f, G, hm, hk⟩ := F.ex
  obtain ⟨t, pp, hs⟩ := ha.ex
  refine ⟨fun σ H Q => t σ H fun vs H1 => spStar n (spD X.K X.mg (n + 1) m) vs H1 Q E, ⟨fun pins sh σ H Q I h => ?_⟩, callV_sound G.shape hs⟩
  refine wpAny_Call_Name_kw (ld_glob I hg hm ?_ hdb)
  exact PySem.W.callWith_S2 (h₀ := X.base) I.ok.mod.kin hk (thn (pp.run pos pins sh σ H _ I h) fun us s1 ⟨vs, H1, I1, r, q⟩ => ⟨I1.kIn, run_S G.ok (hr.mono hj) hq tk I1 r q⟩) he hpl
end
structure DefS (K : PySem.W.Frag) (mg : Str → Option Value) (x : Str) (st : Stmt) (ps : List Str) (pv : Str) (f : Addr) (fd : FuncData) : Prop where
  fn : Fun K x x st f fd
  at_ : mg x = some (.ref f)
  bd : BindS fd ps pv
section
variable {P : Program} {w : World} {K : PySem.W.Frag} {mg : Str → Option Value} {base : Heap}
theorem hasS_of {x pv : Str} {st : Stmt} {ps N : List Str} {f : Addr} {fd : FuncData} {k : Nat} {body : Ga → Res (Ga × Fl)} (D : DefS K mg x st ps pv f fd) (S : FnScope N (ps ++ [pv]) (defScope st))
    (hbody : ∀ (cdv : Value) (A : Around) (outer : List Env) (s : Shared) (H : Hp) (E : XK), Room k (A.deeper (envOfC x (defScope st) s.heap.objs.size f cdv)) → A.guards = some [] →
      JSs (cxOf (L2.CX P w) P w K mg base N x (defScope st) f cdv A outer s H E) E (defBody st) body) : HasS P w K mg base x (k + 1) ps.length (defS (ps.length + 1) (N.length - (ps.length + 1)) body) := by
  have e : (ps ++ [pv]).length = ps.length + 1 := by simp
  have hb := fun cdv A fr s H vs Q E hr hq h => body_ok1 (P := P) (w := w) (K := K) (mg := mg) (base := base) (qual := x) (f := f) S cdv A fr s H vs Q E (hbody cdv A fr s H E hr hq) h
  rw [e] at hb
  exact ⟨f, ⟨fnS_of D.fn S D.bd hb, fun Γ Γ' r h => defS_shape Γ Γ' r h⟩, D.at_, D.fn.kp⟩
end
end Mi
namespace Mi
open PySem PySem.Spec PyProof.Rows L2 Evl PySem.W
variable [Tbl]
/-! ### max(list of ints, default=d) -/
omit [Tbl] in
theorem reads_ints {h : Heap} : ∀ {ns : List Int} {us : List Value}, Vals (ns.map V.int) us → ∃ as, ReadsAll h us (ns.map PyData.int) as
  | [], _, .nil => ⟨_, .nil⟩
  | n :: ns, _, .cons r t => by
    obtain ⟨k, rfl⟩ := r
    obtain ⟨as, q⟩ := reads_ints t
    exact ⟨_, .cons (.int _ _) q⟩
def maxDf (m : Int) : List Int → Int
  | [] => m
  | n :: ns => maxL n ns
omit [Tbl] in
theorem maxL_fold : ∀ (ns : List Int) (n : Int), maxL n ns = ns.foldl max n
  | [], n => rfl
  | k :: ns, n => by
    show maxL (if n < k then k else n) ns = _
    have e : (if n < k then k else n) = max n k := by split <;> omega
    rw [maxL_fold ns, e, List.foldl_cons]
omit [Tbl] in
theorem depth_i : ∀ ns : List Int, PyData.depthAll (ns.map PyData.int) = 0
  | [] => rfl
  | n :: ns => by
    rw [List.map_cons, PyData.depthAll, depth_i ns]
    rfl
section
variable {X : Cx} {E : XK} {e ek : Expr} {p pos kpos : Pos} {ta : TA} {tk : TE}
omit [Tbl] in
theorem pe_maxD (hc : X.calm = true) (hg : Gl X "max") (hm : X.mg "max" = none) (ha : PA X [e] ta) (hk : PE X ek tk) (hu : X.A.units + 64 < cLine)
    (hpl : (backTo pos (starEach [e] X.env)).any (·.1) = false := by rfl) (he : backTo pos (starEach [e] X.env) = (false, eval e X.env) :: backTo pos (starEach [] X.env) := by rfl) :
    PE X (.Call (.Name "max" p) [e] [⟨some "default", ek, kpos⟩] pos) (fun σ H Q => ta σ H fun vs H1 => tk σ H1 fun d H2 => ∃ (a : Addr) (ns : List Int) (m : Int), vs = [V.ref a] ∧ d = V.int m ∧ SqL X.K H2 a (ns.map V.int) ∧ Q (.int (maxDf m ns)) H2) := by
  refine ⟨fun pins s σ H Q I h => ?_⟩
  refine wpAny_Call_Name_kw (ld_blt I hg hm boot_max (callWith_kw ?_ he hpl rfl rfl))
  refine thn (ha.run pos pins s σ H _ I h) fun us s1 ⟨vs, H1, I1, r1, q1⟩ => ?_
  refine kws_cons (thn (hk.run pins s1 σ H1 _ I1 q1) fun dv s2 ⟨d, H2, I2, rd, a, ns, m, ev, ed, hs, q⟩ => ?_)
  refine kws_nil ?_
  subst ev ed
  obtain ⟨td, rfl⟩ := rd
  rw [Vals.ref1 r1]
  obtain ⟨its, rv, hl, hz⟩ := I2.list hs
  obtain ⟨as, rr⟩ := reads_ints (h := s2.heap) rv
  have alike0 : AlikeAll (ns.map PyData.int) := by
    refine ⟨fun x hx y hy => ?_, fun x hx => ?_⟩
    · obtain ⟨i, _, rfl⟩ := List.mem_map.mp hx
      obtain ⟨j, _, rfl⟩ := List.mem_map.mp hy
      rfl
    · obtain ⟨i, _, rfl⟩ := List.mem_map.mp hx
      simp
  have dep : PyData.depthAll (ns.map PyData.int) = 0 := depth_i ns
  refine max_list_default (I2.ok.hd hc) hl.isList (by simpa using rr) alike0 (by rw [dep]; omega) (fun hn h' tk' kp => ?_) fun y ys i v h' tk' bs hn hv rd kp => ?_
  · have : ns = [] := by simpa using hn
    subst this
    exact ⟨.int m, H2, I2.kept (t' := tk') kp, ⟨td, rfl⟩, q⟩
  · cases ns with
    | nil => cases hn
    | cons n ns =>
      rw [List.map_cons] at hn
      injection hn with h1 h2
      subst h1 h2
      rw [maxD_ints, ← maxL_fold] at rd
      have ev : ∃ t, v = Value.int (maxL n ns) t := by
        cases rd
        exact ⟨_, rfl⟩
      obtain ⟨t, rfl⟩ := ev
      exact ⟨.int _, H2, I2.kept (t' := tk') kp, ⟨t, rfl⟩, q⟩
def maxDG : D → D → Res R
  | .list xs, .int m => match intsOf xs with | some ns => .ok (.d (.int (maxDf m ns))) | none => .stuck
  | _, _ => .stuck
theorem maxDG_of {x y : D} {Γ : Ga} {B : Bg} {σ : L2.St} {H0 H : Hp} {Q : VK} (w : EW X B E σ Γ H0 H ((maxDG x y).bind fun z => .ok (Γ, z)) Q) : ∃ xs m ns, x = .list xs ∧ y = .int m ∧ intsOf xs = some ns ∧ EW X B E σ Γ H0 H (.ok (Γ, .d (.int (maxDf m ns)))) Q := by
  unfold maxDG at w
  split at w
  · split at w
    · exact ⟨_, _, _, rfl, rfl, by assumption, w⟩
    · exact w.elim
  · exact w.elim
theorem je_maxD {sa sk : Ga → Res (Ga × D)} (hc : X.calm = true) (hg : Gl X "max") (hm : X.mg "max" = none) (hu : X.A.units + 64 < cLine) (ha : JD X E e sa) (hk : JD X E ek sk)
    (hpl : (backTo pos (starEach [e] X.env)).any (·.1) = false := by rfl) (he : backTo pos (starEach [e] X.env) = (false, eval e X.env) :: backTo pos (starEach [] X.env) := by rfl) (hs : starEach (e :: []) X.env = (false, eval e X.env) :: starEach [] X.env := by rfl) :
    JE X E (.Call (.Name "max" p) [e] [⟨some "default", ek, kpos⟩] pos) (sBin maxDG sa sk) := by
  obtain ⟨ta, pa, qa⟩ := ha.ex
  obtain ⟨tk, pk, qk⟩ := hk.ex
  refine ⟨_, pe_maxD hc hg hm (pa_cons pa pa_nil hs) pk hu hpl he, fun B σ Γ H0 H Q ok w => ?_⟩
  show ta σ H fun x H1 => tk σ H1 fun d H2 => _
  refine d_then qa wok_E ok w fun Γ1 x v H01 H1 w1 ok1 g1 l1 r1 => ?_
  refine d_then qk wok_E ok1 w1 fun Γ2 y u H02 H2 w2 ok2 g2 l2 r2 => ?_
  obtain ⟨xs, m, ns, rfl, rfl, hns, w3⟩ := maxDG_of w2
  obtain ⟨a, vs, rfl, h1, rr⟩ := (RpB.lst (H := H2) (.inl (r1.m g2.ex0)) ok2.sub)
  rw [ints_rp rr hns] at h1
  exact ⟨a, ns, m, rfl, r2.ofInt, SqL.of h1, opd_d ok2 w3 (.int _)⟩
end
end Mi
namespace Mi
open PySem PySem.Spec PyProof.Rows L2 Evl
variable [Tbl]
/-! ### divmod -/
noncomputable def divmodW : List D → Res R
  | [.int i, .int j] => if okB (0 < j ∧ j.natAbs.log2 < 9000) = true then .ok (.d (.tuple [.int (i / j), .int (i % j)])) else .stuck
  | _ => .stuck
section
variable {X : Cx} {E : XK}
theorem cd_divmod : CallD X E (.builtin "divmod") divmodW := by
  refine ⟨_, L2.call_divmodW, fun B σ Γ H0 H Q vs xs ok rx w => ?_⟩
  unfold divmodW at w
  split at w
  · split at w
    · rename_i i j hz
      obtain ⟨h1, h2⟩ := okB_iff.mp hz
      exact ⟨i, j, rp2 rx, ⟨h1, PyProof.noPylong_of_log2 h2⟩, fun p hp => opd_tup ok w (.cons (.int _) (.cons (.int _) .nil)) hp⟩
    · exact w.elim
  · exact w.elim
end
end Mi
namespace Mi
open PySem PySem.Spec PyProof.Rows L2 Evl
variable [Tbl]
/-! ### a, b = a list of that length -/
def gLst' (h : List D → Ga → Option Ga) (n : Nat) : D → Ga → Option Ga := fun x Γ => match x with | .list xs => if xs.length = n then h xs Γ else none | _ => none
section
variable {X : Cx} {pos : Pos}
theorem jg_lst {es : List Expr} {k n : Nat} {h : List D → Ga → Option Ga} (hc : X.calm = true) (hh : JGs X es h) (hn : (assignEach es X.env).length = n := by rfl) (hst : (assignEach es X.env).findIdx? (·.1) = none := by rfl) : JG X (.Tuple es k pos) (gLst' h n) := by
  obtain ⟨t, p, ha⟩ := hh.ex
  refine ⟨_, pg_lst hc p hn hst, fun B σ Γ H0 H v x Γ' Q ok r e k => ?_⟩
  unfold gLst' at e
  split at e
  · split at e
    · rename_i xs hl
      cases r with
      | lst h1 h2 => exact ⟨_, _, rfl, SqL.of (ok.sub _ _ h1), by rw [h2.len]; exact hl, ha B σ Γ H0 H _ xs Γ' Q ok h2 e k⟩
    · cases e
  · cases e
omit [Tbl] in
@[simp] theorem z_gLst {b : List D → Ga → Option Ga} {n : Nat} {xs : List D} {Γ : Ga} : gLst' b n (.list xs) Γ = if xs.length = n then b xs Γ else none := rfl
/-- a body of which nothing is told: the bottom of a def that calls itself -/
theorem jss_stuck {E : XK} {st : List Stmt} : JSs X E st (fun _ => .stuck) := ⟨fun _ _ _ => False, ⟨fun pins s σ H D I h => h.elim⟩, fun B σ Γ H0 H Dn ok w => w.elim⟩
end
end Mi
namespace Mi
open PySem PySem.Spec PyProof.Rows L2 Evl
variable [Tbl]
/-! ### raise C(e), C of the program, over a built-in class of errors, with an __init__ that keeps its one argument (the rules of HandS for ValueError, turned to any of those built-in classes) -/
/-- a built-in class of errors: what the library knows of it -/
structure BaseE (bmB : List Value) (newId : String) : Prop where
  ex : ∃ B initId, PySem.ExcBaseFacts B newId initId bmB ∧ PySem.StoreFacts B bmB "object.__setattr__" "object"
/-- a class over it -/
structure OexT (K : PySem.W.Frag) (C : Addr) : Prop where
  cls : ∃ bmB newId nm q N bs bm sn sub ab col dd k0 k1 k2 k3 k5, BaseE bmB newId ∧ K.lookup C = some (excClassObj nm q C N bs bm true sn sub ab col dd k0 k1 k2 k3 k5 newId) ∧ PySem.W.excTail bmB bm = true
  sa : PySem.W.findIn K (.ref C) "__setattr__" = some (some (.builtin "object.__setattr__"))
  exC : PySem.W.subIn K (.ref C) (.type "BaseException") = some true
  tyC : PySem.W.typeIn K (.ref C) = some (.type "type")
  kC : PySem.W.keepIn K (.ref C) = true
section
open Builtin Builtin.ObjectAttr PySem.W
variable {prog : Program} {w : World} {A : Around} {E : Value → Shared → Prop} {R : Result → Shared → Prop} {hp : Heap} {g : Array GenState} {d : Drawn} {t : Nat} {os : OsState}
omit [Tbl] in
/-- the first field of a new error -/
theorem osa_first {K : Frag} {B : String} {bmB : List Value} {name : Str} {tk : Tok} {v : Value} {x C : Addr} {fv : Array Value} {cd : ClassData} (SF : StoreFacts B bmB "object.__setattr__" "object")
    (X : K.In hp) (hx : hp.get? x = some { cls := .ref C, data := .fields fv }) (hcd : clsIn K C = some cd) (hov : excOver K C bmB = true) (hh : cd.hasDict = true) (ha : findIn K (.ref C) name = some none)
    (hq : ∀ h' tk' dx, (∀ b o, b ≠ x → hp.get? b = some o → h'.get? b = some o) → hp.objs.size ≤ dx → dx ≠ x → h'.get? x = some { cls := .ref C, dict := some dx, data := .fields fv } →
      h'.Ns1 dx (fun y => if y = name then some v else none) → R (.ok (.ret .none)) ⟨h', g, d, tk', os⟩) :
    codeAny (model prog w) A (.call (.builtin "object.__setattr__") ⟨[.ref x, .str name tk, v], []⟩) R ⟨hp, g, d, t, os⟩ := by
  have hxs : x ≠ hp.objs.size := Nat.ne_of_lt (Heap.lt_size hx)
  have I : InstAt hp x { cls := .ref C, data := .fields fv } C none := ⟨hx, rfl, rfl, trivial⟩
  have ht : takerIn K C name = some none := by unfold takerIn; rw [ha] <;> rfl
  refine osa_openX (s := ⟨hp, g, d, t, os⟩) (od := none) SF X I hov ht fun b => ?_
  have hcls : Looks (model prog w) hp (classData C) cd := looks_clsIn X hcd
  obtain ⟨nm, bs, mro, ns, qn, hd, sn, sb, ab, col, del⟩ := cd
  dsimp only at hh
  subst hh
  show wpAny _ _ (storeInOwnDict (.ref x) (.ref C) (.str name tk) name v b) _ _ _
  unfold storeInOwnDict ownDictForStores
  repeat (first | with_reducible refine PySem.HandSPX.store_in_new ?_ ?_ | with_reducible refine wpAny_loadPart_at hx ?_ | with_reducible refine hcls.at ?_ | wp_step)
  · exact ⟨_, #[], _, (Heap.get?_update_ne _ _ _ _ hxs.symm).trans (Heap.get?_push_at rfl rfl), rfl, fun e he => absurd he (by simp), fun _ => rfl⟩
  · intro h' tk' hn' hs
    have hx₁ : (hp.push { cls := .type "dict", data := .dict #[] }).get? x = some { cls := .ref C, data := .fields fv } := Heap.get?_push_of_some _ hx
    refine hq h' tk' hp.objs.size (fun b o hb ho => ?_) (Nat.le_refl _) hxs.symm ?_ hn'
    · exact (hs.2 b (Nat.ne_of_lt (Heap.lt_size ho))).trans ((Heap.get?_update_ne _ _ _ _ hb).trans (Heap.get?_push_of_some _ ho))
    · exact (hs.2 x hxs).trans (Heap.get?_update_self _ hx₁ rfl)
end
section
variable {X : Cx} {pins : List (Addr × Obj)} {σ : L2.St} {H : Hp} {s : Shared} {a C dx : Addr} {f : Str} {y : V} {u : Value} {Q : Unit → Shared → Prop} {E : Value → Shared → Prop} {A : Around}
omit [Tbl] in
/-- self.f = y, the first one -/
theorem ost_first (T : OexT X.K C) (I : Inv X pins σ H s) (e : H a = some (exo a C none)) (hno : PySem.W.findIn X.K (.ref C) f = some none) (ry : RelV y u)
    (h : ∀ dx s', H dx = none → dx ≠ a → Inv X pins σ (upd (upd H dx (exd dx [(f, y)])) a (exo a C (some dx))) s' → Q () s') : wpAny (model X.prog X.w) A (setAttr (.ref a) f u) Q E s := by
  obtain ⟨bmB, newId, nm, q, N, bs, bm, sn, sub, ab, col, dd, k0, k1, k2, k3, k5, ⟨B, initId, FB, SF⟩, hC, hbm⟩ := T.cls
  have hcl : PySem.W.clsIn X.K C = some { name := nm, bases := bs, mro := .ref C :: bm, ns := N, qualname := q, hasDict := true, slotNames := sn, subclasses := sub, abstract := ab, collection := col, hasDel := false } := by unfold PySem.W.clsIn; rw [hC] <;> rfl
  have hov : PySem.W.excOver X.K C bmB = true := by
    unfold PySem.W.excOver
    rw [hcl]
    show ((C == C) && PySem.W.excTail bmB bm) = true
    rw [hbm]; simp
  obtain ⟨t1, ho⟩ := exo_at I.hok e
  obtain ⟨hp, g, d, t, os⟩ := s
  refine PySem.W.set_plain I.kIn (ox := { cls := .ref C, dict := none, data := .fields #[.ref t1, .none, .none, .none, .bool false, .none] }) (od := none) ⟨ho, rfl, rfl, trivial⟩ T.sa ?_
  refine osa_first SF I.kIn ho hcl hov rfl hno ?_
  intro h' tk' dx k dn dne hx hn
  have hnd : H dx = none := I.hok.fresh dn
  have old : ∀ {b : Addr} {o : Obj}, hp.get? b = some o → b ≠ dx := fun {b o} q => Nat.ne_of_lt (Nat.lt_of_lt_of_le (Heap.lt_size q) dn)
  have na : ∀ {b : Addr}, H b = none → b ≠ a := fun {b} n z => by rw [z, e] at n; cases n
  have other : ∀ {b : Addr} {o : HO}, H b = some o → o ≠ exo a C none → upd (upd H dx (exd dx [(f, y)])) a (exo a C (some dx)) b = some o := fun {b o} q n => by
    rw [upd_ne (fun z => by rw [z, e] at q; exact n (Option.some.inj q).symm), upd_ne (ne_of_none q hnd)]
    exact q
  have U : Un X.fs [] H (upd (upd H dx (exd dx [(f, y)])) a (exo a C (some dx))) hp h' := by
    refine ⟨fun b o q n _ _ => k b o (na n) q, fun b o q n _ _ => ⟨o.slots, k b o (na n) q⟩, fun b o q n _ => by rw [upd_ne (na n), upd_ne (old q)]; exact n, fun b o q _ => ?_, fun b xs q => other q (Ne.symm exo_tup), fun b o v q => other q (Ne.symm exo_frz), fun b ps q => ⟨#[], by rw [other q (Ne.symm exo_tbl)]; simp⟩⟩
    by_cases hb : b = a
    · exact ⟨_, by rw [hb]; exact hx⟩
    · exact ⟨o, k b o hb q⟩
  refine h dx _ hnd dne (I.un (t' := tk') U fun b o q => ?_)
  by_cases hb : b = a
  · subst hb
    rw [upd_same] at q
    cases q
    exact exo_ok hx
  · rw [upd_ne hb] at q
    by_cases hd : b = dx
    · subst hd
      rw [upd_same] at q
      cases q
      exact exd_ok hn (relO_put (fs := []) ry fun g => True.intro)
    · rw [upd_ne hd] at q
      refine (I.hok b o q).stay (fun c v hc z => k c v ?_ z) (fun c hc => other hc (Ne.symm exo_own)) (fun c xs hc => other hc (Ne.symm exo_tup))
      rcases hc with hc | hc
      · rw [hc]; exact hb
      · exact fun z => by rw [z, e] at hc; exact exo_own (Option.some.inj hc)
end
/-- self.f = e, the first field -/
def tOst1 (K : PySem.W.Frag) (f : Str) (to te : TE) : TS := fun D σ H => te σ H fun y H1 => to σ H1 fun x H2 => ∃ a C : Addr, x = .ref a ∧ OexT K C ∧ PySem.W.findIn K (.ref C) f = some none ∧
  H2 a = some (exo a C none) ∧ ∀ dx, H2 dx = none → dx ≠ a → D.nx σ (upd (upd H2 dx (exd dx [(f, y)])) a (exo a C (some dx)))
section
variable {X : Cx} {o e : Expr} {es : List Expr} {to te : TE} {ta : TA} {f : Str} {p p' p1 p2 pos : Pos}
omit [Tbl] in
theorem ps_ost1 (ho : PE X o to) (he : PE X e te) (hs : swapsWith e (some (.Attribute o f p')) pos.line X.env = pure false := by rfl) : PS X (.Assign [.Attribute o f p'] e pos) (tOst1 X.K f to te) := by
  constructor
  intro pins s σ H D I h
  refine plainObj_wpAny_Assign_Attribute (thn (he.run pins s σ H _ I h) fun v s1 ⟨y, H1, I1, r1, q1⟩ => thn (ho.run pins s1 σ H1 _ I1 q1) ?_) hs
  rintro u s2 ⟨x, H2, I2, r2, a, C, rfl, T, hno, ea, q⟩
  obtain rfl : u = Value.ref a := r2
  exact ost_first T I2 ea hno r1 fun dx s' n ne J => ⟨σ, _, J, q dx n ne⟩
omit [Tbl] in
theorem pmk_oexT {CX : CXT} {x : Str} {C fI : Addr} {k : Nat} {fd : FuncData} {ps : List Str} {sp : Sp} {ds : List Value} {dvs : List V} (T : OexT X.K C) (iC : PySem.W.findIn X.K (.ref C) "__init__" = some (some (.ref fI))) (tI : PySem.W.typeIn X.K (.ref fI) = some (.type "function"))
    (F1 : FnOk X.prog X.w X.K X.mg X.base CX k fI fd ps sp) (hr : Room (k + 1) X.A) (hb : Binds X.K fd ps ds) (hd : Vals dvs ds) (hx : Passes CX X (fun _ _ _ => False)) (hg : Gl X x) (hm : X.mg x = some (.ref C)) (ha : PA X (e :: es) ta)
    (hdb : (x == ("__debug__" : Str)) = false := by decide) (he : starEach (e :: es) X.env = (false, eval e X.env) :: starEach es X.env := by rfl) (hpl : (backTo pos (starEach es X.env)).any (·.1) = false := by rfl) :
    PMk X (.Call (.Name x p) (e :: es) [] pos) (tMkO C sp dvs ta) := by
  intro pins s σ H Q I h
  obtain ⟨bmB, newId, nm, q, N, bs, bm, sn, sub, ab, col, dd, k0, k1, k2, k3, k5, ⟨B, initId, FB, SF⟩, hC, hbm⟩ := T.cls
  refine wpAny_Call_Name_kw (ld_glob I hg hm ?_ hdb)
  refine PySem.W.callWith_K (h₀ := X.base) I.ok.mod.kin T.kC (thn (ha.run pos pins s σ H _ I h) ?_) he hpl
  rintro us ⟨hp, g, dr, tk, os⟩ ⟨vs, H1, I1, r1, hz, q1⟩
  refine ⟨I1.kIn, ?_⟩
  show wpAny _ _ (call (.ref C) us) _ _ _
  let a : Addr := hp.objs.size + 1
  let h2 : Heap := (hp.push (PySem.W.kdv_tup us)).push (PySem.HandSPX.excO C hp.objs.size)
  have big : hp.objs.size ≤ a := Nat.le_succ _
  have hq := q1 a (I1.hok.fresh big)
  have kk : ∀ b o, hp.get? b = some o → h2.get? b = some o := fun b o e => Heap.get?_push_of_some _ (Heap.get?_push_of_some _ e)
  have hget : h2.get? a = some (PySem.HandSPX.excO C hp.objs.size) := by show ((hp.push (PySem.W.kdv_tup us)).push (PySem.HandSPX.excO C hp.objs.size)).get? (hp.objs.size + 1) = _; heap_get
  have I2 : Inv X pins σ (upd H1 a (exo a C none)) ⟨h2, g, dr, tk, os⟩ := I1.laid (t' := tk) (a := a) (o := exo a C none) (h' := h2) kk big (exo_ok hget)
  have r2 : Vals (V.ref a :: (vs ++ dvs)) (Value.ref a :: (us ++ ds)) := .cons rfl (r1.append hd)
  have hl : (Value.ref a :: us ++ ds).length = ps.length := by
    have e := r2.length
    rw [F1.len _ _ _ _ hq] at e
    exact e.symm
  have hus : us.length ≤ sizeLine := by
    rw [← Paired.length r1, sizeLine_eq]
    omega
  have run := F1.run _ X.stack _ _ ⟨Value.ref a :: us, []⟩ (Value.ref a :: (us ++ ds)) _ _ (fun _ _ _ => False) (hr.make C us []) (I2.env0.make C us []) (hb _ (Value.ref a :: us) I2.kIn hl) r2 hq
  refine wpAny_call (PySem.HandSPX.call_own FB (fun Y => PySem.W.excTail_contains Y bm hbm) (I1.kIn _ _ hC) (PySem.W.looks_findIn I1.kIn iC) (fun self => PySem.W.bind_fn I1.kIn self tI) hus (codeAny_mono run ?_))
  rintro r s' hq'
  match r, hq' with
  | .error er, z => exact hx pins σ _ _ er s' I2 z
  | .ok (.ret u), z =>
    obtain ⟨v, H2, os2, bare2, un2, hok2, rv, rfl, d, fs, ea, ed, hd1, q2⟩ := z
    obtain ⟨h2, g2, d2, t2, os'⟩ := s'
    exact ⟨rv, mk_end (raises_own T.exC T.tyC) I1 big kk un2 hok2 os2 bare2 ea ed hd1 q2⟩
  | .ok .next, z => exact z.elim
  | .ok .brk, z => exact z.elim
  | .ok .cont, z => exact z.elim
end
/-- what such an __init__ does -/
def spInit (fld : Str) (C : Addr) : Sp := fun vs H Q _ => ∃ a v, vs = [.ref a, v] ∧ H a = some (exo a C none) ∧ ∀ dx, H dx = none → dx ≠ a → Q .non (upd (upd H dx (exd dx [(fld, v)])) a (exo a C (some dx)))
/-- a class of errors -/
structure ErrC (P : Program) (w : World) (K : PySem.W.Frag) (mg : Str → Option Value) (base : Heap) (k : Nat) (c : Str) : Prop where
  ex : ∃ C fI fd, OexT K C ∧ PySem.W.findIn K (.ref C) "__init__" = some (some (.ref fI)) ∧ PySem.W.typeIn K (.ref fI) = some (.type "function") ∧ FnOk P w K mg base CX0 k fI fd ["self", fieldOf c] (spInit (fieldOf c) C) ∧ Binds K fd ["self", fieldOf c] [] ∧ mg c = some (.ref C)
def sRaise (c : Str) (s : Ga → Res (Ga × D)) : Ga → Res (Ga × Fl) := fun Γ => (s Γ).bind fun p => .exc c p.2
section
variable {X : Cx} {E : XK} {e : Expr} {p pos pos2 : Pos} {c : Str} {s : Ga → Res (Ga × D)} {j k : Nat}
omit [Tbl] in
theorem del_upd {H : Hp} {a d : Addr} {o1 o2 o3 o4 : HO} (ha : H a = none) (hda : d ≠ a) : upd (del (upd (upd (upd H a o1) d o2) a o3) a) d o4 = upd H d o4 := by
  funext b
  by_cases h : b = d
  · subst h
    rw [upd_same, upd_same]
  · rw [upd_ne h, upd_ne h]
    by_cases q : b = a
    · subst q
      rw [del_same, ha]
    · rw [del_ne q, upd_ne q, upd_ne h, upd_ne q]
theorem js_raise (hc : X.calm = true) (F : ErrC X.prog X.w X.K X.mg X.base j c) (hr : Room k X.A) (hj : j + 1 ≤ k) (tk : Takes X fun cls d _ H => E cls d H) (hx : Passes CX0 X (fun _ _ _ => False)) (hg : Gl X c) (he : JD X E e s)
    (hdb : (c == ("__debug__" : Str)) = false := by decide) (hs : starEach (e :: []) X.env = (false, eval e X.env) :: starEach [] X.env := by rfl) (hpl : (backTo pos (starEach [] X.env)).any (·.1) = false := by rfl) :
    JS X E (.Raise (some (.Call (.Name c p) [e] [] pos)) none pos2) (sRaise c s) := by
  obtain ⟨C, fI, fd, T, iC, tI, F1, hb, hm⟩ := F.ex
  obtain ⟨te, pe, ha⟩ := he.ex
  refine ⟨_, ps_raise hc tk (pmk_oexT (dvs := []) (ds := []) T iC tI F1 (hr.mono hj) hb .nil hx hg hm (pa_cons pe pa_nil hs) hdb hs hpl), fun B σ Γ H0 H Dn ok w => ?_⟩
  show tCons te tNil σ H _
  refine ha B σ Γ H0 H _ ok ?_
  unfold sRaise at w
  cases hsΓ : s Γ with
  | stuck => rw [hsΓ] at w; exact w.elim
  | exc c' x => rw [hsΓ] at w; exact w
  | ok r =>
    rw [hsΓ] at w
    obtain ⟨Γ', x⟩ := r
    intro v H0' H' ok' g l rv
    have w : XW X B E c x := w
    refine ⟨by simp, fun a hna => ⟨a, v, rfl, upd_same, fun dx hdx hne => ⟨rfl, dx, [(fieldOf c, v)], upd_same, ?_, ?_, ?_⟩⟩⟩
    · rw [upd_ne hne, upd_same]
    · rw [upd_ne hne] at hdx
      exact hdx
    · rw [upd_ne hne] at hdx
      rw [del_upd hna hne]
      exact w C dx v H0' _ hm upd_same rv (ok'.sub.trans (Ex.new hdx)) (ok'.grow.trans (Grow.fresh hdx) fun p hp => .inl hp)
end
section
variable {P : Program} {w : World} {K : PySem.W.Frag} {mg : Str → Option Value} {base : Heap}
omit [Tbl] in
theorem init_ok {qual fld : Str} {st : Stmt} {f C : Addr} {fd : FuncData} (F : Fun K "__init__" qual st f fd) (S : FnScope ["self", fld] ["self", fld] (defScope st)) (T : OexT K C) (noN : PySem.W.findIn K (.ref C) fld = some none)
    (hb : ∀ (cdv : Value) (A : Around) (outer : List Env) (s : Shared) (H : Hp) (E : XK), PSs (cxOf CX0 P w K mg base ["self", fld] qual (defScope st) f cdv A outer s H E).nox (defBody st) (tOst1 K fld (tVar 0) (tVar 1))) :
    FnOk P w K mg base CX0 1 f fd ["self", fld] (spInit fld C) := by
  refine F.ok S (fun vs H Q E h => ?_) (fun cdv A outer s H vs Q E hr h => ⟨_, hb cdv A outer s H E, ?_⟩)
  · obtain ⟨a, v, rfl, -⟩ := h
    rfl
  · obtain ⟨a, v, rfl, ha, q⟩ := h
    exact ⟨v, rfl, .ref a, rfl, a, C, rfl, T, noN, ha, fun dx hdx hne => q dx hdx hne⟩
/-- the first statement of a class's body -/
def clsInit : Stmt → Stmt
  | .ClassDef _ _ _ body .. => body.getD 0 (.Pass ⟨0, 0, 0, 0⟩)
  | s => s
omit [Tbl] in
theorem errC_of {c qual : Str} {st : Stmt} {f C : Addr} {fd : FuncData} (F : Fun K "__init__" qual st f fd) (S : FnScope ["self", fieldOf c] ["self", fieldOf c] (defScope st)) (T : OexT K C) (noN : PySem.W.findIn K (.ref C) (fieldOf c) = some none)
    (iC : PySem.W.findIn K (.ref C) "__init__" = some (some (.ref f))) (tI : PySem.W.typeIn K (.ref f) = some (.type "function")) (bd : Binds K fd ["self", fieldOf c] []) (hm : mg c = some (.ref C))
    (hb : ∀ (cdv : Value) (A : Around) (outer : List Env) (s : Shared) (H : Hp) (E : XK), PSs (cxOf CX0 P w K mg base ["self", fieldOf c] qual (defScope st) f cdv A outer s H E).nox (defBody st) (tOst1 K (fieldOf c) (tVar 0) (tVar 1))) : ErrC P w K mg base 1 c :=
  ⟨C, f, fd, T, iC, tI, init_ok F S T noN hb, bd, hm⟩
end
/-! ### the built-in classes -/
theorem baseV : BaseE [.type "ValueError", .type "Exception", .type "BaseException", .type "object"] "ValueError.__new__" := ⟨_, _, F.excBase_ValueError, F.store_ValueError⟩
theorem baseR : BaseE [.type "RuntimeError", .type "Exception", .type "BaseException", .type "object"] "RuntimeError.__new__" := ⟨_, _, F.excBase_RuntimeError, F.store_RuntimeError⟩
theorem baseO : BaseE [.type "OverflowError", .type "ArithmeticError", .type "Exception", .type "BaseException", .type "object"] "OverflowError.__new__" := ⟨_, _, F.excBase_OverflowError, F.store_OverflowError⟩
theorem baseL : BaseE [.type "LookupError", .type "Exception", .type "BaseException", .type "object"] "LookupError.__new__" := ⟨_, _, F.excBase_LookupError, F.store_LookupError⟩
end Mi
/-! several except clauses, with and without a name (lines of HandS's rules for one named clause and for several plain ones, turned to both) -/
namespace Mi
open PySem PySem.Spec PyProof.Rows L2
variable [Tbl]
def wManyA (K : PySem.W.Frag) (Wout : WX) (D : Ends) : List (Value × Option Nat × (Addr → Value → Option Addr → TS)) → WX
  | [] => Wout
  | (c, none, ts) :: r => fun cls d σ H => ∃ b, PySem.W.exmOne K cls c = some b ∧ (b = true → ∀ a, H a = none → ts a cls d D σ H) ∧ (b = false → wManyA K Wout D r cls d σ H)
  | (c, some i, ts) :: r => fun cls d σ H => ∃ b, PySem.W.exmOne K cls c = some b ∧ (b = true → ∀ a, H a = none → ts a cls d { nx := fun σ' H' => D.nx (σ'.set i none) H', rt := D.rt, bk := fun σ' H' => D.bk (σ'.set i none) H', ct := fun σ' H' => D.ct (σ'.set i none) H' } (σ.set i (some (.ref a))) H) ∧ (b = false → wManyA K Wout D r cls d σ H)
inductive HdsA (X : Cx) : List ExceptHandler → List (Value × Option Nat × (Addr → Value → Option Addr → TS)) → Prop
  | nil : HdsA X [] []
  | cons {x : Str} {c : Value} {ts : Addr → Value → Option Addr → TS} {b₀ : Stmt} {suite : List Stmt} {np pos' : Pos} {hds : List ExceptHandler} {l : List (Value × Option Nat × (Addr → Value → Option Addr → TS))} (hc : Names X x c)
      (hsu : ∀ (a : Addr) (oe : Obj) (cls : Value) (d : Option Addr) (pn : List (Addr × Obj)), Zc cls d oe → (∃ vs, oe.data = .fields vs) → PSs (X.suite a ((a, oe) :: pn)) (b₀ :: suite) (ts a cls d)) (r : HdsA X hds l) :
      HdsA X (.ExceptHandler (some (.Name x np)) none (b₀ :: suite) pos' :: hds) ((c, none, ts) :: l)
  | named {x n : Str} {c : Value} {i : Nat} {ts : Addr → Value → Option Addr → TS} {b₀ : Stmt} {suite : List Stmt} {np pos' : Pos} {hds : List ExceptHandler} {l : List (Value × Option Nat × (Addr → Value → Option Addr → TS))} (hc : Names X x c)
      (hi : X.N[i]? = some n) (hln : X.env.kindOf n = some .local)
      (hsu : ∀ (a : Addr) (oe : Obj) (cls : Value) (d : Option Addr) (pn : List (Addr × Obj)), Zc cls d oe → (∃ vs, oe.data = .fields vs) → PSs (X.suite a ((a, oe) :: pn)) (b₀ :: suite) (ts a cls d)) (r : HdsA X hds l) :
      HdsA X (.ExceptHandler (some (.Name x np)) (some n) (b₀ :: suite) pos' :: hds) ((c, some i, ts) :: l)
section
variable {X : Cx} {body : List Stmt} {h₀ : ExceptHandler} {hds : List ExceptHandler} {l : List (Value × Option Nat × (Addr → Value → Option Addr → TS))} {pos : Pos} {tb : WX → TS} {Wout : WX}
omit [Tbl] in
theorem ps_try_manyA (hs : X.stack = X.env :: X.outer) (hf : X.env.frame = some X.env.locals) (hN : X.N.Nodup) (tk : Takes X Wout)
    (hb : ∀ (W : WX) (pn : List (Addr × Obj)) (xe : Value → Shared → Prop), Takes (X.tr pn xe) W → PassesOwn (model X.prog X.w) X.A X.env xe → PSs (X.tr pn xe) body (tb W))
    (hh : HdsA X (h₀ :: hds) l) : PS X (.Try body (h₀ :: hds) [] [] pos) (fun D σ H => tb (wManyA X.K Wout D l) D σ H) := by
  refine ⟨fun pins s σ H D I h => ?_⟩
  have ok := I.ok
  have hfr : X.A.frames = some (X.env :: X.outer) := by rw [ok.frames, hs]
  refine wpAny_Try_except ?_
  refine wpAny_mono ((hb (wManyA X.K Wout D l) (X.pn ++ pins) (fun e s₁ => wpAny (model X.prog X.w) X.A (noteFrame e X.env) (fun _ s₂ => wpAny (model X.prog X.w) X.A (setFlight e none) (fun _ s₃ =>
    wpAny (model X.prog X.w) X.A (handleBy e X.env (h₀ :: hds)) (SP X pins D) X.xe s₃) X.xe s₂) X.xe s₁) (fun u s' xx => ?_) PassesOwn.looking).run [] s σ H D (I.toTry _) h) (fun f s1 hsp => ?_) (fun e s1 he => he)
  · -- the catch
    obtain ⟨a, B, sI, pins', σ', H', cls, d, rfl, J', nb, up, sky, na, os, ag, w⟩ := xx
    have J : Inv X pins σ' H' sI := J'.ofTry ok
    have sky' : Sky B (X.env :: X.outer) a (Zc cls d) X.env.locals s'.heap := by rw [← hs]; exact sky
    show wpAny (model X.prog X.w) X.A (noteFrame (.ref a) X.env) _ _ _
    refine Sky.land Zc.steady hfr hf sky' fun h3 fl3 up3 => ?_
    have J3 : Inv X pins σ' H' { s' with heap := h3 } := J.landed nb fl3.1 (up.trans up3) os ag
    obtain ⟨oe3, vs3, he3, hz3, hd3⟩ := fl3.there
    have notFr : ∀ {h : Heap} {o : Obj} {vs : Array Value}, h.FunFrames B (X.env :: X.outer) → h.get? a = some o → o.data = .fields vs → a ∉ frs (X.env :: X.outer) := fun {h o vs} ff e dd hm => by
      obtain ⟨_, o', e', hnf⟩ := ff.mem hm
      rw [e] at e'; cases e'
      exact hnf _ dd
    have nfr := notFr fl3.2.2.1 he3 hd3
    have nL : a ≠ X.env.locals := fun z => nfr (List.mem_filterMap.mpr ⟨X.env, List.mem_cons_self, by rw [hf, z]⟩)
    have nF : a ∉ X.fs := fun hm => by
      obtain ⟨e, he, q⟩ := List.mem_filterMap.mp hm
      exact nfr (List.mem_filterMap.mpr ⟨e, List.mem_cons_of_mem _ he, q⟩)
    have S3 := J3.suite he3 hd3 na nL nF
    have go : ∀ {hds' : List ExceptHandler} {l' : List (Value × Option Nat × (Addr → Value → Option Addr → TS))}, HdsA X hds' l' → wManyA X.K Wout D l' cls d σ' H' →
        wpAny (model X.prog X.w) X.A (handleBy (.ref a) X.env hds') (SP X pins D) X.xe { s' with heap := h3 } := by
      intro hds' l' hk
      induction hk with
      | nil =>
        intro w
        refine wpAny_handleBy_nil ?_
        obtain ⟨k1, k2, k3, oe, vs, T, oT, ts', he, hz, hd, h1, hr⟩ := id fl3
        unfold PySem.passOn
        refine wpAny_bind (wpAny_field he hd h1 ?_)
        rw [if_neg (show ¬ ((Value.ref T == Value.none) = true) from by simp)]
        have fin : wpAny (model X.prog X.w) X.A (setFlight (.ref a) X.env.frame) (fun _ s4 => wpAny (model X.prog X.w) X.A (throw (.ref a) : Sem Flow) (SP X pins D) X.xe s4) X.xe { s' with heap := h3 } := by
          rw [hf]
          refine HandSPX.setFlight_upZ fl3 fun h4 hh4 up4 => wpAny_throw (tk _ _ ?_)
          exact ⟨a, B, sI, pins, σ', H', cls, d, rfl, J, nb, (up.trans up3).trans up4, .inr (.inr (by rw [hs]; exact hh4)), na, os, ag, w⟩
        first
          | exact wpAny_bind (wpAny_pure (wpAny_bind fin))
          | exact wpAny_bind fin
      | @cons x c ts b₀ suite np pos' hds2 l2 hc hsu r ih =>
        intro w
        obtain ⟨b, hb1, hyes, hno⟩ := w
        refine wpAny_handleBy_cons (codeAny_handlers_test ?_) (by intro q; cases q)
        have LT : PySem.W.Looks (model X.prog X.w) h3 (typeOf (.ref a)) cls := fun A Q E s k q => wpAny_typeOf_ref (k _ _ he3) (by rw [hz3.1]; exact q)
        have LM := PySem.W.exm_one (M := model X.prog X.w) (J3.kIn) LT hb1
        have test : ∀ {Q : Value → Shared → Prop} {E : Value → Shared → Prop}, Q c { s' with heap := h3 } → wpAny (model X.prog X.w) (X.A.mark (some (.ref a))) (eval (.Name x np) X.env) Q E { s' with heap := h3 } := fun {Q E} q => by
          obtain ⟨hg, hdbg, hm | ⟨hm, hv, hnn⟩⟩ := hc
          · exact ld_glob (X := X.suite a ((a, oe3) :: (X.pn ++ pins))) S3 hg hm q hdbg
          · exact ld_blt (X := X.suite a ((a, oe3) :: (X.pn ++ pins))) S3 hg hm hv q hnn hdbg
        refine test (LM.here ?_)
        cases b with
        | true =>
          refine codeAny_handlers_suite ?_
          refine HandSPX.lands_againZ fl3 fun h4 fl4 up4 => ?_
          have J4 : Inv X pins σ' H' { s' with heap := h4 } := J.landed nb fl4.1 ((up.trans up3).trans up4) os ag
          obtain ⟨oe4, vs4, he4, hz4, hd4⟩ := fl4.there
          have S4 := J4.suite he4 hd4 na nL nF
          refine wpAny_mono ((hsu a oe4 cls d (X.pn ++ pins) hz4 ⟨_, hd4⟩).run [] _ _ H' _ S4 (hyes rfl a na)) (fun f s6 hsp => ?_) (fun _ _ z => False.elim z)
          cases f with
          | next =>
            obtain ⟨σ6, H6, S6, q6⟩ := hsp
            exact ⟨_, _, S6.unsuite ok, q6⟩
          | brk =>
            obtain ⟨σ6, H6, S6, q6⟩ := hsp
            exact ⟨_, _, S6.unsuite ok, q6⟩
          | cont =>
            obtain ⟨σ6, H6, S6, q6⟩ := hsp
            exact ⟨_, _, S6.unsuite ok, q6⟩
          | ret u =>
            obtain ⟨v6, σ6, H6, S6, r6, q6⟩ := hsp
            exact ⟨_, _, _, S6.unsuite ok, r6, q6⟩
        | false =>
          show wpAny _ X.A (handleBy (.ref a) X.env hds2) _ _ _
          exact ih (hno rfl)
      | @named x n c i ts b₀ suite np pos' hds2 l2 hc hi hln hsu r ih =>
        intro w
        obtain ⟨b, hb1, hyes, hno⟩ := w
        refine wpAny_handleBy_cons (codeAny_handlers_test ?_) (by intro q; cases q)
        have LT : PySem.W.Looks (model X.prog X.w) h3 (typeOf (.ref a)) cls := fun A Q E s k q => wpAny_typeOf_ref (k _ _ he3) (by rw [hz3.1]; exact q)
        have LM := PySem.W.exm_one (M := model X.prog X.w) (J3.kIn) LT hb1
        have test : ∀ {Q : Value → Shared → Prop} {E : Value → Shared → Prop}, Q c { s' with heap := h3 } → wpAny (model X.prog X.w) (X.A.mark (some (.ref a))) (eval (.Name x np) X.env) Q E { s' with heap := h3 } := fun {Q E} q => by
          obtain ⟨hg, hdbg, hm | ⟨hm, hv, hnn⟩⟩ := hc
          · exact ld_glob (X := X.suite a ((a, oe3) :: (X.pn ++ pins))) S3 hg hm q hdbg
          · exact ld_blt (X := X.suite a ((a, oe3) :: (X.pn ++ pins))) S3 hg hm hv q hnn hdbg
        refine test (LM.here ?_)
        cases b with
        | true =>
          refine codeAny_handlers_suite_as ?_
          refine HandSPX.lands_againZ fl3 fun h4 fl4 up4 => ?_
          have J4 : Inv X pins σ' H' { s' with heap := h4 } := J.landed nb fl4.1 ((up.trans up3).trans up4) os ag
          obtain ⟨oe4, vs4, he4, hz4, hd4⟩ := fl4.there
          have S4 := J4.suite he4 hd4 na nL nF
          refine store_ok (X := X.suite a ((a, oe4) :: (X.pn ++ pins))) (v := .ref a) S4 hN hi (.inl hln) rfl (fun s5 S5 => ?_) (.inr hln)
          refine wpAny_mono ((hsu a oe4 cls d (X.pn ++ pins) hz4 ⟨_, hd4⟩).run [] s5 _ H' _ S5 (hyes rfl a na)) (fun f s6 hsp => ?_) (fun _ _ z => False.elim z)
          have end_ : ∀ {σ6 : L2.St} {H6 : Hp} {Q : Shared → Prop}, Inv (X.suite a ((a, oe4) :: (X.pn ++ pins))) [] σ6 H6 s6 → (∀ s7, Inv X pins (σ6.set i none) H6 s7 → Q s7) →
              wpAny (model X.prog X.w) X.A (do bindName X.env n .none; unbindBehindTheSuite X.env n pos') (fun _ s7 => Q s7) X.xe s6 := fun {σ6 H6 Q} S6 hq => gone_ok (S6.unsuite ok) hN hi hln hq
          cases f with
          | next =>
            obtain ⟨σ6, H6, S6, q6⟩ := hsp
            exact end_ S6 fun s7 J7 => ⟨_, _, J7, q6⟩
          | brk =>
            obtain ⟨σ6, H6, S6, q6⟩ := hsp
            exact end_ S6 fun s7 J7 => ⟨_, _, J7, q6⟩
          | cont =>
            obtain ⟨σ6, H6, S6, q6⟩ := hsp
            exact end_ S6 fun s7 J7 => ⟨_, _, J7, q6⟩
          | ret u =>
            obtain ⟨v6, σ6, H6, S6, r6, q6⟩ := hsp
            exact end_ S6 fun s7 J7 => ⟨_, _, _, J7, r6, q6⟩
        | false =>
          show wpAny _ X.A (handleBy (.ref a) X.env hds2) _ _ _
          exact ih (hno rfl)
    exact go hh w
  · cases f with
    | next =>
      obtain ⟨σ', H', J', q⟩ := hsp
      exact wpAny_execs_nil ⟨σ', H', J'.ofTry ok, q⟩
    | brk =>
      obtain ⟨σ', H', J', q⟩ := hsp
      exact ⟨σ', H', J'.ofTry ok, q⟩
    | cont =>
      obtain ⟨σ', H', J', q⟩ := hsp
      exact ⟨σ', H', J'.ofTry ok, q⟩
    | ret u =>
      obtain ⟨v, σ', H', J', r, q⟩ := hsp
      exact ⟨v, σ', H', J'.ofTry ok, r, q⟩
end
end Mi
namespace Mi
open PySem PySem.Spec PyProof.Rows L2 Evl
variable [Tbl]
/-! ### calls in a try's body: the wish is of the slots of the call -/
section
variable {X : Cx} {W : WX} {x : Str} {j k : Nat} {f : Addr} {fd : FuncData} {ps : List Str} {sp : Sp} {e : Expr} {es : List Expr} {t : TA} {p pos : Pos}
omit [Tbl] in
theorem run_GW {pins : List (Addr × Obj)} {σ : L2.St} {H : Hp} {s : Shared} {Q : VK} {us : List Value} {vs : List V} (F : FnG X.prog X.w X.K X.mg X.base k f fd ps sp) (hr : Room k X.A) (hq : X.A.guards = some []) (hb : Binds X.K fd ps []) (tk : Takes X W)
    (I : Inv X pins σ H s) (r : Vals vs us) (h : sp vs H Q fun cls d H => W cls d σ H) : wpAny (model X.prog X.w) X.A (PySem.call (.ref f) us) (EP X pins σ Q) X.xe s := by
  have el : us.length = ps.length := by rw [← r.length, F.args _ _ _ _ h]
  have bt : BindsTo s fd ⟨us, []⟩ (ps.zip us) := by
    have := hb s us I.kIn (by rw [List.append_nil]; exact el)
    rwa [List.append_nil] at this
  refine wpAny_call (codeAny_mono (F.go X.A X.stack s H _ us vs Q _ hr hq I.env0 bt r h) ?_)
  intro res s' hres
  match res, hres with
  | .ok (.ret u), c => exact I.after c
  | .ok .next, c => exact c.elim
  | .ok .brk, c => exact c.elim
  | .ok .cont, c => exact c.elim
  | .error ex, c => exact tk ex s' (XE.of_call I (fun _ _ _ h => h) c)
omit [Tbl] in
theorem pe_GW (F : FnG X.prog X.w X.K X.mg X.base k f fd ps sp) (hr : Room k X.A) (hq : X.A.guards = some []) (hg : Gl X x) (hm : X.mg x = some (.ref f)) (hk : PySem.W.keepIn X.K (.ref f) = true) (hb : Binds X.K fd ps []) (tk : Takes X W) (ha : PA X (e :: es) t)
    (hdb : (x == ("__debug__" : Str)) = false) (he : starEach (e :: es) X.env = (false, eval e X.env) :: starEach es X.env) (hpl : (backTo pos (starEach es X.env)).any (·.1) = false) : PE X (.Call (.Name x p) (e :: es) [] pos) (fun σ H Q => t σ H fun vs H1 => sp vs H1 Q fun cls d H => W cls d σ H) where
  run := fun pins s σ H Q I h => wpAny_Call_Name_kw (ld_glob I hg hm (PySem.W.callWith_K (h₀ := X.base) I.ok.mod.kin hk (thn (ha.run pos pins s σ H _ I h) fun us s1 ⟨vs, H1, I1, r, q⟩ => ⟨I1.kIn, run_GW F hr hq hb tk I1 r q⟩) he hpl) hdb)
end
/-- an expression of a try's body -/
structure JEW (X : Cx) (e : Expr) (s : Ga → Res (Ga × R)) : Prop where
  ex : ∃ t : WX → TE, (∀ W pn xe, Takes (X.tr pn xe) W → PE (X.tr pn xe) e (t W)) ∧ ∀ W B σ Γ H0 H Q, EnvOk X.K B σ Γ H0 H → EW X B (fun c d H => W c d σ H) σ Γ H0 H (s Γ) Q → t W σ H Q
/-- its arguments, that raise nothing -/
structure JPW (X : Cx) (es : List Expr) (ks : List (Option Nat)) (s : Ga → Res (Ga × List D)) : Prop where
  ex : ∃ t, (∀ pn xe, PA (X.tr pn xe) es t) ∧ ∀ E B σ Γ H0 H Q, EnvOk X.K B σ Γ H0 H → PW' X B E σ ks Γ H0 H (s Γ) Q → t σ H Q
section
variable {X : Cx} {x : Str} {j k : Nat} {ps : List Str} {e : Expr} {es : List Expr} {p pos : Pos} {m : Ga → Res (Ga × R)} {ks : List (Option Nat)} {s : Ga → Res (Ga × List D)}
theorem je_callW (F : Has X.prog X.w X.K X.mg X.base x j ps m) (hr : Room k X.A) (hj : j ≤ k) (hq : X.A.guards = some []) (hg : Gl X x) (ha : JPW X (e :: es) ks s) (nd : (ks.filterMap id).Nodup) (hl : ks.length = ps.length)
    (hdb : (x == ("__debug__" : Str)) = false := by decide) (he : starEach (e :: es) X.env = (false, eval e X.env) :: starEach es X.env := by rfl) (hpl : (backTo pos (starEach es X.env)).any (·.1) = false := by rfl) : JEW X (.Call (.Name x p) (e :: es) [] pos) (callS m ks s) := by
  obtain ⟨f, fd, G, hm, hk, hb⟩ := F.ex
  obtain ⟨t, pp, hs⟩ := ha.ex
  refine ⟨fun W σ H Q => t σ H fun vs H1 => spD X.K X.mg ps.length m vs H1 Q fun cls d H => W cls d σ H, fun W pn xe tk => ?_, fun W B σ Γ H0 H Q ok w => ?_⟩
  · exact pe_GW (X := X.tr pn xe) G.ok (hr.mono hj) hq hg hm hk hb tk (pp pn xe) hdb he hpl
  · exact call_sound (X := X) (E := fun c d H => W c d σ H) G.shape nd hl (hs _) B σ Γ H0 H Q ok w
end
/-! ### a try's body is run with the owned lists hidden: what it leaves or throws out has changed nothing old -/
def hideS : Sl → Sl
  | .own _ _ => .un
  | s => s
def hide (Γ : Ga) : Ga := Γ.map hideS
omit [Tbl] in
theorem hide_at {Γ : Ga} {i : Nat} {s : Sl} (h : (hide Γ)[i]? = some s) : ∃ s', Γ[i]? = some s' ∧ hideS s' = s := by
  unfold hide at h
  rw [List.getElem?_map] at h
  cases e : Γ[i]? with
  | none => rw [e] at h; cases h
  | some s' => rw [e] at h; exact ⟨s', rfl, Option.some.inj h⟩
section
variable {K : PySem.W.Frag} {B : Bg} {σ : L2.St} {Γ : Ga} {H0 H : Hp}
theorem hide_ok (ok : EnvOk K B σ Γ H0 H) : EnvOk K ⟨H0, H, fun _ => none⟩ σ (hide Γ) H0 H where
  sub := ok.sub
  len := by unfold hide; rw [List.length_map]; exact ok.len
  dat := fun i x h => by
    obtain ⟨s, e, q⟩ := hide_at h
    cases s <;> simp only [hideS] at q <;> cases q
    exact ok.dat i x e
  scr := fun i ns h => by
    obtain ⟨s, e, q⟩ := hide_at h
    cases s <;> simp only [hideS] at q <;> cases q
    exact ok.scr i ns e
  own := fun i b xs h => by
    obtain ⟨s, e, q⟩ := hide_at h
    cases s <;> simp only [hideS] at q <;> cases q
  apart := fun i j b c xs ys a _ h => by
    obtain ⟨s, e, q⟩ := hide_at h
    cases s <;> simp only [hideS] at q <;> cases q
  grow := Grow.refl _ _ _
  tabs := ok.tabs
  past := ok.past
  cl := fun i h => by
    obtain ⟨s, e, q⟩ := hide_at h
    cases s <;> simp only [hideS] at q <;> cases q
    exact ok.cl i e
omit [Tbl] in
theorem own_hide {p : Addr} (h : OwnOf σ (hide Γ) p) : False := by
  obtain ⟨i, b, xs, h1, -⟩ := h
  obtain ⟨s, e, q⟩ := hide_at h1
  cases s <;> simp only [hideS] at q <;> cases q
end
theorem jew_run {X : Cx} {B : Bg} {σ : L2.St} {Γ : Ga} {H0 H : Hp} {s : Ga → Res (Ga × R)} {W : WX} {Q : VK} {t : WX → TE}
    (ht : ∀ W B σ Γ H0 H Q, EnvOk X.K B σ Γ H0 H → EW X B (fun c d H => W c d σ H) σ Γ H0 H (s Γ) Q → t W σ H Q) (ok : EnvOk X.K B σ Γ H0 H) (hst : s (hide Γ) ≠ .stuck)
    (hok : ∀ Γ1 x, s (hide Γ) = .ok (Γ1, x) → ∀ v H0' H', EnvOk X.K B σ Γ H0' H' → Ex H0 H0' → RV X.K H0 H H0' H' x v → Q v H')
    (hex : ∀ c x, s (hide Γ) = .exc c x → ∀ C d v H0' H', X.mg c = some (.ref C) → H' d = some (.xd [(fieldOf c, v)]) → Rp X.K H0' v x → EnvOk X.K B σ Γ H0' H' → Ex H0 H0' → W (.ref C) (some d) σ H') : t W σ H Q := by
  refine ht W ⟨H0, H, fun _ => none⟩ σ (hide Γ) H0 H Q (hide_ok ok) ?_
  cases hs : s (hide Γ) with
  | stuck => exact hst hs
  | exc c x =>
    intro C d v H0' H' hm hd rv hsub hg
    have hg : Grow (fun _ => False) H0 H H0' H' := hg.wide fun p ⟨i, h⟩ => nomatch h
    exact hex c x hs C d v H0' H' hm hd rv (ok.same hg hsub) hg.ex0
  | ok p =>
    obtain ⟨Γ1, x⟩ := p
    intro v H0' H' ok' g l rv
    have hg : Grow (fun _ => False) H0 H H0' H' := g.wide fun p h => own_hide h
    exact hok Γ1 x hs v H0' H' (ok.same hg ok'.sub) hg.ex0 rv
/-! ### arguments of such calls: names that hold data, constants -/
/-- the data in a slot, the slot as it is -/
def sDatN (i : Nat) : Ga → Res (Ga × D) := fun Γ => match Γ[i]? with
  | some (.d x) => .ok (Γ, x)
  | _ => .stuck
section
variable {X : Cx} {e : Expr} {es : List Expr} {ks : List (Option Nat)} {s : Ga → Res (Ga × D)} {r : Ga → Res (Ga × List D)}
structure JDU (X : Cx) (e : Expr) (s : Ga → Res (Ga × D)) : Prop where
  ex : ∃ t, (∀ pn xe, PE (X.tr pn xe) e t) ∧ ∀ E B σ Γ H0 H Q, EnvOk X.K B σ Γ H0 H → DW X B E σ Γ H0 H (s Γ) Q → t σ H Q
theorem jdu_name {i : Nat} (p : ∀ pn xe, PE (X.tr pn xe) e (tVar i)) : JDU X e (sDatN i) := by
  refine ⟨tVar i, p, fun E B σ Γ H0 H Q ok w => ?_⟩
  unfold sDatN at w
  split at w
  · rename_i x hx
    obtain ⟨v, e1, r⟩ := ok.dat i x hx
    exact ⟨v, e1, w v H0 H ok (Grow.refl _ _ _) (Less.refl _) r⟩
  · exact w.elim
theorem jpw_nil : JPW X [] [] sNil := ⟨tNil, fun _ _ => pa_nil, fun E B σ Γ H0 H Q ok w => w [] H0 H ok (Grow.refl _ _ _) (Less.refl _) .nil⟩
theorem jpw_d (h : JDU X e s) (hr : JPW X es ks r) (hs : starEach (e :: es) X.env = (false, eval e X.env) :: starEach es X.env := by rfl) : JPW X (e :: es) (none :: ks) (sCons s r) := by
  obtain ⟨t, p, ha⟩ := h.ex
  obtain ⟨u, q, hb⟩ := hr.ex
  refine ⟨tCons t u, fun pn xe => pa_cons (p pn xe) (q pn xe) hs, fun E B σ Γ H0 H Q ok w => ?_⟩
  show t σ H fun x H1 => u σ H1 fun xs H2 => Q (x :: xs) H2
  refine d_then (ha E) wok_P ok w fun Γ1 x v H01 H1 w1 ok1 g1 l1 r1 => ?_
  refine p_then (hb E) wok_P ok1 w1 fun Γ2 xs vs H02 H2 w2 ok2 g2 l2 r2 => ?_
  exact w2 _ H02 H2 ok2 (Grow.refl _ _ _) (Less.refl _) (.d (r1.m g2.ex0) r2)
end
/-! ### try: return e / except ..; hv: what the clauses do with an error of the class c that carries y -/
def sTryR (s : Ga → Res (Ga × R)) (hv : Str → D → Ga → Res (Ga × Fl)) : Ga → Res (Ga × Fl) := fun Γ => match s (hide Γ) with
  | .ok p => .ok (Γ, .rt p.2)
  | .exc c y => hv c y Γ
  | .stuck => .stuck
/-- try: e / except .. -/
def sTryE (s : Ga → Res (Ga × R)) (hv : Str → D → Ga → Res (Ga × Fl)) : Ga → Res (Ga × Fl) := fun Γ => match s (hide Γ) with
  | .ok _ => .ok (Γ, .nx)
  | .exc c y => hv c y Γ
  | .stuck => .stuck
/-- the clauses do as hv tells -/
def ClsOk (X : Cx) (E : XK) (Wout : WX) (l : List (Value × Option Nat × (Addr → Value → Option Addr → TS))) (hv : Str → D → Ga → Res (Ga × Fl)) : Prop :=
  ∀ B σ Γ H0 H Dn C d v c y, EnvOk X.K B σ Γ H0 H → X.mg c = some (.ref C) → H d = some (.xd [(fieldOf c, v)]) → Rp X.K H0 v y → SW X B E H0 (hv c y Γ) Dn → wManyA X.K Wout Dn l (.ref C) (some d) σ H
theorem sw_mono {X : Cx} {B : Bg} {E : XK} {H0 H01 : Hp} {r : Res (Ga × Fl)} {Dn : Ends} (h : Ex H0 H01) (w : SW X B E H0 r Dn) : SW X B E H01 r Dn := by
  cases r with
  | stuck => exact w
  | exc c x => exact w
  | ok p => exact fun σ' H0' H' ok e => w σ' H0' H' ok (h.trans e)
section
variable {X : Cx} {E : XK} {e : Expr} {rpos pos : Pos} {h₀ : ExceptHandler} {hds : List ExceptHandler} {l : List (Value × Option Nat × (Addr → Value → Option Addr → TS))} {Wout : WX} {s : Ga → Res (Ga × R)} {hv : Str → D → Ga → Res (Ga × Fl)}
theorem js_tryR (hs : X.stack = X.env :: X.outer) (hf : X.env.frame = some X.env.locals) (hN : X.N.Nodup) (tk : Takes X Wout) (hh : HdsA X (h₀ :: hds) l) (he : JEW X e s) (hc : ClsOk X E Wout l hv) :
    JS X E (.Try [.Return (some e) rpos] (h₀ :: hds) [] [] pos) (sTryR s hv) := by
  obtain ⟨t, p, ht⟩ := he.ex
  refine ⟨_, ps_try_manyA (tb := fun W => tRet (t W)) hs hf hN tk (fun W pn xe tk' _ => pss_one (ps_ret (p W pn xe tk'))) hh, fun B σ Γ H0 H Dn ok w => ?_⟩
  show t (wManyA X.K Wout Dn l) σ H Dn.rt
  unfold sTryR at w
  refine jew_run (s := s) ht ok (fun hst => by rw [hst] at w; exact w) (fun Γ1 x hx v H0' H' ok' ex rv => ?_) (fun c y hx C d v H0' H' hm hd rv ok' ex => ?_)
  · rw [hx] at w
    refine w σ H0' H' ok' ex v ?_
    cases rv with
    | d r => exact .d r
    | f n n0 e r => exact .f (RV.he ok n) n0 e r
  · rw [hx] at w
    exact hc B σ Γ H0' H' Dn C d v c y ok' hm hd rv (sw_mono ex w)
theorem js_tryE (hs : X.stack = X.env :: X.outer) (hf : X.env.frame = some X.env.locals) (hN : X.N.Nodup) (tk : Takes X Wout) (hh : HdsA X (h₀ :: hds) l) (he : JEW X e s) (hc : ClsOk X E Wout l hv) (hps : ∀ (Y : Cx) (t : TE), PE Y e t → PS Y (.Expr e rpos) (fun D σ H => t σ H fun _ H' => D.nx σ H')) :
    JS X E (.Try [.Expr e rpos] (h₀ :: hds) [] [] pos) (sTryE s hv) := by
  obtain ⟨t, p, ht⟩ := he.ex
  refine ⟨_, ps_try_manyA (tb := fun W => fun D σ H => t W σ H fun _ H' => D.nx σ H') hs hf hN tk (fun W pn xe tk' _ => pss_one (hps _ _ (p W pn xe tk'))) hh, fun B σ Γ H0 H Dn ok w => ?_⟩
  show t (wManyA X.K Wout Dn l) σ H fun _ H' => Dn.nx σ H'
  unfold sTryE at w
  refine jew_run (s := s) ht ok (fun hst => by rw [hst] at w; exact w) (fun Γ1 x hx v H0' H' ok' ex rv => ?_) (fun c y hx C d v H0' H' hm hd rv ok' ex => ?_)
  · rw [hx] at w
    exact w σ H0' H' ok' ex
  · rw [hx] at w
    exact hc B σ Γ H0' H' Dn C d v c y ok' hm hd rv (sw_mono ex w)
end
end Mi
namespace Mi
open PySem PySem.Spec PyProof.Rows L2 Evl
variable [Tbl]
/-! ### the clauses of a try -/
/-- the clauses hds do as hv tells -/
def Cls (X : Cx) (E : XK) (hds : List ExceptHandler) (hv : Str → D → Ga → Res (Ga × Fl)) : Prop :=
  ∃ l, HdsA X hds l ∧ ClsOk X E (fun cls d _ H => E cls d H) l hv
/-- tab c: is an error of the class c one of the clause's? none: not known -/
def hvC (tab : Str → Option Bool) (h : Str → D → Ga → Res (Ga × Fl)) (hv : Str → D → Ga → Res (Ga × Fl)) : Str → D → Ga → Res (Ga × Fl) := fun c y Γ => match tab c with
  | some true => h c y Γ
  | some false => hv c y Γ
  | none => .stuck
def hvN : Str → D → Ga → Res (Ga × Fl) := fun c y _ => .exc c y
/-- a suite that does not name the error -/
structure JSU (X : Cx) (E : XK) (st : List Stmt) (h : Ga → Res (Ga × Fl)) : Prop where
  ex : ∃ t, (∀ (a : Addr) (oe : Obj) (pn : List (Addr × Obj)), PSs (X.suite a ((a, oe) :: pn)) st t) ∧ ∀ B σ Γ H0 H Dn, EnvOk X.K B σ Γ H0 H → SW X B E H0 (h Γ) Dn → t Dn σ H
section
variable {X : Cx} {E : XK} {hds : List ExceptHandler} {hv : Str → D → Ga → Res (Ga × Fl)} {x : Str} {C' : Value} {b₀ : Stmt} {suite : List Stmt} {np pos' pos rpos : Pos} {h : Ga → Res (Ga × Fl)} {tab : Str → Option Bool}
theorem cls_nil : Cls X E [] hvN := ⟨[], .nil, fun B σ Γ H0 H Dn C d v c y ok hm hd rv w => by
  have w : XW X B E c y := w
  exact w C d v H0 H hm hd rv ok.sub ok.grow⟩
theorem cls_plain (hc : Names X x C') (hx : ∀ c b C, tab c = some b → X.mg c = some (.ref C) → PySem.W.exmOne X.K (.ref C) C' = some b) (hs : JSU X E (b₀ :: suite) h) (r : Cls X E hds hv) :
    Cls X E (.ExceptHandler (some (.Name x np)) none (b₀ :: suite) pos' :: hds) (hvC tab (fun _ _ => h) hv) := by
  obtain ⟨l, hh, hok⟩ := r
  obtain ⟨t, p, ht⟩ := hs.ex
  refine ⟨(C', none, fun _ _ _ => t) :: l, .cons hc (fun a oe cls d pn _ _ => p a oe pn) hh, fun B σ Γ H0 H Dn C d v c y ok hm hd rv w => ?_⟩
  unfold hvC at w
  show ∃ b, _ ∧ _ ∧ _
  cases htab : tab c with
  | none => rw [htab] at w; exact w.elim
  | some b =>
    rw [htab] at w
    refine ⟨b, hx c b C htab hm, fun hb a _ => ?_, fun hb => ?_⟩
    · subst hb
      exact ht B σ Γ H0 H Dn ok w
    · subst hb
      exact hok B σ Γ H0 H Dn C d v c y ok hm hd rv w
/-- return a constant -/
theorem jsu_retC {x : D} {e : Expr} {t : TE} (p : ∀ (a : Addr) (oe : Obj) (pn : List (Addr × Obj)), PE (X.suite a ((a, oe) :: pn)) e t) (ht : ∀ B σ Γ H0 H Q, EnvOk X.K B σ Γ H0 H → DW X B E σ Γ H0 H (.ok (Γ, x)) Q → t σ H Q) : JSU X E [.Return (some e) rpos] (fun Γ => .ok (Γ, .rt (.d x))) := by
  refine ⟨_, fun a oe pn => pss_one (ps_ret (p a oe pn)), fun B σ Γ H0 H Dn ok w => ?_⟩
  show t σ H Dn.rt
  refine ht B σ Γ H0 H Dn.rt ok fun v H0' H' ok' g _ r => ?_
  have w : ∀ σ' H0' H', EnvOk X.K B σ' Γ H0' H' → Ex H0 H0' → FlOk X.K B H0' H' σ' Dn (.rt (.d x)) := w
  exact w σ H0' H' ok' g.ex0 v (.d r)
end
theorem env_un {K : PySem.W.Frag} {B : Bg} {σ : L2.St} {Γ : Ga} {H0 H : Hp} (ok : EnvOk K B σ Γ H0 H) (i : Nat) (o : Option V) : EnvOk K B (σ.set i o) (Γ.set i .un) H0 H := by
  have ne : ∀ {j : Nat} {s : Sl}, (Γ.set i .un)[j]? = some s → s ≠ .un → i ≠ j ∧ Γ[j]? = some s := fun {j s} h hs => by
    by_cases q : i = j
    · subst q
      rw [List.getElem?_set] at h
      split at h
      · split at h
        · exact absurd (Option.some.inj h).symm hs
        · cases h
      · exact absurd rfl ‹_›
    · rw [List.getElem?_set_ne q] at h
      exact ⟨q, h⟩
  have fw : ∀ {j : Nat}, i ≠ j → (σ.set i o)[j]? = σ[j]? := fun q => List.getElem?_set_ne q
  refine ⟨ok.sub, by rw [List.length_set, List.length_set]; exact ok.len, fun j x h => ?_, fun j ns h => ?_, fun j b xs h => ?_, fun j k b c xs ys a hjk h1 h2 => ?_, ok.grow, ok.tabs, ok.past, fun j h => (by
    obtain ⟨q, h⟩ := ne h (by simp)
    rw [fw q]; exact ok.cl j h)⟩
  · obtain ⟨q, h⟩ := ne h (by simp)
    rw [fw q]; exact ok.dat j x h
  · obtain ⟨q, h⟩ := ne h (by simp)
    rw [fw q]; exact ok.scr j ns h
  · obtain ⟨q, h⟩ := ne h (by simp)
    rw [fw q]; exact ok.own j b xs h
  · obtain ⟨q1, h1⟩ := ne h1 (by simp)
    obtain ⟨q2, h2⟩ := ne h2 (by simp)
    rw [fw q1, fw q2]; exact ok.apart j k b c xs ys a hjk h1 h2
/-- a suite that names the error: slot i holds it while the suite runs, and nothing is told of the slot -/
structure JSN (X : Cx) (E : XK) (i : Nat) (tab : Str → Option Bool) (st : List Stmt) (h : D → Ga → Res (Ga × Fl)) : Prop where
  ex : ∃ ts : Addr → Value → Option Addr → TS, (∀ (a : Addr) (oe : Obj) (cls : Value) (d : Option Addr) (pn : List (Addr × Obj)), Zc cls d oe → (∃ vs, oe.data = .fields vs) → PSs (X.suite a ((a, oe) :: pn)) st (ts a cls d)) ∧
    ∀ B σ Γ H0 H Dn C d v c y a, EnvOk X.K B σ Γ H0 H → σ[i]? = some (some (.ref a)) → tab c = some true → X.mg c = some (.ref C) → H d = some (.xd [(fieldOf c, v)]) → Rp X.K H0 v y → SW X B E H0 (h y Γ) Dn → ts a (.ref C) (some d) Dn σ H
def wipe1 (i : Nat) (r : Res (Ga × Fl)) : Res (Ga × Fl) := r.bind fun p => .ok (p.1.set i .un, p.2)
theorem sw_wipe {X : Cx} {B : Bg} {E : XK} {H0 : Hp} {r : Res (Ga × Fl)} {Dn : Ends} {i : Nat} (w : SW X B E H0 (wipe1 i r) Dn) : SW X B E H0 r { nx := fun σ' H' => Dn.nx (σ'.set i none) H', rt := Dn.rt, bk := fun σ' H' => Dn.bk (σ'.set i none) H', ct := fun σ' H' => Dn.ct (σ'.set i none) H' } := by
  cases r with
  | stuck => exact w
  | exc c x => exact w
  | ok p =>
    obtain ⟨Γ', fl⟩ := p
    intro σ' H0' H' ok e
    have w : ∀ σ' H0' H', EnvOk X.K B σ' (Γ'.set i .un) H0' H' → Ex H0 H0' → FlOk X.K B H0' H' σ' Dn fl := w
    have w1 := w _ H0' H' (env_un ok i none) e
    cases fl with
    | nx => exact w1
    | bk => exact w1
    | ct => exact w1
    | rt r => exact w1
section
variable {X : Cx} {E : XK} {hds : List ExceptHandler} {hv : Str → D → Ga → Res (Ga × Fl)} {x n : Str} {C' : Value} {b₀ : Stmt} {suite : List Stmt} {np pos' : Pos} {h : D → Ga → Res (Ga × Fl)} {tab : Str → Option Bool} {i : Nat}
theorem cls_named (hc : Names X x C') (hi : X.N[i]? = some n) (hln : X.env.kindOf n = some .local) (hx : ∀ c b C, tab c = some b → X.mg c = some (.ref C) → PySem.W.exmOne X.K (.ref C) C' = some b) (hs : JSN X E i tab (b₀ :: suite) h) (r : Cls X E hds hv) :
    Cls X E (.ExceptHandler (some (.Name x np)) (some n) (b₀ :: suite) pos' :: hds) (hvC tab (fun _ y Γ => if i < Γ.length then wipe1 i (h y (Γ.set i .un)) else .stuck) hv) := by
  obtain ⟨l, hh, hok⟩ := r
  obtain ⟨ts, p, ht⟩ := hs.ex
  refine ⟨(C', some i, ts) :: l, .named hc hi hln p hh, fun B σ Γ H0 H Dn C d v c y ok hm hd rv w => ?_⟩
  unfold hvC at w
  show ∃ b, _ ∧ _ ∧ _
  cases htab : tab c with
  | none => rw [htab] at w; exact w.elim
  | some b =>
    rw [htab] at w
    refine ⟨b, hx c b C htab hm, fun hb a _ => ?_, fun hb => ?_⟩
    · subst hb
      have w : SW X B E H0 (if i < Γ.length then wipe1 i (h y (Γ.set i .un)) else .stuck) Dn := w
      by_cases hi : i < Γ.length
      · rw [if_pos hi] at w
        exact ht B _ _ H0 H _ C d v c y a (env_un ok i _) (by rw [List.getElem?_set_self (by rw [← ok.len]; exact hi)]) htab hm hd rv (sw_wipe w)
      · rw [if_neg hi] at w
        exact w.elim
    · subst hb
      exact hok B σ Γ H0 H Dn C d v c y ok hm hd rv w
end
end Mi
namespace Mi
open PySem PySem.Spec PyProof.Rows L2 Evl
variable [Tbl]
/-! ### e.f, e the error that the suite holds (lines of skel 42 turned to any field) -/
/-- what is asked of the class for reading its field -/
structure FldC (K : PySem.W.Frag) (C : Addr) (f : Str) : Prop where
  ga : PySem.W.findIn K (.ref C) "__getattribute__" = some (some (.builtin "BaseException.__getattribute__"))
  gg : PySem.W.findIn K (.ref C) "__getattr__" = some none
  noN : PySem.W.findIn K (.ref C) f = some none
  exC : PySem.W.subIn K (.ref C) (.type "BaseException") = some true
  hdC : PySem.W.hasDictIn K C = true
def tFld (K : PySem.W.Frag) (f : Str) (a : Addr) (cls : Value) (d : Option Addr) (te : TE) : TE := fun σ H Q => te σ H fun x H1 => x = .ref a ∧ ∃ C, cls = .ref C ∧ FldC K C f ∧ ∃ (dd : Addr) (v : V), d = some dd ∧ H1 dd = some (.xd [(f, v)]) ∧ Q v H1
omit [Tbl] in
theorem pe_fld {X : Cx} {a : Addr} {oe : Obj} {cls : Value} {d : Option Addr} {pn : List (Addr × Obj)} {e : Expr} {te : TE} {f : Str} {pos : Pos} (hz : Zc cls d oe) (hf : ∃ vs, oe.data = .fields vs) (he : PE (X.suite a ((a, oe) :: pn)) e te)
    (hb : attributeBase e f X.env (eval e X.env) = eval e X.env := by rfl) :
    PE (X.suite a ((a, oe) :: pn)) (.Attribute e f pos) (tFld X.K f a cls d te) := by
  refine ⟨fun pins s σ H Q I h => ?_⟩
  refine attr_of hb (thn (he.run pins s σ H _ I h) fun u s1 hh => ?_)
  obtain ⟨x, H1, I1, rx, ex, C, ec, T, dd, v, ed, ea, q⟩ := hh
  subst ex
  obtain rfl : u = Value.ref a := rx
  subst ec
  subst ed
  obtain ⟨ha, _⟩ := I1.pin (a, oe) (List.mem_append_left _ List.mem_cons_self)
  obtain ⟨vs, hd⟩ := hf
  have hx : ObjOk X.prog X.w H1 s1.heap dd (.xd [(f, v)]) := I1.hok dd _ ea
  obtain ⟨mA, hns, hr⟩ := hx
  obtain ⟨od, ho, hl⟩ := lookIn_ns hns
  have l : List.lookup f [(f, v)] = some v := by simp [List.lookup]
  obtain ⟨u, hu, ru⟩ := RelO.some_of (v := v) (o := mA f) (by rw [← l]; exact hr f)
  have J : PySem.W.InstAt s1.heap a oe C (some od) := ⟨ha, hz.1, by unfold PySem.W.notCls; rw [hd] <;> rfl, by rw [hz.2]; exact ho⟩
  exact HandSPX.exc_get I1.kIn J T.ga T.gg T.exC (PySem.W.findObj_own T.hdC T.noN rfl (by rw [hl, hu])) (handed_of ru) ⟨v, H1, I1.tok _, ru, q⟩
/-- an expression of a suite that names the error; y: what the error carries -/
structure JFE (X : Cx) (E : XK) (i : Nat) (tab : Str → Option Bool) (e : Expr) (s : D → Ga → Res (Ga × R)) : Prop where
  ex : ∃ t : Addr → Value → Option Addr → TE, (∀ (a : Addr) (oe : Obj) (cls : Value) (d : Option Addr) (pn : List (Addr × Obj)), Zc cls d oe → (∃ vs, oe.data = .fields vs) → PE (X.suite a ((a, oe) :: pn)) e (t a cls d)) ∧
    ∀ B σ Γ H0 H Q C d v c y a, EnvOk X.K B σ Γ H0 H → σ[i]? = some (some (.ref a)) → tab c = some true → X.mg c = some (.ref C) → H d = some (.xd [(fieldOf c, v)]) → Rp X.K H0 v y → EW X B E σ Γ H0 H (s y Γ) Q → t a (.ref C) (some d) σ H Q
section
variable {X : Cx} {E : XK} {i : Nat} {tab : Str → Option Bool} {e : Expr} {f : Str} {pos rpos : Pos} {s : D → Ga → Res (Ga × R)}
theorem jfe_fld (hfc : ∀ c C, tab c = some true → X.mg c = some (.ref C) → fieldOf c = f ∧ FldC X.K C f) (hv : ∀ (a : Addr) (oe : Obj) (pn : List (Addr × Obj)), PE (X.suite a ((a, oe) :: pn)) e (tVar i))
    (hb : attributeBase e f X.env (eval e X.env) = eval e X.env := by rfl) : JFE X E i tab (.Attribute e f pos) (fun y Γ => .ok (Γ, .d y)) := by
  refine ⟨fun a cls d => tFld X.K f a cls d (tVar i), fun a oe cls d pn hz hf => pe_fld hz hf (hv a oe pn) hb, fun B σ Γ H0 H Q C d v c y a ok hσ htab hm hd rv w => ?_⟩
  obtain ⟨e1, hF⟩ := hfc c C htab hm
  rw [e1] at hd
  exact ⟨.ref a, hσ, rfl, C, rfl, hF, d, v, rfl, hd, w v H0 H ok (Grow.refl _ _ _) (Less.refl _) (.d rv)⟩
theorem jsn_ret (h : JFE X E i tab e s) : JSN X E i tab [.Return (some e) rpos] (fun y Γ => (s y Γ).bind fun p => .ok (p.1, .rt p.2)) := by
  obtain ⟨t, p, ht⟩ := h.ex
  refine ⟨fun a cls d => tRet (t a cls d), fun a oe cls d pn hz hf => pss_one (ps_ret (p a oe cls d pn hz hf)), fun B σ Γ H0 H Dn C d v c y a ok hσ htab hm hd rv w => ?_⟩
  show t a (.ref C) (some d) σ H Dn.rt
  refine ht B σ Γ H0 H Dn.rt C d v c y a ok hσ htab hm hd rv ?_
  cases hs : s y Γ with
  | stuck => rw [hs] at w; exact w.elim
  | exc c' x => rw [hs] at w; exact w
  | ok q =>
    rw [hs] at w
    obtain ⟨Γ1, x⟩ := q
    intro u H0' H' ok' g l ru
    have w : ∀ σ' H0' H', EnvOk X.K B σ' Γ1 H0' H' → Ex H0 H0' → FlOk X.K B H0' H' σ' Dn (.rt x) := w
    refine w σ H0' H' ok' g.ex0 u ?_
    cases ru with
    | d r => exact .d r
    | f n n0 e r => exact .f (RV.he ok n) n0 e r
end
/-! ### repr(e.f) -/
def rRepr (K : PySem.W.Frag) : List V → Hp → VK → Prop := fun xs H Q => ∃ v d, xs = [v] ∧ Dp K H v d ∧ reprP d ∧ Q (.str d.shown) H
omit [Tbl] in
theorem cr_repr {X : Cx} (hu : X.A.units + 64 < cLine) (hq : X.A.guards = some []) : CallR X (.builtin "repr") (rRepr X.K) := by
  intro pins s σ H xs us Q I r h
  obtain ⟨v, d, rfl, hd, ⟨h1, h2, h3, h4⟩, q⟩ := h
  obtain ⟨u, rfl, ru⟩ := vals1 r
  have fin : ∀ (h' : Heap) (t : Tok) (tk : Nat), (∀ b o, s.heap.get? b = some o → h'.get? b = some o) → EP X pins σ Q (.str d.shown t) { s with heap := h', toks := tk } := fun h' t tk k => ⟨.str d.shown, H, I.kept (t' := tk) k, ⟨t, rfl⟩, q⟩
  cases hd with
  | non =>
    cases ru
    exact PySem.P.repr_of_none (fin s.heap _ _ fun _ _ e => e)
  | bl b =>
    cases ru
    refine PySem.P.repr_of_bool ?_
    cases b
    · exact fin s.heap _ _ fun _ _ e => e
    · exact fin s.heap _ _ fun _ _ e => e
  | int i =>
    obtain ⟨t, rfl⟩ := ru
    refine PySem.P.repr_of_int (by simpa [PyData.showable] using h1) ?_
    exact fin s.heap _ _ fun _ _ e => e
  | str z =>
    obtain ⟨t, rfl⟩ := ru
    refine PySem.P.repr_of_str ?_ h4
    exact fin s.heap _ _ fun _ _ e => e
  | lst hs ha =>
    cases ru
    obtain ⟨as, rd⟩ := Dp.reads I _ _ _ (.lst hs ha) rfl
    exact PySem.repr_of_reads' rd h1 (fun z => by rw [h2] at z; cases z) hq (by omega) (fun _ _ e => e) (fun h' t tk k => fin h' t tk k) h4
  | tup hs ha =>
    cases ru
    obtain ⟨as, rd⟩ := Dp.reads I _ _ _ (.tup hs ha) rfl
    exact PySem.repr_of_reads' rd h1 (fun z => by rw [h2] at z; cases z) hq (by omega) (fun _ _ e => e) (fun h' t tk k => fin h' t tk k) h4
section
variable {X : Cx} {E : XK} {i : Nat} {tab : Str → Option Bool} {e : Expr} {f n : Str} {p pos pos2 pos' : Pos} {s : D → Ga → Res (Ga × R)}
theorem jfe_repr (hu : X.A.units + 64 < cLine) (hq : X.A.guards = some []) (hg : Gl X "repr") (hm : X.mg "repr" = none) (hfc : ∀ c C, tab c = some true → X.mg c = some (.ref C) → fieldOf c = f ∧ FldC X.K C f) (hv : ∀ (a : Addr) (oe : Obj) (pn : List (Addr × Obj)), PE (X.suite a ((a, oe) :: pn)) e (tVar i))
    (hb : attributeBase e f X.env (eval e X.env) = eval e X.env := by rfl) (hst : starEach (.Attribute e f pos :: []) X.env = (false, eval (.Attribute e f pos) X.env) :: starEach [] X.env := by rfl) : JFE X E i tab (.Call (.Name "repr" p) [.Attribute e f pos] [] pos2) (fun y Γ => (reprG y).bind fun z => .ok (Γ, z)) := by
  refine ⟨fun a cls d => tCB (rRepr X.K) (tCons (tFld X.K f a cls d (tVar i)) tNil), fun a oe cls d pn hz hf => pe_callB (X := X.suite a ((a, oe) :: pn)) (cr_repr (X := X.suite a ((a, oe) :: pn)) hu hq) hg hm rfl (pa_cons (pe_fld hz hf (hv a oe pn) hb) pa_nil hst) (by decide) (by decide) hst rfl, fun B σ Γ H0 H Q C d v c y a ok hσ htab hmc hd rv w => ?_⟩
  obtain ⟨e1, hF⟩ := hfc c C htab hmc
  rw [e1] at hd
  show tFld X.K f a (.ref C) (some d) (tVar i) σ H fun x H1 => rRepr X.K [x] H1 Q
  refine ⟨.ref a, hσ, rfl, C, rfl, hF, d, v, rfl, hd, ?_⟩
  unfold reprG at w
  split at w
  · rename_i hz
    exact ⟨v, y, rfl, (rv.m ok.sub).dp, okB_iff.mp hz, opd_d ok w (.str _)⟩
  · exact w.elim
theorem jsn_set {j : Nat} (h : JFE X E i tab e s) (hN : X.N.Nodup) (hi : X.N[j]? = some n) (hx : Loc X.env.scope n) (hs : swapsWith e (some (.Name n pos')) pos.line X.env = pure false := by rfl)
    (hf : X.fn n = true ∨ X.env.scope.names.lookup n = some .local := by first | exact .inl rfl | exact .inr rfl | assumption) : JSN X E i tab [.Assign [.Name n pos'] e pos] (fun y Γ => (s y Γ).bind fun p => .ok (p.1.set j (slotOf p.2), .nx)) := by
  obtain ⟨t, p, ht⟩ := h.ex
  refine ⟨_, fun a oe cls d pn hz hf' => pss_one (ps_set (X := X.suite a ((a, oe) :: pn)) hN hi hx (p a oe cls d pn hz hf') hs hf), fun B σ Γ H0 H Dn C d v c y a ok hσ htab hm hd rv w => ?_⟩
  show t a (.ref C) (some d) σ H fun x H1 => Dn.nx (σ.set j (some x)) H1
  refine ht B σ Γ H0 H _ C d v c y a ok hσ htab hm hd rv ?_
  cases hs : s y Γ with
  | stuck => rw [hs] at w; exact w.elim
  | exc c' x => rw [hs] at w; exact w
  | ok q =>
    rw [hs] at w
    obtain ⟨Γ1, x⟩ := q
    intro u H0' H' ok' g l ru
    have w : ∀ σ' H0' H', EnvOk X.K B σ' (Γ1.set j (slotOf x)) H0' H' → Ex H0 H0' → FlOk X.K B H0' H' σ' Dn .nx := w
    exact w _ H0' H' (set_ok j ok ok' l ru) g.ex0
end
/-! ### [constant, hole]; constants in a suite -/
section
variable {X : Cx} {E : XK} {i : Nat} {tab : Str → Option Bool} {e e0 : Expr} {n : Str} {pos rpos pos' : Pos} {s : D → Ga → Res (Ga × R)} {x0 : D} {v0 : V}
theorem jfe_lst2 (p0 : ∀ (a : Addr) (oe : Obj) (pn : List (Addr × Obj)), PE (X.suite a ((a, oe) :: pn)) e0 (tC v0)) (r0 : ∀ K H, Rp K H v0 x0) (h : JFE X E i tab e s)
    (hs0 : starEach (e0 :: [e]) X.env = (false, eval e0 X.env) :: starEach [e] X.env := by rfl) (hs1 : starEach (e :: []) X.env = (false, eval e X.env) :: starEach [] X.env := by rfl) :
    JFE X E i tab (.List [e0, e] pos) (fun y Γ => (s y Γ).bind fun p => match p.2 with | .d z => .ok (p.1, .f [x0, z]) | .f _ => .stuck) := by
  obtain ⟨t, p, ht⟩ := h.ex
  refine ⟨fun a cls d => tLst (tCons (tC v0) (tCons (t a cls d) tNil)), fun a oe cls d pn hz hf => pe_lst (pa_cons (p0 a oe pn) (pa_cons (p a oe cls d pn hz hf) pa_nil hs1) hs0), fun B σ Γ H0 H Q C d v c y a ok hσ htab hm hd rv w => ?_⟩
  show t a (.ref C) (some d) σ H fun x H1 => [v0, x].length ≤ sizeLine ∧ ∀ p, H1 p = none → Q (.ref p) (upd H1 p (.lst [v0, x]))
  refine ht B σ Γ H0 H _ C d v c y a ok hσ htab hm hd rv ?_
  cases hs : s y Γ with
  | stuck => rw [hs] at w; exact w.elim
  | exc c' x => rw [hs] at w; exact w
  | ok q =>
    rw [hs] at w
    obtain ⟨Γ1, r⟩ := q
    cases r with
    | f xs => exact w.elim
    | d z =>
      intro u H0' H' ok' g l ru
      cases ru with
      | d rz =>
        refine ⟨by rw [sizeLine_eq]; simp, fun p hp => ?_⟩
        have w : ∀ v H02 H2, EnvOk X.K B σ Γ1 H02 H2 → Grow (OwnOf σ Γ) H0 H H02 H2 → Less Γ Γ1 → RV X.K H0 H H02 H2 (.f [x0, z]) v → Q v H2 := w
        have hnp : H p = none := by
          cases q : H p with
          | none => rfl
          | some o => exact absurd hp (g.live p (by rw [q]; simp))
        have hnp0 : H0' p = none := fresh_back ok'.sub hp
        exact w (.ref p) H0' _ (ok'.same (Grow.fresh hp) (Ex.upd1 ok'.sub hnp0)) (g.trans (Grow.fresh hp) fun _ h => .inl h) l (.f hnp hnp0 upd_same (.cons (r0 _ _) (.one rz)))
/-- a constant in a suite -/
theorem jsu_setC {j : Nat} (p0 : ∀ (a : Addr) (oe : Obj) (pn : List (Addr × Obj)), PE (X.suite a ((a, oe) :: pn)) e0 (tC v0)) (r0 : ∀ K H, Rp K H v0 x0) (hN : X.N.Nodup) (hi : X.N[j]? = some n) (hx : Loc X.env.scope n) (hs : swapsWith e0 (some (.Name n pos')) pos.line X.env = pure false := by rfl)
    (hf : X.fn n = true ∨ X.env.scope.names.lookup n = some .local := by first | exact .inl rfl | exact .inr rfl | assumption) : JSU X E [.Assign [.Name n pos'] e0 pos] (fun Γ => .ok (Γ.set j (.d x0), .nx)) := by
  refine ⟨_, fun a oe pn => pss_one (ps_set (X := X.suite a ((a, oe) :: pn)) hN hi hx (p0 a oe pn) hs hf), fun B σ Γ H0 H Dn ok w => ?_⟩
  show Dn.nx (σ.set j (some v0)) H
  have w : ∀ σ' H0' H', EnvOk X.K B σ' (Γ.set j (.d x0)) H0' H' → Ex H0 H0' → FlOk X.K B H0' H' σ' Dn .nx := w
  exact w _ H0 H (ok.setD j (r0 _ _)) (Ex.refl _)
theorem jsu_retK (p0 : ∀ (a : Addr) (oe : Obj) (pn : List (Addr × Obj)), PE (X.suite a ((a, oe) :: pn)) e0 (tC v0)) (r0 : ∀ K H, Rp K H v0 x0) : JSU X E [.Return (some e0) rpos] (fun Γ => .ok (Γ, .rt (.d x0))) :=
  jsu_retC p0 fun B σ Γ H0 H Q ok w => w v0 H0 H ok (Grow.refl _ _ _) (Less.refl _) (r0 _ _)
end
/-! ### try: name = e / except .. -/
def sTryS (j : Nat) (s : Ga → Res (Ga × R)) (hv : Str → D → Ga → Res (Ga × Fl)) : Ga → Res (Ga × Fl) := fun Γ => match s (hide Γ) with
  | .ok p => .ok (Γ.set j (slotOf p.2), .nx)
  | .exc c y => hv c y Γ
  | .stuck => .stuck
section
variable {X : Cx} {E : XK} {e : Expr} {n : Str} {j : Nat} {pos pos' rpos : Pos} {h₀ : ExceptHandler} {hds : List ExceptHandler} {s : Ga → Res (Ga × R)} {hv : Str → D → Ga → Res (Ga × Fl)}
theorem js_tryS (hs : X.stack = X.env :: X.outer) (hf : X.env.frame = some X.env.locals) (hN : X.N.Nodup) (hi : X.N[j]? = some n) (hx : Loc X.env.scope n) (tk : Takes X fun cls d _ H => E cls d H) (he : JEW X e s) (hc : Cls X E (h₀ :: hds) hv) (hsw : swapsWith e (some (.Name n pos')) rpos.line X.env = pure false := by rfl)
    (hfn : X.fn n = true ∨ X.env.scope.names.lookup n = some .local := by first | exact .inl rfl | exact .inr rfl | assumption) :
    JS X E (.Try [.Assign [.Name n pos'] e rpos] (h₀ :: hds) [] [] pos) (sTryS j s hv) := by
  obtain ⟨t, p, ht⟩ := he.ex
  obtain ⟨l, hh, hc⟩ := hc
  refine ⟨_, ps_try_manyA (tb := fun W => fun D σ H => t W σ H fun x H' => D.nx (σ.set j (some x)) H') hs hf hN tk (fun W pn xe tk' _ => pss_one (ps_set (X := X.tr pn xe) hN hi hx (p W pn xe tk') hsw hfn)) hh, fun B σ Γ H0 H Dn ok w => ?_⟩
  show t (wManyA X.K _ Dn l) σ H fun x H' => Dn.nx (σ.set j (some x)) H'
  unfold sTryS at w
  refine jew_run (s := s) ht ok (fun hst => by rw [hst] at w; exact w) (fun Γ1 x hx v H0' H' ok' ex rv => ?_) (fun c y hx C d v H0' H' hm hd rv ok' ex => ?_)
  · rw [hx] at w
    have w : ∀ σ' H02 H2, EnvOk X.K B σ' (Γ.set j (slotOf x)) H02 H2 → Ex H0 H02 → FlOk X.K B H02 H2 σ' Dn .nx := w
    exact w _ H0' H' (set_ok j ok ok' (Less.refl _) rv) ex
  · rw [hx] at w
    exact hc B σ Γ H0' H' Dn C d v c y ok' hm hd rv (sw_mono ex w)
end
omit [Tbl] in
/-- is an error of the class A one of the clause's class S? by whether A stands below S -/
theorem exm_of {K : PySem.W.Frag} {A S : Addr} {b : Bool} (h1 : PySem.W.subIn K (.ref S) (.type "BaseException") = some true) (h2 : PySem.W.isClsIn K S = true) (h3 : PySem.W.typeIn K (.ref S) = some (.type "type")) (h4 : PySem.W.subIn K (.ref A) (.ref S) = some b) :
    PySem.W.exmOne K (.ref A) (.ref S) = some b := by
  have e1 : (PySem.W.subIn K (.ref S) (.type "BaseException") == some true) = true := by rw [h1] <;> rfl
  have e2 : ((PySem.W.clsIn K S).isSome && PySem.W.typeIn K (.ref S) == some (.type "type")) = true := by
    have h2' : (PySem.W.clsIn K S).isSome = true := h2
    rw [h2', h3] <;> rfl
  show (if (PySem.W.subIn K (.ref S) (.type "BaseException") == some true) = true then (if ((PySem.W.clsIn K S).isSome && PySem.W.typeIn K (.ref S) == some (.type "type")) = true then PySem.W.subIn K (.ref A) (.ref S) else none) else none) = some b
  rw [if_pos e1, if_pos e2]
  exact h4
end Mi
namespace Mi
open PySem PySem.Spec PyProof.Rows L2 Evl
variable [Tbl]
/-! ### a lambda is made: a table grows by a code object, or has it already; nothing else that is old changes -/
omit [Tbl] in
theorem codeO_tbl {c : Addr} {q : Str} (ps : Array Value) : LamX.CodeO c q ≠ .tbl ps := fun z => by
  unfold LamX.CodeO at z; cases z
theorem tabs_more {H : Hp} {P c' : Addr} {q : Str} {pos : Pos} {ps : Array Value} (t : Tabs H) (hm : (P, q) ∈ Tbl.T) (hP : H P = some (.tbl ps)) (ht : TriplesOk ps.toList) (nC : H c' = none)
    (ha : ∀ (p' : Pos) (cv : Value), codeAmong p' ps.toList = some cv → ∃ c, cv = .ref c ∧ H c = some (LamX.CodeO c q)) :
    Tabs (upd (upd H P (.tbl (ps ++ #[rawInt pos.line, rawInt pos.col, .ref c']))) c' (LamX.CodeO c' q)) := by
  have other : ∀ {b : Addr} {o : HO}, H b = some o → (∀ ps, o ≠ .tbl ps) → upd (upd H P (.tbl (ps ++ #[rawInt pos.line, rawInt pos.col, .ref c']))) c' (LamX.CodeO c' q) b = some o := fun {b o} e n => by
    have n1 : b ≠ c' := ne_of_none e nC
    have n2 : b ≠ P := fun z => by rw [z, hP] at e; cases e; exact n _ rfl
    rw [upd_ne n1, upd_ne n2]
    exact e
  have nPc : P ≠ c' := ne_of_none hP nC
  refine ⟨fun p hp => ?_, fun p hp => other (t.c p hp) codeO_tbl⟩
  by_cases z : p.1 = P
  · have zq : p.2 = q := Tbl.uniq p hp (P, q) hm z
    rw [z, zq]
    refine ⟨ps ++ #[rawInt pos.line, rawInt pos.col, .ref c'], by rw [upd_ne nPc, upd_same], ?_, fun p' cv hcv => ?_⟩
    · have z2 : (ps ++ #[rawInt pos.line, rawInt pos.col, Value.ref c']).toList = ps.toList ++ [rawInt pos.line, rawInt pos.col, .ref c'] := by simp
      rw [z2]; exact PySem.TriplesOk_snoc _ _ _ _ ht
    · have z2 : (ps ++ #[rawInt pos.line, rawInt pos.col, Value.ref c']).toList = ps.toList ++ [rawInt pos.line, rawInt pos.col, .ref c'] := by simp
      rw [z2] at hcv
      rcases LamX.among_app _ ht hcv with y | y
      · obtain ⟨d, e1, e2⟩ := ha p' cv y
        exact ⟨d, e1, other e2 codeO_tbl⟩
      · exact ⟨c', y, upd_same⟩
  · obtain ⟨qs, e1, e2, e3⟩ := t.t p hp
    have n1 : p.1 ≠ c' := ne_of_none e1 nC
    refine ⟨qs, by rw [upd_ne n1, upd_ne z]; exact e1, e2, fun p' cv hcv => ?_⟩
    obtain ⟨d, y1, y2⟩ := e3 p' cv hcv
    exact ⟨d, y1, other y2 codeO_tbl⟩
section
variable {X : Cx} {pins : List (Addr × Obj)} {σ : L2.St} {H : Hp} {s : Shared}
/-- the name of a lambda that the def of X makes -/
abbrev lamQ (X : Cx) : Str := X.env.qual ++ ("<lambda>" : Str)
theorem lam_new {c P : Addr} {params : Arguments} {body : Expr} {scope : Scope} {pos : Pos} {E : Value → Shared → Prop} {Q : Value → Shared → Prop} (I : Inv X pins σ H s) (TB : LamX.TabB X.base X.mg c P) (hcode : X.env.code = .ref c) (hm : (P, lamQ X) ∈ Tbl.T) (tb : Tabs H)
    (hdef : defaultsOf params X.env = ([], [])) (hfree : ∀ y ∈ scope.names, y.2 = .free → ∃ c, X.env.cells.lookup y.1 = some c)
    (h : ∀ (f c' : Addr) (pm ctv : Value) (H1 : Hp) (s' : Shared), Inv X pins σ H1 s' → (∀ H0, Ex H0 H → NoT H0 → Grow (fun _ => False) H0 H H0 H1 ∧ Ex H0 H1) →
      s'.heap.get? f = some (PySem.W.kla_obj "<lambda>" (lamQ X) params body scope (cloFrom X.env.cells scope.names []) pm c' ctv) → H1 f = none → f ∉ frs X.stack → H1 c' = some (LamX.CodeO c' (lamQ X)) → Q (.ref f) s') :
    wpAny (model X.prog X.w) X.A (eval (.Lambda params body scope pos) X.env) Q E s := by
  obtain ⟨ps, hP, ht, ha⟩ := tb.t _ hm
  have bP : s.heap.BuiltinsAt X.mg P := TB.bm.keeps I.bk
  have cP : PySem.W.CodeHd s.heap c P := TB.code.keeps I.bk
  have gP : s.heap.Ns mainGlobals X.mg := I.mod.glob.keeps I.bk
  have oP : s.heap.get? P = some (PySem.W.tabObj ps) := I.hok P _ hP
  have young : ∀ f, s.heap.objs.size ≤ f → f ∉ frs X.stack := fun f hf z => by
    rcases List.mem_cons.mp (I.stkSub _ z) with e | e
    · have l := I.lt
      rw [← e] at l
      exact absurd l (Nat.not_lt.mpr hf)
    · exact I.nofs hf e
  refine PySem.W.kla_eval hdef ?_
  cases hc : codeAmong pos ps.toList with
  | some cv =>
    obtain ⟨c', rfl, hco⟩ := ha pos _ hc
    refine PySem.W.kla_makeFunctionHit (mg := X.mg) (c := c) (P := P) (ps := ps) (closure_ok hfree) I.ok.glob gP hcode cP oP ht hc bP ?_
    intro ctv h' tk hx hsz
    have J : Inv X pins σ H { s with heap := h'.push (PySem.W.kla_obj "<lambda>" (lamQ X) params body scope (cloFrom X.env.cells scope.names []) ((X.mg "__name__").getD .none) c' ctv), toks := tk } :=
      I.kept fun b o e => Heap.get?_push_of_some _ (hx b o e)
    exact h _ c' _ ctv H _ J (fun H0 e _ => ⟨Grow.refl _ _ _, e⟩) (Heap.get?_push_size _ rfl) (I.hok.fresh hsz) (young _ hsz) hco
  | none =>
    refine PySem.W.kla_makeFunction (mg := X.mg) (c := c) (P := P) (ps := ps) (closure_ok hfree) I.ok.glob gP hcode cP oP ht hc TB.gP bP ?_
    intro c' ctv h' tk hx hge hlt hrec htb
    obtain ⟨c2, oc, vs, t, e2, hoc, hd, hv⟩ := hrec
    cases e2
    have nC : H c' = none := I.hok.fresh hge
    have big : s.heap.objs.size ≤ h'.objs.size := by omega
    have J := LamX.inv_table (t' := tk) (more := #[rawInt pos.line, rawInt pos.col, .ref c']) (h' := h'.push (PySem.W.kla_obj "<lambda>" (lamQ X) params body scope (cloFrom X.env.cells scope.names []) ((X.mg "__name__").getD .none) c' ctv)) I hP
      (fun b o hb e => Heap.get?_push_of_some _ (hx b o hb e)) (Heap.get?_push_of_some _ htb) hge ⟨oc, vs, t, Heap.get?_push_of_some _ hoc, hd, hv⟩
    refine h h'.objs.size c' _ ctv _ _ J (fun H0 e nt => ⟨⟨Ex.refl _, fun p o ep _ n => ?_, fun _ _ _ => rfl, fun p ep => ?_, fun t0 => tabs_more t0 hm hP ht nC ha, fun t => t⟩, fun p o ep => ?_⟩) (Heap.get?_push_size _ rfl) ?_ (young _ big) upd_same
    · rw [upd_ne (ne_of_none ep nC), upd_ne fun z => by rw [z, hP] at ep; cases ep; exact n _ rfl]
      exact ep
    · exact upd_live (upd_live ep)
    · have ep' := e p o ep
      rw [upd_ne (ne_of_none ep' nC), upd_ne fun z => by rw [z, hP] at ep'; cases ep'; exact nt _ _ ep]
      exact ep'
    · have n1 : h'.objs.size ≠ c' := by omega
      have n2 : h'.objs.size ≠ P := Nat.ne_of_gt (Nat.lt_of_lt_of_le (Heap.lt_size oP) big)
      rw [upd_ne n1, upd_ne n2]
      exact I.hok.fresh big
end
end Mi
namespace Mi
open PySem PySem.Spec PyProof.Rows L2 Evl
/-! ### the def that got the lambda calls it -/
section
variable {X : Cx} {pins : List (Addr × Obj)} {σ : L2.St} {H : Hp} {s : Shared}
theorem lam_act {CXg : CXT} {Eg : XK} {Ng : List Str} {qg : Str} {sg : Scope} {g f c' : Addr} {cdg pm ctv : Value} {params : Arguments} {body : Expr} {scope : Scope} {k i : Nat} {a : Str} {pn : List (Addr × Obj)} {xe : Value → Shared → Prop} {W : WX} {tb : XK → TE} {p1 p2 : Pos}
    (I : Inv X pins σ H s) (L : LamX.LamS X.env.scope scope) (hq : X.A.guards = some []) (hf : s.heap.get? f = some (PySem.W.kla_obj "<lambda>" (lamQ X) params body scope (cloFrom X.env.cells scope.names []) pm c' ctv)) (hfn : H f = none) (hfr : f ∉ frs X.stack)
    (hbind : bindArgs (PySem.W.kla_fn "<lambda>" (lamQ X) params body scope (cloFrom X.env.cells scope.names []) pm (.ref c') ctv) ⟨[], []⟩ = pure [])
    (tk : Takes ((cxOf CXg X.prog X.w X.K X.mg X.base Ng qg sg g cdg X.A X.stack s H Eg).tr pn xe) W) (hr : Room (k + 1) (X.A.deeper (envOfC qg sg s.heap.objs.size g cdg)))
    (hbody : ∀ (A : Around) (outer : List Env) (s : Shared) (H : Hp) (E : XK), Room k (A.deeper (LamX.lamEnv X scope s.heap.objs.size f c')) → A.guards = some [] → PE (LamX.lamCx X A outer s H E scope f c') body (tb E))
    (hN : Ng[i]? = some a) (hv : Vis sg a) (hd : (a == ("__debug__" : Str)) = false) (hcd : (a == ("__classdict__" : Str)) = false) :
    PE ((cxOf CXg X.prog X.w X.K X.mg X.base Ng qg sg g cdg X.A X.stack s H Eg).tr pn xe) (.Call (.Name a p1) [] [] p2)
      (fun σZ HZ Q => σZ[i]? = some (some (.ref f)) ∧ HZ c' = some (LamX.CodeO c' (lamQ X)) ∧ tb (fun cls d H => W cls d σZ H) σ HZ Q) := by
  constructor
  rintro pz sZ σZ HZ Q IZ ⟨hs, hc, ht⟩
  refine wpAny_Call_Name_kw (thn ((pe_var (pos := p1) (i := i) hN hv hd hcd).run pz sZ σZ HZ (fun v H1 => v = .ref f ∧ H1 = HZ) IZ ⟨.ref f, hs, rfl, rfl⟩) ?_)
  rintro u s1 ⟨v, H1, I1, r1, rfl, eH⟩
  rw [eH] at I1
  obtain rfl : u = Value.ref f := r1
  have of1 : s1.heap.get? f = some (PySem.W.kla_obj "<lambda>" (lamQ X) params body scope (cloFrom X.env.cells scope.names []) pm c' ctv) := I1.base.keep f _ hf hfn hfr fun z => nomatch (show f ∈ ([] : List Addr) from z)
  have un : Un (frs X.stack) [] H HZ s.heap s1.heap := I1.base
  obtain ⟨⟨oc, vs, t, hoc, hdc, hvc⟩, _, _⟩ := I1.hok c' _ hc
  have run : codeAny (model X.prog X.w) (X.A.deeper (envOfC qg sg s.heap.objs.size g cdg)) (.call (.ref f) ⟨[], []⟩) (CR (L2.CX X.prog X.w) (envOfC qg sg s.heap.objs.size g cdg :: X.stack) X.prog X.w HZ s1 Q fun cls d H => W cls d σZ H) s1 := by
    refine PySem.W.kla_callFunE hr.depth of1 rfl L.co L.gen rfl ⟨c', oc, vs, t, rfl, hoc, hdc, hvc⟩ ?_
    rw [hbind]
    refine wpAny_pure (wpAny_newFunctionEnv (fun y hy => (L.own y hy).2) (fun y hy => absurd hy (by simp)) ?_ L.kind)
    intro h₁ hns hsb
    refine ⟨I1.nolimit.fresh _ hsb, ?_⟩
    have kp : ∀ b o, s1.heap.get? b = some o → h₁.get? b = some o := fun b o e => hsb.extBut b o (Nat.ne_of_lt (Heap.lt_size e)) (Heap.get?_push_of_some _ e)
    have J := LamX.lam_start2 (A := X.A.deeper (envOfC qg sg s.heap.objs.size g cdg)) (outer := envOfC qg sg s.heap.objs.size g cdg :: X.stack) (E := fun cls d H => W cls d σZ H) (f := f) (c' := c') (tk := s1.toks + ([] : List (Str × Value)).length) I L I1.env0 hr.hd un hns kp
    show codeAny _ _ (.expr body (LamX.lamEnv X scope s1.heap.objs.size f c')) _ _
    refine PySem.W.kla_codeExpr (wpAny_mono ((hbody _ _ s1 HZ _ (hr.deeper _) hq).run [] _ _ HZ Q J ht) ?_ fun e s' z => z)
    rintro v s' ⟨w', H', J', rv, q⟩
    exact ⟨w', H', J'.os, J'.bare, J'.base, J'.hok, rv, q⟩
  refine PySem.W.callWith_F0 ⟨_, _, _, _, of1⟩ (wpAny_call (codeAny_mono run ?_))
  rintro r s' hres
  match r, hres with
  | .error e, z => exact tk e s' (XE.of_call I1 (fun _ _ _ h => h) z)
  | .ok (.ret u), z => exact I1.after z
  | .ok .next, z => exact z.elim
  | .ok .brk, z => exact z.elim
  | .ok .cont, z => exact z.elim
end
/-! ### growing, told with other tables of lambdas -/
/-- T', and one lambda more: c', its name q, its address f, made when the data was M -/
@[reducible] def Tbl.more (T : Tbl) (c' : Addr) (q : Str) (f : Addr) (M : Hp) : Tbl := ⟨T.T, T.uniq, (c', q) :: T.C, M, f⟩
section
variable {T : Tbl} {c' f : Addr} {q : Str} {M H H0 H' H0' : Hp} {O : Addr → Prop}
theorem tabs_less (h : @Tabs (T.more c' q f M) H) : @Tabs T H :=
  @Tabs.mk T _ (@Tabs.t (T.more c' q f M) _ h) fun p hp => @Tabs.c (T.more c' q f M) _ h p (List.mem_cons_of_mem _ hp)
theorem tabs_one (h : @Tabs T H) (e : H c' = some (LamX.CodeO c' q)) : @Tabs (T.more c' q f M) H :=
  @Tabs.mk (T.more c' q f M) _ (@Tabs.t T _ h) (List.forall_mem_cons.mpr ⟨e, @Tabs.c T _ h⟩)
theorem grow_less (t : @Tabs (T.more c' q f M) H) (g : @Grow (T.more c' q f M) O H0 H H0' H') : @Grow T O H0 H H0' H' :=
  @Grow.mk T _ _ _ _ _ (@Grow.ex0 (T.more c' q f M) _ _ _ _ _ g) (@Grow.keep (T.more c' q f M) _ _ _ _ _ g) (@Grow.old (T.more c' q f M) _ _ _ _ _ g) (@Grow.live (T.more c' q f M) _ _ _ _ _ g) (fun t0 => tabs_less (@Grow.tab (T.more c' q f M) _ _ _ _ _ g (tabs_one t0 (@Tabs.c (T.more c' q f M) _ t (c', q) List.mem_cons_self)))) (@Grow.nt (T.more c' q f M) _ _ _ _ _ g)
theorem grow_more (g : @Grow T (fun _ => False) H0 H H0' H') : @Grow (T.more c' q f M) (fun _ => False) H0 H H0' H' :=
  @Grow.mk (T.more c' q f M) _ _ _ _ _ g.ex0 g.keep g.old g.live (fun t => by
    have e := @Tabs.c (T.more c' q f M) _ t (c', q) List.mem_cons_self
    exact tabs_one (g.tab (tabs_less t)) (g.keep _ _ e id codeO_tbl)) g.nt
end
/-! ### told(lambda: e) -/
/-- the value of a lambda's call, told ahead: r -/
def sK (r : Res R) : Ga → Res (Ga × R) := fun Γ => match Γ[0]? with
  | some Sl.cl => r.bind fun x => .ok (Γ, x)
  | _ => .stuck
/-- what a def makes of the lambda that it gets; b: its body, by what the lambda's call gives -/
def lamS (n : Nat) (b : Res R → Ga → Res (Ga × Fl)) (r : Res R) : Res R := (defS 1 n (b r) [.cl]).bind fun p => .ok p.2
/-- the outcome of a lambda's body, its maker's lists hidden -/
def lamR (sb : Ga → Res (Ga × R)) (Γ : Ga) : Res R := (sb (hide Γ)).bind fun p => .ok p.2
structure HasL (P : Program) (w : World) (K : PySem.W.Frag) (mg : Str → Option Value) (base : Heap) (x : Str) (k : Nat) (m : Res R → Res R) : Prop where
  ex : ∃ (st : Stmt) (a : Str) (Ng : List Str) (f : Addr) (fd : FuncData) (b : Res R → Ga → Res (Ga × Fl)), Def K mg x st [a] f fd ∧ FnScope Ng [a] (defScope st) ∧ Ng[0]? = some a ∧ Vis (defScope st) a ∧ (a == ("__debug__" : Str)) = false ∧ (a == ("__classdict__" : Str)) = false ∧ m = lamS (Ng.length - 1) b ∧
    ∀ (T1 : Tbl) (r : Res R) (cdv : Value) (A : Around) (outer : List Env) (s : Shared) (H : Hp) (E : XK), Room (k + 1) (A.deeper (envOfC x (defScope st) s.heap.objs.size f cdv)) → A.guards = some [] →
      (∀ p1 p2, @JEW T1 (cxOf (L2.CX P w) P w K mg base Ng x (defScope st) f cdv A outer s H E) (.Call (.Name a p1) [] [] p2) (sK r)) → @JSs T1 (cxOf (L2.CX P w) P w K mg base Ng x (defScope st) f cdv A outer s H E) E (defBody st) (b r)
def callLam (m : Res R → Res R) (sb : Ga → Res (Ga × R)) : Ga → Res (Ga × R) := fun Γ => (m (lamR sb Γ)).bind fun r => .ok (Γ, r)
/-- what a lambda's body means, as a reading -/
def tSem [Tbl] (X : Cx) (sb : Ga → Res (Ga × R)) (E : XK) : TE := fun σ H Q => ∃ B Γ H0, EnvOk X.K B σ Γ H0 H ∧ EW X B E σ Γ H0 H (sb Γ) Q
theorem pe_sem [Tbl] {X Z : Cx} {E : XK} {e : Expr} {sb : Ga → Res (Ga × R)} (hK : Z.K = X.K) (hm : Z.mg = X.mg) (h : JE Z E e sb) : PE Z e (tSem X sb E) := by
  obtain ⟨t, p, hs⟩ := h.ex
  refine ⟨fun pins s σ H Q I h => ?_⟩
  obtain ⟨B, Γ, H0, ok, w⟩ := h
  refine p.run pins s σ H Q I (hs B σ Γ H0 H Q (by rw [hK]; exact ok) ?_)
  cases hr : sb Γ with
  | stuck => rw [hr] at w; exact w
  | exc c x => rw [hr] at w; unfold EW XW at w ⊢; rw [hK, hm]; exact w
  | ok q => rw [hr] at w; unfold EW at w ⊢; rw [hK]; exact w
section
variable {T : Tbl} {X : Cx} {c' f : Addr} {q : Str} {M : Hp}
/-- the lambda is called where the data has grown -/
theorem lam_sem {Z : Cx} {B0 B : Bg} {σ σZ : L2.St} {Γ ΓZ : Ga} {H0 H H0Z HZ : Hp} {sb : Ga → Res (Ga × R)} {E : XK} {Q : VK} (hK : Z.K = X.K) (hm : Z.mg = X.mg) (ok : @EnvOk T X.K B0 σ Γ H0 H) (okz : @EnvOk (T.more c' q f H0) X.K B σZ ΓZ H0Z HZ)
    (w : @EW (T.more c' q f H0) Z B E σZ ΓZ H0Z HZ (sK (lamR sb Γ) ΓZ) Q) : @tSem T X sb E σ HZ Q := by
  have pz := @EnvOk.past (T.more c' q f H0) _ _ _ _ _ _ okz
  have e0 : Ex H0 H0Z := @Past.ex (T.more c' q f H0) _ pz
  have ntz : NoT H0Z := @Past.nt (T.more c' q f H0) _ pz
  have subz := @EnvOk.sub (T.more c' q f H0) _ _ _ _ _ _ okz
  have tabz := @EnvOk.tabs (T.more c' q f H0) _ _ _ _ _ _ okz
  have okh := @hide_ok T _ _ _ _ _ _ ok
  have ok2 : @EnvOk T X.K ⟨H0Z, HZ, fun _ => none⟩ σ (hide Γ) H0Z HZ := by
    refine @EnvOk.mk T _ _ _ _ _ _ subz okh.len (fun i x h => ?_) (fun i ns h => ?_) (fun i b xs h => ?_) (fun i j b c xs ys a hij h => ?_) (@Grow.refl T _ _ _) (tabs_less tabz) (@Past.mk T _ (okh.past.ex.trans e0) ntz) okh.cl
    · obtain ⟨v, e1, r⟩ := okh.dat i x h
      exact ⟨v, e1, r.m e0⟩
    · obtain ⟨v, e1, r⟩ := okh.scr i ns h
      exact ⟨v, e1, ex_l e0 r⟩
    · obtain ⟨s, e, q⟩ := hide_at h
      cases s <;> simp only [hideS] at q <;> cases q
    · obtain ⟨s, e, q⟩ := hide_at h
      cases s <;> simp only [hideS] at q <;> cases q
  refine ⟨_, _, _, ok2, ?_⟩
  have w2 : @EW (T.more c' q f H0) Z B E σZ ΓZ H0Z HZ ((lamR sb Γ).bind fun x => .ok (ΓZ, x)) Q := by
    unfold sK at w
    split at w
    · exact w
    · exact w.elim
  unfold lamR at w2
  have gz : ∀ {H0' H' : Hp}, @Grow T (fun p => ∃ i, (⟨H0Z, HZ, fun _ => none⟩ : Bg).io i = some p) H0Z HZ H0' H' → @Grow (T.more c' q f H0) (fun _ => False) H0Z HZ H0' H' := fun {H0' H'} g =>
    grow_more (@Grow.wide T _ _ _ _ _ _ g fun p ⟨i, z⟩ => nomatch z)
  cases hs : sb (hide Γ) with
  | stuck => rw [hs] at w2; exact w2.elim
  | exc c x =>
    rw [hs] at w2
    intro C d v H0' H' h1 h2 h3 h4 h5
    exact w2 C d v H0' H' (by rw [hm]; exact h1) h2 (by rw [hK]; exact h3) h4 (@Grow.trans (T.more c' q f H0) _ _ _ _ _ _ _ _ (@EnvOk.grow (T.more c' q f H0) _ _ _ _ _ _ okz) (gz h5) fun p z => z.elim)
  | ok pr =>
    obtain ⟨Γ1, x⟩ := pr
    rw [hs] at w2
    intro v H0' H' ok' g l rv
    have g1 := gz (@Grow.wide T _ _ _ _ _ _ g fun p z => (own_hide z).elim)
    exact w2 v H0' H' (by rw [hK]; exact @EnvOk.same (T.more c' q f H0) _ _ _ _ _ _ _ _ okz g1 ok'.sub) (@Grow.wide (T.more c' q f H0) _ _ _ _ _ _ g1 fun p z => z.elim) (fun _ _ _ h => ⟨_, h⟩) (by rw [hK]; exact rv)
end
end Mi
namespace Mi
open PySem PySem.Spec PyProof.Rows L2 Evl
section
variable {T : Tbl} {X : Cx} {f c' : Addr} {q : Str} {H0 H1 : Hp}
theorem noio_cl {p : Addr} : ¬ ∃ i, (Bof H0 H1 [.ref f] [.cl]).io i = some p := by
  rintro ⟨i, z⟩
  obtain ⟨b, ys, h, _⟩ := of_io z
  match i, h with
  | 0, h => cases h
  | i + 1, h => simp at h
theorem only_cl {i : Nat} {s : Sl} (h : ([Sl.cl] : Ga)[i]? = some s) : i = 0 ∧ s = .cl := by
  match i, h with
  | 0, h => cases h; exact ⟨rfl, rfl⟩
  | i + 1, h => simp at h
/-- the slots of the def that gets the lambda -/
theorem start_cl {B : Bg} {σ : L2.St} {Γ : Ga} (ok : @EnvOk T X.K B σ Γ H0 H1) (hc : H1 c' = some (LamX.CodeO c' q)) : @EnvOk (T.more c' q f H0) X.K (Bof H0 H1 [.ref f] [.cl]) [some (.ref f)] [.cl] H0 H1 := by
  refine @EnvOk.mk (T.more c' q f H0) _ _ _ _ _ _ ok.sub rfl (fun i y h => ?_) (fun i y h => ?_) (fun i b xs h => ?_) (fun i j b c xs ys p _ h => ?_) (@Grow.refl (T.more c' q f H0) _ _ _) (tabs_one ok.tabs hc) (@Past.mk (T.more c' q f H0) _ (Ex.refl _) ok.past.nt) (fun i h => ?_)
  · cases (only_cl h).2
  · cases (only_cl h).2
  · cases (only_cl h).2
  · cases (only_cl h).2
  · rw [(only_cl h).1] <;> rfl
/-- the wish of the call, from that of told(..) -/
theorem fw_cl {B : Bg} {σ : L2.St} {Γ : Ga} {H : Hp} {E : XK} {Q : VK} {n : Nat} {b : Res R → Ga → Res (Ga × Fl)} {sb : Ga → Res (Ga × R)} (ok : @EnvOk T X.K B σ Γ H0 H) (ok1 : @EnvOk T X.K B σ Γ H0 H1) (g : @Grow T (fun _ => False) H0 H H0 H1) (hc : H1 c' = some (LamX.CodeO c' q))
    (w : @EW T X B E σ Γ H0 H (callLam (lamS n b) sb Γ) Q) : @FW (T.more c' q f H0) X.K X.mg H0 H1 [.ref f] [.cl] E (defS 1 n (b (lamR sb Γ)) [.cl]) Q := by
  have back : ∀ {H0' H' : Hp}, @Grow (T.more c' q f H0) (fun p => ∃ i, (Bof H0 H1 [.ref f] [.cl]).io i = some p) H0 H1 H0' H' → @Grow T (fun _ => False) H0 H1 H0' H' := fun {H0' H'} gr =>
    grow_less (tabs_one ok1.tabs hc) (@Grow.wide (T.more c' q f H0) _ _ _ _ _ _ gr fun p hp => noio_cl hp)
  have w : @EW T X B E σ Γ H0 H (((defS 1 n (b (lamR sb Γ)) [.cl]).bind fun p => .ok p.2).bind fun r => .ok (Γ, r)) Q := w
  cases hd : defS 1 n (b (lamR sb Γ)) [.cl] with
  | stuck => rw [hd] at w; exact w
  | exc c x =>
    rw [hd] at w
    intro C d v H0' H' h1 h2 h3 h4 h5
    exact w C d v H0' H' h1 h2 h3 h4 (@Grow.trans T _ _ _ _ _ _ _ _ ok1.grow (back h5) fun p z => z.elim)
  | ok pr =>
    obtain ⟨Γ', x⟩ := pr
    rw [hd] at w
    intro v H0' H' ok' rv
    have gr := back (@EnvOk.grow (T.more c' q f H0) _ _ _ _ _ _ ok')
    have w : ∀ v H0' H', @EnvOk T X.K B σ Γ H0' H' → @Grow T (OwnOf σ Γ) H0 H H0' H' → Less Γ Γ → RV X.K H0 H H0' H' x v → Q v H' := w
    refine w v H0' H' (@EnvOk.same T _ _ _ _ _ _ _ _ ok1 gr (@EnvOk.sub (T.more c' q f H0) _ _ _ _ _ _ ok')) ?_ (fun _ _ _ h => ⟨_, h⟩) (RV.back (O := fun _ => False) g rv)
    exact @Grow.wide T _ _ _ _ _ _ (@Grow.trans T _ _ _ _ _ _ _ _ g gr fun p z => z.elim) fun p z => z.elim
end
section
variable [T : Tbl] {X : Cx} {E : XK} {x : Str} {j k : Nat} {c P : Addr} {m : Res R → Res R} {params : Arguments} {body : Expr} {scope : Scope} {sb : Ga → Res (Ga × R)} {p lpos pos : Pos}
theorem je_lam (F : HasL X.prog X.w X.K X.mg X.base x j m) (hr : Room k X.A) (hj : j + 2 ≤ k) (hq : X.A.guards = some []) (hg : Gl X x) (tk : Takes X fun cls d _ H => E cls d H)
    (TB : LamX.TabB X.base X.mg c P) (hcode : X.env.code = .ref c) (hm : (P, lamQ X) ∈ T.T) (L : LamX.LamS X.env.scope scope) (hdef : defaultsOf params X.env = ([], []))
    (hbind : ∀ (q : Str) (cl : List (Str × Addr)) (pm cv ctv : Value), bindArgs (PySem.W.kla_fn "<lambda>" q params body scope cl pm cv ctv) ⟨[], []⟩ = pure [])
    (hbody : ∀ (A : Around) (outer : List Env) (s : Shared) (H : Hp) (E : XK) (f c' : Addr), Room j (A.deeper (LamX.lamEnv X scope s.heap.objs.size f c')) → A.guards = some [] → JE (LamX.lamCx X A outer s H E scope f c') E body sb)
    (hdb : (x == ("__debug__" : Str)) = false := by decide) :
    JE X E (.Call (.Name x p) [.Lambda params body scope lpos] [] pos) (callLam m sb) := by
  obtain ⟨st, a, Ng, g, fd, b, D, Sg, hNg, hva, hd, hcd, rfl, hB⟩ := F.ex
  refine ⟨fun σ H Q => ∃ B Γ H0, EnvOk X.K B σ Γ H0 H ∧ EW X B E σ Γ H0 H (callLam (lamS (Ng.length - 1) b) sb Γ) Q, ⟨?_⟩, fun B σ Γ H0 H Q ok w => ⟨B, Γ, H0, ok, w⟩⟩
  rintro pins s σ H Q I ⟨B, Γ, H0, ok, w⟩
  refine wpAny_Call_Name_kw (ld_glob I hg D.at_ ?_ hdb)
  refine PySem.W.callWith_K (h₀ := X.base) I.ok.mod.kin D.fn.kp ?_ (by rfl) (by rfl)
  show wpAny _ _ (spliced ((false, eval (.Lambda params body scope lpos) X.env) :: backTo pos (starEach [] X.env))) _ _ s
  refine Calls.spliced_cons (lam_new I TB hcode hm ok.tabs hdef (L.has I.ok) ?_)
  intro f c' pm' ctv H1 s' I1 g1 hf hfn hfr hco
  obtain ⟨g1, sub1⟩ := g1 H0 ok.sub ok.past.nt
  have ok1 := ok.same g1 sub1
  refine Calls.spliced_nil ⟨I1.kIn, ?_⟩
  have rc : codeAny (model X.prog X.w) X.A (.call (.ref g) ⟨[.ref f], []⟩) (CR (L2.CX X.prog X.w) X.stack X.prog X.w H1 s' Q E) s' := by
    obtain ⟨oc, od, kV, doc, pm, an, cdv, ct, osl, rfl, lk, hcg⟩ := D.fn.ex
    have hr2 : Room (j + 2) X.A := hr.mono (by omega)
    refine LamX.run_ofS (k := j + 1) (N := Ng) (ps := [a]) (us := [.ref f]) (vs := [.ref f]) lk hcg Sg hr2 I1.env0 (D.bd s' [.ref f] I1.kIn rfl) (.cons rfl .nil) rfl fun hr' => ?_
    refine @body_ok1 (T.more c' (lamQ X) f H0) X.prog X.w X.K X.mg X.base x st g Ng [a] (b (lamR sb Γ)) Sg cdv X.A X.stack s' H1 [.ref f] Q E ?_ ⟨rfl, H0, [.cl], start_cl ok1 hco, fw_cl ok ok1 g1 hco w⟩
    refine hB (T.more c' (lamQ X) f H0) (lamR sb Γ) cdv X.A X.stack s' H1 E hr' hq fun p1 p2 => ?_
    refine @JEW.mk (T.more c' (lamQ X) f H0) _ _ _ ⟨fun W σZ HZ Q => σZ[0]? = some (some (.ref f)) ∧ HZ c' = some (LamX.CodeO c' (lamQ X)) ∧ tSem X sb (fun cls d H => W cls d σZ H) σ HZ Q, fun W pn xe tk' => ?_, ?_⟩
    · refine lam_act (i := 0) (tb := fun E => tSem X sb E) I1 L hq hf hfn hfr (hbind _ _ _ _ _) tk' hr' (fun A outer s2 H2 E2 hrA hqA => ?_) hNg hva hd hcd
      exact pe_sem rfl rfl (hbody A outer s2 H2 E2 f c' hrA hqA)
    · intro W BZ σZ ΓZ H0Z HZ QZ okz wz
      have h0 : ΓZ[0]? = some Sl.cl := by
        unfold sK at wz
        split at wz
        · assumption
        · exact wz.elim
      refine ⟨@EnvOk.cl (T.more c' (lamQ X) f H0) _ _ _ _ _ _ okz 0 h0, ?_, ?_⟩
      · exact @Tabs.c (T.more c' (lamQ X) f H0) _ (@EnvOk.tabs (T.more c' (lamQ X) f H0) _ _ _ _ _ _ okz) (c', lamQ X) List.mem_cons_self
      · exact lam_sem (X := X) (q := lamQ X) (f := f) rfl rfl ok1 okz wz
  refine wpAny_call (codeAny_mono rc ?_)
  intro res s2 hres
  match res, hres with
  | .ok (.ret u), z => exact I1.after z
  | .ok .next, z => exact z.elim
  | .ok .brk, z => exact z.elim
  | .ok .cont, z => exact z.elim
  | .error ex, z => exact passes_call tk (fun _ _ _ _ z => z) pins σ H1 s' ex s2 I1 z
end
end Mi
namespace Mi
open PySem PySem.Spec PyProof.Rows L2 Evl
/-! ### the program's errors, and which clause takes which -/
def errVal : List Str := ["InvalidNumber", "InvalidStack", "InvalidSequence", "InvalidEffect", "InvalidText", "InvalidCommand"]
def errAll : List Str := ["InvalidNumber", "InvalidStack", "InvalidSequence", "InvalidEffect", "InvalidText", "InvalidCommand", "StepFailed", "LimitExceeded", "UnknownUser", "UnknownName", "NothingToUndo"]
def tabE (cl c : Str) : Option Bool := if errAll.contains c then some (c == cl || (cl == "SkylineError" && errVal.contains c)) else none
@[simp] theorem tab_InvalidNumber_InvalidNumber : tabE "InvalidNumber" "InvalidNumber" = some true := by decide +kernel
@[simp] theorem tab_InvalidNumber_InvalidStack : tabE "InvalidNumber" "InvalidStack" = some false := by decide +kernel
@[simp] theorem tab_InvalidNumber_InvalidSequence : tabE "InvalidNumber" "InvalidSequence" = some false := by decide +kernel
@[simp] theorem tab_InvalidNumber_InvalidEffect : tabE "InvalidNumber" "InvalidEffect" = some false := by decide +kernel
@[simp] theorem tab_InvalidNumber_InvalidText : tabE "InvalidNumber" "InvalidText" = some false := by decide +kernel
@[simp] theorem tab_InvalidNumber_InvalidCommand : tabE "InvalidNumber" "InvalidCommand" = some false := by decide +kernel
@[simp] theorem tab_InvalidNumber_StepFailed : tabE "InvalidNumber" "StepFailed" = some false := by decide +kernel
@[simp] theorem tab_InvalidNumber_LimitExceeded : tabE "InvalidNumber" "LimitExceeded" = some false := by decide +kernel
@[simp] theorem tab_InvalidNumber_UnknownUser : tabE "InvalidNumber" "UnknownUser" = some false := by decide +kernel
@[simp] theorem tab_InvalidNumber_UnknownName : tabE "InvalidNumber" "UnknownName" = some false := by decide +kernel
@[simp] theorem tab_InvalidNumber_NothingToUndo : tabE "InvalidNumber" "NothingToUndo" = some false := by decide +kernel
@[simp] theorem tab_InvalidStack_InvalidNumber : tabE "InvalidStack" "InvalidNumber" = some false := by decide +kernel
@[simp] theorem tab_InvalidStack_InvalidStack : tabE "InvalidStack" "InvalidStack" = some true := by decide +kernel
@[simp] theorem tab_InvalidStack_InvalidSequence : tabE "InvalidStack" "InvalidSequence" = some false := by decide +kernel
@[simp] theorem tab_InvalidStack_InvalidEffect : tabE "InvalidStack" "InvalidEffect" = some false := by decide +kernel
@[simp] theorem tab_InvalidStack_InvalidText : tabE "InvalidStack" "InvalidText" = some false := by decide +kernel
@[simp] theorem tab_InvalidStack_InvalidCommand : tabE "InvalidStack" "InvalidCommand" = some false := by decide +kernel
@[simp] theorem tab_InvalidStack_StepFailed : tabE "InvalidStack" "StepFailed" = some false := by decide +kernel
@[simp] theorem tab_InvalidStack_LimitExceeded : tabE "InvalidStack" "LimitExceeded" = some false := by decide +kernel
@[simp] theorem tab_InvalidStack_UnknownUser : tabE "InvalidStack" "UnknownUser" = some false := by decide +kernel
@[simp] theorem tab_InvalidStack_UnknownName : tabE "InvalidStack" "UnknownName" = some false := by decide +kernel
@[simp] theorem tab_InvalidStack_NothingToUndo : tabE "InvalidStack" "NothingToUndo" = some false := by decide +kernel
@[simp] theorem tab_InvalidSequence_InvalidNumber : tabE "InvalidSequence" "InvalidNumber" = some false := by decide +kernel
@[simp] theorem tab_InvalidSequence_InvalidStack : tabE "InvalidSequence" "InvalidStack" = some false := by decide +kernel
@[simp] theorem tab_InvalidSequence_InvalidSequence : tabE "InvalidSequence" "InvalidSequence" = some true := by decide +kernel
@[simp] theorem tab_InvalidSequence_InvalidEffect : tabE "InvalidSequence" "InvalidEffect" = some false := by decide +kernel
@[simp] theorem tab_InvalidSequence_InvalidText : tabE "InvalidSequence" "InvalidText" = some false := by decide +kernel
@[simp] theorem tab_InvalidSequence_InvalidCommand : tabE "InvalidSequence" "InvalidCommand" = some false := by decide +kernel
@[simp] theorem tab_InvalidSequence_StepFailed : tabE "InvalidSequence" "StepFailed" = some false := by decide +kernel
@[simp] theorem tab_InvalidSequence_LimitExceeded : tabE "InvalidSequence" "LimitExceeded" = some false := by decide +kernel
@[simp] theorem tab_InvalidSequence_UnknownUser : tabE "InvalidSequence" "UnknownUser" = some false := by decide +kernel
@[simp] theorem tab_InvalidSequence_UnknownName : tabE "InvalidSequence" "UnknownName" = some false := by decide +kernel
@[simp] theorem tab_InvalidSequence_NothingToUndo : tabE "InvalidSequence" "NothingToUndo" = some false := by decide +kernel
@[simp] theorem tab_InvalidEffect_InvalidNumber : tabE "InvalidEffect" "InvalidNumber" = some false := by decide +kernel
@[simp] theorem tab_InvalidEffect_InvalidStack : tabE "InvalidEffect" "InvalidStack" = some false := by decide +kernel
@[simp] theorem tab_InvalidEffect_InvalidSequence : tabE "InvalidEffect" "InvalidSequence" = some false := by decide +kernel
@[simp] theorem tab_InvalidEffect_InvalidEffect : tabE "InvalidEffect" "InvalidEffect" = some true := by decide +kernel
@[simp] theorem tab_InvalidEffect_InvalidText : tabE "InvalidEffect" "InvalidText" = some false := by decide +kernel
@[simp] theorem tab_InvalidEffect_InvalidCommand : tabE "InvalidEffect" "InvalidCommand" = some false := by decide +kernel
@[simp] theorem tab_InvalidEffect_StepFailed : tabE "InvalidEffect" "StepFailed" = some false := by decide +kernel
@[simp] theorem tab_InvalidEffect_LimitExceeded : tabE "InvalidEffect" "LimitExceeded" = some false := by decide +kernel
@[simp] theorem tab_InvalidEffect_UnknownUser : tabE "InvalidEffect" "UnknownUser" = some false := by decide +kernel
@[simp] theorem tab_InvalidEffect_UnknownName : tabE "InvalidEffect" "UnknownName" = some false := by decide +kernel
@[simp] theorem tab_InvalidEffect_NothingToUndo : tabE "InvalidEffect" "NothingToUndo" = some false := by decide +kernel
@[simp] theorem tab_InvalidText_InvalidNumber : tabE "InvalidText" "InvalidNumber" = some false := by decide +kernel
@[simp] theorem tab_InvalidText_InvalidStack : tabE "InvalidText" "InvalidStack" = some false := by decide +kernel
@[simp] theorem tab_InvalidText_InvalidSequence : tabE "InvalidText" "InvalidSequence" = some false := by decide +kernel
@[simp] theorem tab_InvalidText_InvalidEffect : tabE "InvalidText" "InvalidEffect" = some false := by decide +kernel
@[simp] theorem tab_InvalidText_InvalidText : tabE "InvalidText" "InvalidText" = some true := by decide +kernel
@[simp] theorem tab_InvalidText_InvalidCommand : tabE "InvalidText" "InvalidCommand" = some false := by decide +kernel
@[simp] theorem tab_InvalidText_StepFailed : tabE "InvalidText" "StepFailed" = some false := by decide +kernel
@[simp] theorem tab_InvalidText_LimitExceeded : tabE "InvalidText" "LimitExceeded" = some false := by decide +kernel
@[simp] theorem tab_InvalidText_UnknownUser : tabE "InvalidText" "UnknownUser" = some false := by decide +kernel
@[simp] theorem tab_InvalidText_UnknownName : tabE "InvalidText" "UnknownName" = some false := by decide +kernel
@[simp] theorem tab_InvalidText_NothingToUndo : tabE "InvalidText" "NothingToUndo" = some false := by decide +kernel
@[simp] theorem tab_InvalidCommand_InvalidNumber : tabE "InvalidCommand" "InvalidNumber" = some false := by decide +kernel
@[simp] theorem tab_InvalidCommand_InvalidStack : tabE "InvalidCommand" "InvalidStack" = some false := by decide +kernel
@[simp] theorem tab_InvalidCommand_InvalidSequence : tabE "InvalidCommand" "InvalidSequence" = some false := by decide +kernel
@[simp] theorem tab_InvalidCommand_InvalidEffect : tabE "InvalidCommand" "InvalidEffect" = some false := by decide +kernel
@[simp] theorem tab_InvalidCommand_InvalidText : tabE "InvalidCommand" "InvalidText" = some false := by decide +kernel
@[simp] theorem tab_InvalidCommand_InvalidCommand : tabE "InvalidCommand" "InvalidCommand" = some true := by decide +kernel
@[simp] theorem tab_InvalidCommand_StepFailed : tabE "InvalidCommand" "StepFailed" = some false := by decide +kernel
@[simp] theorem tab_InvalidCommand_LimitExceeded : tabE "InvalidCommand" "LimitExceeded" = some false := by decide +kernel
@[simp] theorem tab_InvalidCommand_UnknownUser : tabE "InvalidCommand" "UnknownUser" = some false := by decide +kernel
@[simp] theorem tab_InvalidCommand_UnknownName : tabE "InvalidCommand" "UnknownName" = some false := by decide +kernel
@[simp] theorem tab_InvalidCommand_NothingToUndo : tabE "InvalidCommand" "NothingToUndo" = some false := by decide +kernel
@[simp] theorem tab_StepFailed_InvalidNumber : tabE "StepFailed" "InvalidNumber" = some false := by decide +kernel
@[simp] theorem tab_StepFailed_InvalidStack : tabE "StepFailed" "InvalidStack" = some false := by decide +kernel
@[simp] theorem tab_StepFailed_InvalidSequence : tabE "StepFailed" "InvalidSequence" = some false := by decide +kernel
@[simp] theorem tab_StepFailed_InvalidEffect : tabE "StepFailed" "InvalidEffect" = some false := by decide +kernel
@[simp] theorem tab_StepFailed_InvalidText : tabE "StepFailed" "InvalidText" = some false := by decide +kernel
@[simp] theorem tab_StepFailed_InvalidCommand : tabE "StepFailed" "InvalidCommand" = some false := by decide +kernel
@[simp] theorem tab_StepFailed_StepFailed : tabE "StepFailed" "StepFailed" = some true := by decide +kernel
@[simp] theorem tab_StepFailed_LimitExceeded : tabE "StepFailed" "LimitExceeded" = some false := by decide +kernel
@[simp] theorem tab_StepFailed_UnknownUser : tabE "StepFailed" "UnknownUser" = some false := by decide +kernel
@[simp] theorem tab_StepFailed_UnknownName : tabE "StepFailed" "UnknownName" = some false := by decide +kernel
@[simp] theorem tab_StepFailed_NothingToUndo : tabE "StepFailed" "NothingToUndo" = some false := by decide +kernel
@[simp] theorem tab_LimitExceeded_InvalidNumber : tabE "LimitExceeded" "InvalidNumber" = some false := by decide +kernel
@[simp] theorem tab_LimitExceeded_InvalidStack : tabE "LimitExceeded" "InvalidStack" = some false := by decide +kernel
@[simp] theorem tab_LimitExceeded_InvalidSequence : tabE "LimitExceeded" "InvalidSequence" = some false := by decide +kernel
@[simp] theorem tab_LimitExceeded_InvalidEffect : tabE "LimitExceeded" "InvalidEffect" = some false := by decide +kernel
@[simp] theorem tab_LimitExceeded_InvalidText : tabE "LimitExceeded" "InvalidText" = some false := by decide +kernel
@[simp] theorem tab_LimitExceeded_InvalidCommand : tabE "LimitExceeded" "InvalidCommand" = some false := by decide +kernel
@[simp] theorem tab_LimitExceeded_StepFailed : tabE "LimitExceeded" "StepFailed" = some false := by decide +kernel
@[simp] theorem tab_LimitExceeded_LimitExceeded : tabE "LimitExceeded" "LimitExceeded" = some true := by decide +kernel
@[simp] theorem tab_LimitExceeded_UnknownUser : tabE "LimitExceeded" "UnknownUser" = some false := by decide +kernel
@[simp] theorem tab_LimitExceeded_UnknownName : tabE "LimitExceeded" "UnknownName" = some false := by decide +kernel
@[simp] theorem tab_LimitExceeded_NothingToUndo : tabE "LimitExceeded" "NothingToUndo" = some false := by decide +kernel
@[simp] theorem tab_UnknownUser_InvalidNumber : tabE "UnknownUser" "InvalidNumber" = some false := by decide +kernel
@[simp] theorem tab_UnknownUser_InvalidStack : tabE "UnknownUser" "InvalidStack" = some false := by decide +kernel
@[simp] theorem tab_UnknownUser_InvalidSequence : tabE "UnknownUser" "InvalidSequence" = some false := by decide +kernel
@[simp] theorem tab_UnknownUser_InvalidEffect : tabE "UnknownUser" "InvalidEffect" = some false := by decide +kernel
@[simp] theorem tab_UnknownUser_InvalidText : tabE "UnknownUser" "InvalidText" = some false := by decide +kernel
@[simp] theorem tab_UnknownUser_InvalidCommand : tabE "UnknownUser" "InvalidCommand" = some false := by decide +kernel
@[simp] theorem tab_UnknownUser_StepFailed : tabE "UnknownUser" "StepFailed" = some false := by decide +kernel
@[simp] theorem tab_UnknownUser_LimitExceeded : tabE "UnknownUser" "LimitExceeded" = some false := by decide +kernel
@[simp] theorem tab_UnknownUser_UnknownUser : tabE "UnknownUser" "UnknownUser" = some true := by decide +kernel
@[simp] theorem tab_UnknownUser_UnknownName : tabE "UnknownUser" "UnknownName" = some false := by decide +kernel
@[simp] theorem tab_UnknownUser_NothingToUndo : tabE "UnknownUser" "NothingToUndo" = some false := by decide +kernel
@[simp] theorem tab_UnknownName_InvalidNumber : tabE "UnknownName" "InvalidNumber" = some false := by decide +kernel
@[simp] theorem tab_UnknownName_InvalidStack : tabE "UnknownName" "InvalidStack" = some false := by decide +kernel
@[simp] theorem tab_UnknownName_InvalidSequence : tabE "UnknownName" "InvalidSequence" = some false := by decide +kernel
@[simp] theorem tab_UnknownName_InvalidEffect : tabE "UnknownName" "InvalidEffect" = some false := by decide +kernel
@[simp] theorem tab_UnknownName_InvalidText : tabE "UnknownName" "InvalidText" = some false := by decide +kernel
@[simp] theorem tab_UnknownName_InvalidCommand : tabE "UnknownName" "InvalidCommand" = some false := by decide +kernel
@[simp] theorem tab_UnknownName_StepFailed : tabE "UnknownName" "StepFailed" = some false := by decide +kernel
@[simp] theorem tab_UnknownName_LimitExceeded : tabE "UnknownName" "LimitExceeded" = some false := by decide +kernel
@[simp] theorem tab_UnknownName_UnknownUser : tabE "UnknownName" "UnknownUser" = some false := by decide +kernel
@[simp] theorem tab_UnknownName_UnknownName : tabE "UnknownName" "UnknownName" = some true := by decide +kernel
@[simp] theorem tab_UnknownName_NothingToUndo : tabE "UnknownName" "NothingToUndo" = some false := by decide +kernel
@[simp] theorem tab_NothingToUndo_InvalidNumber : tabE "NothingToUndo" "InvalidNumber" = some false := by decide +kernel
@[simp] theorem tab_NothingToUndo_InvalidStack : tabE "NothingToUndo" "InvalidStack" = some false := by decide +kernel
@[simp] theorem tab_NothingToUndo_InvalidSequence : tabE "NothingToUndo" "InvalidSequence" = some false := by decide +kernel
@[simp] theorem tab_NothingToUndo_InvalidEffect : tabE "NothingToUndo" "InvalidEffect" = some false := by decide +kernel
@[simp] theorem tab_NothingToUndo_InvalidText : tabE "NothingToUndo" "InvalidText" = some false := by decide +kernel
@[simp] theorem tab_NothingToUndo_InvalidCommand : tabE "NothingToUndo" "InvalidCommand" = some false := by decide +kernel
@[simp] theorem tab_NothingToUndo_StepFailed : tabE "NothingToUndo" "StepFailed" = some false := by decide +kernel
@[simp] theorem tab_NothingToUndo_LimitExceeded : tabE "NothingToUndo" "LimitExceeded" = some false := by decide +kernel
@[simp] theorem tab_NothingToUndo_UnknownUser : tabE "NothingToUndo" "UnknownUser" = some false := by decide +kernel
@[simp] theorem tab_NothingToUndo_UnknownName : tabE "NothingToUndo" "UnknownName" = some false := by decide +kernel
@[simp] theorem tab_NothingToUndo_NothingToUndo : tabE "NothingToUndo" "NothingToUndo" = some true := by decide +kernel
@[simp] theorem tab_SkylineError_InvalidNumber : tabE "SkylineError" "InvalidNumber" = some true := by decide +kernel
@[simp] theorem tab_SkylineError_InvalidStack : tabE "SkylineError" "InvalidStack" = some true := by decide +kernel
@[simp] theorem tab_SkylineError_InvalidSequence : tabE "SkylineError" "InvalidSequence" = some true := by decide +kernel
@[simp] theorem tab_SkylineError_InvalidEffect : tabE "SkylineError" "InvalidEffect" = some true := by decide +kernel
@[simp] theorem tab_SkylineError_InvalidText : tabE "SkylineError" "InvalidText" = some true := by decide +kernel
@[simp] theorem tab_SkylineError_InvalidCommand : tabE "SkylineError" "InvalidCommand" = some true := by decide +kernel
@[simp] theorem tab_SkylineError_StepFailed : tabE "SkylineError" "StepFailed" = some false := by decide +kernel
@[simp] theorem tab_SkylineError_LimitExceeded : tabE "SkylineError" "LimitExceeded" = some false := by decide +kernel
@[simp] theorem tab_SkylineError_UnknownUser : tabE "SkylineError" "UnknownUser" = some false := by decide +kernel
@[simp] theorem tab_SkylineError_UnknownName : tabE "SkylineError" "UnknownName" = some false := by decide +kernel
@[simp] theorem tab_SkylineError_NothingToUndo : tabE "SkylineError" "NothingToUndo" = some false := by decide +kernel
theorem fld_InvalidNumber : fieldOf "InvalidNumber" = "value" := by decide +kernel
theorem fld_InvalidStack : fieldOf "InvalidStack" = "value" := by decide +kernel
theorem fld_InvalidSequence : fieldOf "InvalidSequence" = "index" := by decide +kernel
theorem fld_InvalidEffect : fieldOf "InvalidEffect" = "value" := by decide +kernel
theorem fld_InvalidText : fieldOf "InvalidText" = "value" := by decide +kernel
theorem fld_InvalidCommand : fieldOf "InvalidCommand" = "word" := by decide +kernel
theorem fld_StepFailed : fieldOf "StepFailed" = "index" := by decide +kernel
theorem fld_LimitExceeded : fieldOf "LimitExceeded" = "limit" := by decide +kernel
theorem fld_UnknownUser : fieldOf "UnknownUser" = "user" := by decide +kernel
theorem fld_UnknownName : fieldOf "UnknownName" = "name" := by decide +kernel
theorem fld_NothingToUndo : fieldOf "NothingToUndo" = "user" := by decide +kernel
theorem tabE_mem {cl c : Str} {b : Bool} (h : tabE cl c = some b) : c ∈ errAll := by
  unfold tabE at h
  split at h
  · rename_i z; exact List.contains_iff_mem.mp z
  · cases h
theorem tabE_self {cl c : Str} (hc : (cl == ("SkylineError" : Str)) = false) (h : tabE cl c = some true) : c = cl := by
  unfold tabE at h
  split at h
  · rw [hc, Bool.false_and, Bool.or_false] at h
    exact beq_iff_eq.mp (Option.some.inj h)
  · cases h
section
variable {K : PySem.W.Frag} {mg : Str → Option Value} {S : Addr} {cl : Str}
/-- the clause of the class at S, over all classes of errors -/
theorem hx_of (h1 : PySem.W.subIn K (.ref S) (.type "BaseException") = some true) (h2 : PySem.W.isClsIn K S = true) (h3 : PySem.W.typeIn K (.ref S) = some (.type "type"))
    (ha : ∀ c ∈ errAll, mg c = none ∨ ∃ A b, mg c = some (.ref A) ∧ PySem.W.subIn K (.ref A) (.ref S) = some b ∧ tabE cl c = some b) :
    ∀ c b C, tabE cl c = some b → mg c = some (.ref C) → PySem.W.exmOne K (.ref C) (.ref S) = some b := fun c b C ht hm => by
  rcases ha c (tabE_mem ht) with z | ⟨A, b', e1, e2, e3⟩
  · rw [hm] at z; cases z
  · rw [hm] at e1; cases e1
    rw [ht] at e3; cases e3
    exact exm_of h1 h2 h3 e2
theorem hf_of {f : Str} (hc : (cl == ("SkylineError" : Str)) = false) (hf : fieldOf cl = f) (hm : mg cl = some (.ref S)) (hF : FldC K S f) : ∀ c C, tabE cl c = some true → mg c = some (.ref C) → fieldOf c = f ∧ FldC K C f := fun c C ht h => by
  have e := tabE_self hc ht
  subst e
  rw [hm] at h; cases h
  exact ⟨hf, hF⟩
end
/-! what clauses do with what the error carries -/
abbrev hFld : D → Ga → Res (Ga × R) := fun y Γ => .ok (Γ, .d y)
noncomputable abbrev hRepr : D → Ga → Res (Ga × R) := fun y Γ => (reprG y).bind fun z => .ok (Γ, z)
abbrev hLst (x0 : D) (s : D → Ga → Res (Ga × R)) : D → Ga → Res (Ga × R) := fun y Γ => (s y Γ).bind fun p => match p.2 with | .d z => .ok (p.1, .f [x0, z]) | .f _ => .stuck
abbrev hRet (s : D → Ga → Res (Ga × R)) : D → Ga → Res (Ga × Fl) := fun y Γ => (s y Γ).bind fun p => .ok (p.1, .rt p.2)
abbrev hSet (j : Nat) (s : D → Ga → Res (Ga × R)) : D → Ga → Res (Ga × Fl) := fun y Γ => (s y Γ).bind fun p => .ok (p.1.set j (slotOf p.2), .nx)
abbrev hRetK (x0 : D) : Ga → Res (Ga × Fl) := fun Γ => .ok (Γ, .rt (.d x0))
abbrev hSetC (j : Nat) (x0 : D) : Ga → Res (Ga × Fl) := fun Γ => .ok (Γ.set j (.d x0), .nx)
abbrev hSetL (j : Nat) (x0 : D) : Ga → Res (Ga × Fl) := fun Γ => .ok (Γ.set j (.own false [x0]), .nx)
abbrev hvP (cl : Str) (h : Ga → Res (Ga × Fl)) (hv : Str → D → Ga → Res (Ga × Fl)) : Str → D → Ga → Res (Ga × Fl) := hvC (tabE cl) (fun _ _ => h) hv
abbrev hvNm (cl : Str) (i : Nat) (h : D → Ga → Res (Ga × Fl)) (hv : Str → D → Ga → Res (Ga × Fl)) : Str → D → Ga → Res (Ga × Fl) := hvC (tabE cl) (fun _ y Γ => if i < Γ.length then wipe1 i (h y (Γ.set i .un)) else .stuck) hv
variable [Tbl]
section
variable {X : Cx} {E : XK} {e e0 : Expr} {n : Str} {j : Nat} {pos pos' rpos : Pos} {h₀ : ExceptHandler} {hds : List ExceptHandler} {s : Ga → Res (Ga × R)} {hv : Str → D → Ga → Res (Ga × Fl)} {x0 : D} {v0 : V}
theorem js_tryR1 (hs : X.stack = X.env :: X.outer) (hf : X.env.frame = some X.env.locals) (hN : X.N.Nodup) (tk : Takes X fun cls d _ H => E cls d H) (he : JEW X e s) (hc : Cls X E (h₀ :: hds) hv) :
    JS X E (.Try [.Return (some e) rpos] (h₀ :: hds) [] [] pos) (sTryR s hv) := by
  obtain ⟨l, hh, hc⟩ := hc
  exact js_tryR hs hf hN tk hh he hc
theorem js_tryE1 (hs : X.stack = X.env :: X.outer) (hf : X.env.frame = some X.env.locals) (hN : X.N.Nodup) (tk : Takes X fun cls d _ H => E cls d H) (he : JEW X e s) (hc : Cls X E (h₀ :: hds) hv) (hps : ∀ (Y : Cx) (t : TE), PE Y e t → PS Y (.Expr e rpos) (fun D σ H => t σ H fun _ H' => D.nx σ H')) :
    JS X E (.Try [.Expr e rpos] (h₀ :: hds) [] [] pos) (sTryE s hv) := by
  obtain ⟨l, hh, hc⟩ := hc
  exact js_tryE hs hf hN tk hh he hc hps
/-- [constant] in a suite -/
theorem jsu_setL {j : Nat} (p0 : ∀ (a : Addr) (oe : Obj) (pn : List (Addr × Obj)), PE (X.suite a ((a, oe) :: pn)) e0 (tC v0)) (r0 : ∀ K H, Rp K H v0 x0) (hN : X.N.Nodup) (hi : X.N[j]? = some n) (hx : Loc X.env.scope n) (hs0 : starEach (e0 :: []) X.env = (false, eval e0 X.env) :: starEach [] X.env := by rfl) (hs : swapsWith (.List [e0] pos) (some (.Name n pos')) rpos.line X.env = pure false := by rfl)
    (hf : X.fn n = true ∨ X.env.scope.names.lookup n = some .local := by first | exact .inl rfl | exact .inr rfl | assumption) : JSU X E [.Assign [.Name n pos'] (.List [e0] pos) rpos] (fun Γ => .ok (Γ.set j (.own false [x0]), .nx)) := by
  refine ⟨_, fun a oe pn => pss_one (ps_set (X := X.suite a ((a, oe) :: pn)) hN hi hx (pe_lst (pa_cons (p0 a oe pn) pa_nil hs0)) hs hf), fun B σ Γ H0 H Dn ok w => ?_⟩
  show [v0].length ≤ sizeLine ∧ ∀ p, H p = none → Dn.nx (σ.set j (some (.ref p))) (upd H p (.lst [v0]))
  refine ⟨by rw [sizeLine_eq]; simp, fun p hp => ?_⟩
  have w : ∀ σ' H0' H', EnvOk X.K B σ' (Γ.set j (.own false [x0])) H0' H' → Ex H0 H0' → FlOk X.K B H0' H' σ' Dn .nx := w
  have n0 : H0 p = none := fresh_back ok.sub hp
  have ok1 : EnvOk X.K B σ Γ H0 (upd H p (.lst [v0])) := ok.same (Grow.fresh hp) (Ex.upd1 ok.sub n0)
  exact w _ H0 _ (set_ok (x := .f [x0]) j ok ok1 (Less.refl _) (.f hp n0 upd_same (.one (r0 _ _)))) (Ex.refl _)
end
/-! ### defs that make lambdas: their code object is known -/
section
variable {P : Program} {w : World} {K : PySem.W.Frag} {mg : Str → Option Value} {base : Heap}
omit [Tbl] in
theorem fnG_ofC {x qual : Str} {st : Stmt} {f c : Addr} {fd : FuncData} {N ps : List Str} {k : Nat} {sp : Sp} (F : Fun K x qual st f fd) (hc : fd.code = .ref c) (S : FnScope N ps (defScope st)) (hlen : ∀ vs H Q E, sp vs H Q E → vs.length = ps.length)
    (hbody : ∀ (A : Around) (fr : List Env) (s : Shared) (H : Hp) (vs : List V) (Q : VK) (E : XK), Room k (A.deeper (envOfC qual (defScope st) s.heap.objs.size f (.ref c))) → A.guards = some [] → sp vs H Q E →
      ∃ t, PSs (cxOf (L2.CX P w) P w K mg base N qual (defScope st) f (.ref c) A fr s H E) (defBody st) t ∧ t { nx := fun _ H' => Q .non H', rt := Q } (L2.start N vs) H) : FnG P w K mg base (k + 1) f fd ps sp := by
  obtain ⟨oc, od, kV, doc, pm, an, cdv, ct, osl, rfl, lk, hcd⟩ := F.ex
  have hc : cdv = .ref c := hc
  subst hc
  refine ⟨hlen, fun A fr s H ar us vs Q E hr hq e0 hb r h => ?_⟩
  have inK : K.In s.heap := e0.mod.kin.keeps fun b o z => (e0.bs b o z).1
  have lim : s.heap.NoLimit := e0.mod.nolimit.keeps fun b o z => (e0.bs b o z).1
  refine codeAny_call_function hr.depth (inK _ _ lk) rfl S.co S.gen rfl (PySem.W.codeRec_of inK hcd) (hb _ _ _ _ (wpAny_newFunctionEnv_cells S.kind (fun y hy => ?_) ?_))
  · rcases S.par y.1 (List.of_mem_zip hy).1 with q | q
    · exact Or.inl q
    · exact Or.inr ⟨q, PySem.W.cellsFrom_some _ _ _ (Or.inl q)⟩
  · rintro env rfl s1 x1
    refine ⟨lim.keeps x1.toInCall.keep, codeAny_func ?_⟩
    obtain ⟨t, ht, hd⟩ := hbody A fr s H vs Q E (hr.deeper _) hq h
    have I := inv_start (CX := L2.CX P w) (E := E) S hr.hd e0 (hlen _ _ _ _ h) r x1
    refine wpAny_mono (ht.run [] s1 (L2.start N vs) H _ I hd) ?_ fun _ _ z => z
    rintro fl s' hs
    match fl, hs with
    | .ret u, ⟨v, σ', H', J, rv, q⟩ => exact ⟨v, H', J.os, J.bare, J.base, J.hok, rv, q⟩
    | .next, ⟨σ', H', J, q⟩ => exact ⟨.non, H', J.os, J.bare, J.base, J.hok, rfl, q⟩
    | .brk, ⟨_, _, _, q⟩ => exact q.elim
    | .cont, ⟨_, _, _, q⟩ => exact q.elim
theorem fd_ofC {x qual : Str} {st : Stmt} {f c : Addr} {fd : FuncData} {N ps : List Str} {k : Nat} {body : Ga → Res (Ga × Fl)} (F : Fun K x qual st f fd) (hc : fd.code = .ref c) (S : FnScope N ps (defScope st))
    (hbody : ∀ (A : Around) (outer : List Env) (s : Shared) (H : Hp) (E : XK), Room k (A.deeper (envOfC qual (defScope st) s.heap.objs.size f (.ref c))) → A.guards = some [] →
      JSs (cxOf (L2.CX P w) P w K mg base N qual (defScope st) f (.ref c) A outer s H E) E (defBody st) body) : FD P w K mg base (k + 1) f fd ps (defS ps.length (N.length - ps.length) body) :=
  ⟨fnG_ofC F hc S (fun vs H Q E h => h.1) fun A outer s H vs Q E hr hq h => body_ok1 S (.ref c) A outer s H vs Q E (hbody A outer s H E hr hq) h, fun Γ Γ' r h => defS_shape Γ Γ' r h⟩
theorem has_ofC {x : Str} {st : Stmt} {ps N : List Str} {f c : Addr} {fd : FuncData} {k : Nat} {body : Ga → Res (Ga × Fl)} (D : Def K mg x st ps f fd) (hc : fd.code = .ref c) (S : FnScope N ps (defScope st))
    (hbody : ∀ (A : Around) (outer : List Env) (s : Shared) (H : Hp) (E : XK), Room k (A.deeper (envOfC x (defScope st) s.heap.objs.size f (.ref c))) → A.guards = some [] →
      JSs (cxOf (L2.CX P w) P w K mg base N x (defScope st) f (.ref c) A outer s H E) E (defBody st) body) : Has P w K mg base x (k + 1) ps (defS ps.length (N.length - ps.length) body) :=
  ⟨f, fd, fd_ofC D.fn hc S hbody, D.at_, D.fn.kp, D.bd⟩
end
end Mi
namespace Mi
open PySem PySem.Spec PyProof.Rows L2 Evl
theorem mul_small {i j : Int} (h1 : -(2 ^ 64) < j) (h2 : j < 2 ^ 64) : mulOk i j = true := by
  unfold mulOk
  exact okB_of (.inr (.inl ⟨h1, h2⟩))
theorem atI0 {α : Type} {x : α} {xs : List α} : atI (x :: xs) 0 = some x := atI_nat (j := 0) rfl
theorem atI1 {α : Type} {x y : α} {xs : List α} : atI (x :: y :: xs) 1 = some y := atI_nat (j := 1) rfl
theorem ixN0 {n : Nat} : ixN (n + 1) 0 = some 0 := by unfold ixN; simp
theorem ixN1 {n : Nat} : ixN (n + 2) 1 = some 1 := by unfold ixN; simp; omega
theorem log2_small {n : Int} (h0 : 0 < n) (h : n < 2 ^ 64) : n.natAbs.log2 < 9000 := by
  have h1 : n.natAbs < 2 ^ 64 := by omega
  have h2 : n.natAbs ≠ 0 := by omega
  have := (Nat.log2_lt h2).mpr h1
  omega
theorem forL_nx {g : D → Ga → Option Ga} {b : Ga → Res (Ga × Fl)} {x : D} {xs : List D} {Γ Γ1 Γ2 : Ga} (h1 : g x Γ = some Γ1) (h2 : b Γ1 = .ok (Γ2, .nx)) : forL g b (x :: xs) Γ = forL g b xs Γ2 := by
  rw [forL]
  simp only [h1, h2, bind_ok]
theorem sIt_of {f : D → Res (List D)} {s : Ga → Res (Ga × D)} {Γ Γ' : Ga} {x : D} {ys : List D} (h1 : s Γ = .ok (Γ', x)) (h2 : f x = .ok ys) : sIt f s Γ = .ok (Γ', ys) := by
  unfold sIt
  rw [h1]
  simp only [bind_ok, h2]
theorem sLn {n : Nat} (h : n ≤ 100000) : n ≤ sizeLine := by unfold sizeLine; omega
theorem p18 : powG (.int 10) (.int 18) = .ok (.d (.int 1000000000000000000)) := by
  have h := okB_of (p := 0 ≤ (18 : Int) ∧ (18 : Int) ≤ 1000000 ∧ (10 : Int).natAbs < 2 ^ 64) (by decide)
  unfold powG
  simp only [h, if_true]
  rfl
theorem p30 : powG (.int 10) (.int 30) = .ok (.d (.int 1000000000000000000000000000000)) := by
  have h := okB_of (p := 0 ≤ (30 : Int) ∧ (30 : Int) ≤ 1000000 ∧ (10 : Int).natAbs < 2 ^ 64) (by decide)
  unfold powG
  simp only [h, if_true]
  rfl
theorem lcL_map {g : D → Ga → Option Ga} {te : Ga → Res (Ga × D)} {vs : List Nat} {F : D → D} {Γ : Ga} : ∀ xs : List D, (∀ x ∈ xs, ∃ Γ1, g x Γ = some Γ1 ∧ te Γ1 = .ok (Γ1, F x) ∧ wipeG Γ1 vs = Γ) → lcL g sYes te vs xs Γ = .ok (Γ, xs.map F)
  | [], _ => rfl
  | x :: xs, h => by
    obtain ⟨Γ1, h1, h2, h3⟩ := h x List.mem_cons_self
    rw [lcL]
    simp only [h1, sYes, noX, bind_ok, if_true, h2, h3, lcL_map xs fun y hy => h y (List.mem_cons_of_mem _ hy), List.map_cons]
theorem lcL_filter {g : D → Ga → Option Ga} {tt : Ga → Res (Ga × Bool)} {te : Ga → Res (Ga × D)} {vs : List Nat} {P : D → Bool} {F : D → D} {Γ : Ga} : ∀ xs : List D, (∀ x ∈ xs, ∃ Γ1, g x Γ = some Γ1 ∧ tt Γ1 = .ok (Γ1, P x) ∧ te Γ1 = .ok (Γ1, F x) ∧ wipeG Γ1 vs = Γ) → lcL g tt te vs xs Γ = .ok (Γ, (xs.filter P).map F)
  | [], _ => rfl
  | x :: xs, h => by
    obtain ⟨Γ1, h1, ht, h2, h3⟩ := h x List.mem_cons_self
    have ih := lcL_filter xs fun y hy => h y (List.mem_cons_of_mem _ hy)
    rw [lcL]
    cases hp : P x with
    | true => simp only [h1, ht, hp, noX, bind_ok, if_true, h2, h3, ih, List.filter_cons_of_pos, List.map_cons]
    | false =>
      rw [hp] at ht
      simp [h1, ht, hp, noX, bind_ok, h3, ih]
theorem eq_int (i j : Int) : eqG (.int i) (.int j) = .ok (.d (.bool (decide (i = j)))) := by
  have h : (SeqAt.shaped (.int i) && SeqAt.shaped (.int j)) = true := rfl
  unfold eqG
  rw [if_pos h]
  simp only [PyData.eqv]
  by_cases e : i = j
  · subst e; simp
  · simp [e]
theorem lcL_filterM {α : Type} {f : α → D} {g : D → Ga → Option Ga} {tt : Ga → Res (Ga × Bool)} {te : Ga → Res (Ga × D)} {vs : List Nat} {P : α → Bool} {F : α → D} {Γ : Ga} : ∀ xs : List α, (∀ x ∈ xs, ∃ Γ1, g (f x) Γ = some Γ1 ∧ tt Γ1 = .ok (Γ1, P x) ∧ te Γ1 = .ok (Γ1, F x) ∧ wipeG Γ1 vs = Γ) → lcL g tt te vs (xs.map f) Γ = .ok (Γ, (xs.filter P).map F)
  | [], _ => rfl
  | x :: xs, h => by
    obtain ⟨Γ1, h1, ht, h2, h3⟩ := h x List.mem_cons_self
    have ih := lcL_filterM xs fun y hy => h y (List.mem_cons_of_mem _ hy)
    rw [List.map_cons, lcL]
    cases hp : P x with
    | true =>
      rw [hp] at ht
      simp [h1, ht, hp, noX, bind_ok, h2, h3, ih]
    | false =>
      rw [hp] at ht
      simp [h1, ht, hp, noX, bind_ok, h3, ih]
theorem lay_ints : ∀ ns : List Int, PyData.canLayAll0 (ns.map .int) = true
  | [] => rfl
  | n :: r => by
    rw [List.map_cons, PyData.canLayAll0, lay_ints r]
    rfl
theorem depth_ints : ∀ ns : List Int, PyData.depthAll (ns.map .int) = 0
  | [] => rfl
  | n :: r => by
    rw [List.map_cons, PyData.depthAll, depth_ints r]
    rfl
theorem shp_ints (ns : List Int) : SeqAt.shaped (.list (ns.map .int)) = true := by
  unfold SeqAt.shaped
  rw [PyData.canLay0, lay_ints, PyData.depth, depth_ints]
  rfl
theorem eq_ints_nil (ns : List Int) : eqG (.list (ns.map .int)) (.list []) = .ok (.d (.bool ns.isEmpty)) := by
  have h : (SeqAt.shaped (.list (ns.map .int)) && SeqAt.shaped (.list [])) = true := by rw [shp_ints]; exact shp_ints []
  unfold eqG
  rw [if_pos h]
  cases ns <;> simp [PyData.eqv, PyData.eqvAll]
theorem unwipe_same {Γ : Ga} {vs : List Nat} : unwipe Γ Γ vs = Γ := by
  unfold unwipe
  apply List.ext_getElem (by simp)
  intro i h1 h2
  simp [List.getD_eq_getElem?_getD, List.getElem?_eq_getElem h2]
theorem forL_inv {g : D → Ga → Option Ga} {b : Ga → Res (Ga × Fl)} (St : Nat → Ga → Prop) : ∀ (xs : List D) (k : Nat) (Γ : Ga), (∀ i x Γ, xs[i]? = some x → St (k + i) Γ → ∃ Γ1 Γ2, g x Γ = some Γ1 ∧ b Γ1 = .ok (Γ2, .nx) ∧ St (k + i + 1) Γ2) → St k Γ → ∃ Γ', forL g b xs Γ = .ok (Γ', .nx) ∧ St (k + xs.length) Γ'
  | [], k, Γ, _, h0 => ⟨Γ, rfl, h0⟩
  | x :: xs, k, Γ, h, h0 => by
    obtain ⟨Γ1, Γ2, e1, e2, h1⟩ := h 0 x Γ rfl h0
    obtain ⟨Γ', e3, h2⟩ := forL_inv St xs (k + 1) Γ2 (fun i y G hy hG => by
      have := h (i + 1) y G (by simpa using hy) (by rw [show k + (i + 1) = k + 1 + i by omega]; exact hG)
      rw [show k + (i + 1) + 1 = k + 1 + i + 1 by omega] at this
      exact this) h1
    refine ⟨Γ', by rw [forL_nx e1 e2]; exact e3, ?_⟩
    rw [show k + (x :: xs).length = k + 1 + xs.length by simp; omega]
    exact h2
theorem forL_all {g : D → Ga → Option Ga} {b : Ga → Res (Ga × Fl)} (St : Nat → Ga → Prop) {xs : List D} {Γ : Ga} (h0 : St 0 Γ) (h : ∀ i x Γ, xs[i]? = some x → St i Γ → ∃ Γ1 Γ2, g x Γ = some Γ1 ∧ b Γ1 = .ok (Γ2, .nx) ∧ St (i + 1) Γ2) : ∃ Γ', forL g b xs Γ = .ok (Γ', .nx) ∧ St xs.length Γ' := by
  obtain ⟨Γ', e, s⟩ := forL_inv St xs 0 Γ (fun i x G hx hG => by
    rw [Nat.zero_add] at hG ⊢
    exact h i x G hx hG) h0
  rw [Nat.zero_add] at s
  exact ⟨Γ', e, s⟩
theorem sFor_of {s : Ga → Res (Ga × List D)} {g : D → Ga → Option Ga} {b : Ga → Res (Ga × Fl)} {Γ Γ1 : Ga} {xs : List D} {r : Res (Ga × Fl)} (h1 : s Γ = .ok (Γ1, xs)) (h2 : forL g b xs Γ1 = r) : sFor s g b Γ = r := by
  unfold sFor
  rw [h1]
  exact h2
theorem ixNn {n : Nat} {i : Int} {j : Nat} (e : i = (j : Int)) (h : j < n) : ixN n i = some j := by
  subst e
  unfold ixN
  rw [if_pos (by omega), if_pos (by omega)]
  simp
theorem lcL_mapM {α : Type} {f : α → D} {g : D → Ga → Option Ga} {te : Ga → Res (Ga × D)} {vs : List Nat} {F : α → D} {Γ : Ga} : ∀ xs : List α, (∀ x ∈ xs, ∃ Γ1, g (f x) Γ = some Γ1 ∧ te Γ1 = .ok (Γ1, F x) ∧ wipeG Γ1 vs = Γ) → lcL g sYes te vs (xs.map f) Γ = .ok (Γ, xs.map F)
  | [], _ => rfl
  | x :: xs, h => by
    obtain ⟨Γ1, h1, h2, h3⟩ := h x List.mem_cons_self
    rw [List.map_cons, lcL]
    simp only [h1, sYes, noX, bind_ok, if_true, h2, h3, lcL_mapM xs fun y hy => h y (List.mem_cons_of_mem _ hy), List.map_cons]
theorem sLc_of {s : Ga → Res (Ga × List D)} {g : D → Ga → Option Ga} {tt : Ga → Res (Ga × Bool)} {te : Ga → Res (Ga × D)} {vs : List Nat} {Γ Γ1 : Ga} {xs ys : List D} (h1 : s Γ = .ok (Γ1, xs)) (hw : wipeG Γ1 vs = Γ1) (h2 : lcL g tt te vs xs Γ1 = .ok (Γ1, ys)) (hl : ys.length ≤ 100000) : sLc s g tt te vs Γ = .ok (Γ1, .f ys) := by
  unfold sLc
  rw [h1]
  simp only [bind_ok, hw, h2, if_pos (sLn hl), unwipe_same]
def ownOr (b : Bool) (xs : List D) : Sl := if b = true then .own false xs else .d (.list xs)
theorem ownOr_t (xs : List D) : ownOr true xs = .own false xs := rfl
theorem ownOr_f (xs : List D) : ownOr false xs = .d (.list xs) := rfl
theorem pb2 {a b s : Sl} {i : Nat} : putB [none, none] [a, b] i s = s := by cases s <;> rfl
theorem unwipe_one {Γ : Ga} {v : Nat} : unwipe Γ (Γ.set v .un) [v] = Γ := by
  unfold unwipe
  apply List.ext_getElem (by simp)
  intro i h1 h2
  by_cases e : i = v
  · subst e
    simp [List.getD_eq_getElem?_getD, List.getElem?_eq_getElem h2]
  · simp [e, List.getD_eq_getElem?_getD, List.getElem?_set_ne (Ne.symm e), List.getElem?_eq_getElem h2]
theorem sLc_one {s : Ga → Res (Ga × List D)} {g : D → Ga → Option Ga} {tt : Ga → Res (Ga × Bool)} {te : Ga → Res (Ga × D)} {v : Nat} {Γ Γ1 : Ga} {xs ys : List D} (h1 : s Γ = .ok (Γ1, xs)) (h2 : lcL g tt te [v] xs (Γ1.set v .un) = .ok (Γ1.set v .un, ys)) (hl : ys.length ≤ 100000) : sLc s g tt te [v] Γ = .ok (Γ1, .f ys) := by
  unfold sLc
  rw [h1]
  have e : wipeG Γ1 [v] = Γ1.set v .un := rfl
  simp only [bind_ok, e, h2, if_pos (sLn hl), unwipe_one]
theorem ne_int_eq (i : Int) : neG (.int i) (.int i) = .ok (.d (.bool false)) := by
  have h : (SeqAt.shaped (.int i) && SeqAt.shaped (.int i)) = true := rfl
  unfold neG
  rw [if_pos h]
  simp [PyData.eqv]
theorem putB0 {a b s : Sl} {i : Nat} : putB [none, none] [a, b] i s = s := by cases s <;> rfl
theorem putB1 {a s : Sl} {i : Nat} : putB [none] [a] i s = s := by cases s <;> rfl
theorem putBack0 {Γ : Ga} {a b : Sl} : putBack Γ [none, none] [a, b] = Γ := by
  unfold putBack
  apply List.ext_getElem (by simp)
  intro i h1 h2
  simp [putB0]
theorem putBack1 {Γ : Ga} {a : Sl} : putBack Γ [none] [a] = Γ := by
  unfold putBack
  apply List.ext_getElem (by simp)
  intro i h1 h2
  simp [putB1]
theorem putB_s {s : Sl} {ns : List Int} {a : Sl} {i : Nat} : putB [some 0, none] [.scr ns, a] i s = s := by cases s <;> rfl
theorem putB_n {s a : Sl} {ys : List D} {i : Nat} (h : ¬ 2 = i) : putB [some 2, none] [.own true ys, a] i s = s := by
  cases s with
  | own b xs => simp [putB, refAt, h]
  | _ => rfl
theorem putBack_s {Γ : Ga} {ns : List Int} {a : Sl} : putBack Γ [some 0, none] [.scr ns, a] = Γ := by
  unfold putBack
  apply List.ext_getElem (by simp)
  intro i h1 h2
  simp [putB_s]
theorem putBack_2 {g0 g1 g3 g4 g5 g6 a : Sl} {b : Bool} {xs ys : List D} : putBack [g0, g1, .own b xs, g3, g4, g5, g6] [some 2, none] [.own true ys, a] = [g0, g1, .own b ys, g3, g4, g5, g6] := by
  unfold putBack
  simp [List.mapIdx_cons, putB_n]
  rfl
end Mi
namespace Mi
open PySem PySem.Spec PyProof.Rows L2 Evl
/-! ### the terms, applied: for simp -/
section
variable {Γ Γ' : Ga} {i j k n l : Nat} {x y : D} {xs ys : List D} {g h : D → D → Res R}
@[simp] theorem z_seq {s u : Ga → Res (Ga × Fl)} : sSeq s u Γ = (s Γ).bind fun p => match p.2 with | .nx => u p.1 | fl => .ok (p.1, fl) := rfl
@[simp] theorem z_brk : sBrk Γ = .ok (Γ, .bk) := rfl
@[simp] theorem z_cnt : sCnt Γ = .ok (Γ, .ct) := rfl
@[simp] theorem z_slotd : slotOf (.d x) = .d x := rfl
@[simp] theorem z_slotf : slotOf (.f xs) = .own false xs := rfl
@[simp] theorem z_set {s : Ga → Res (Ga × R)} : sSet i s Γ = (s Γ).bind fun p => .ok (p.1.set i (slotOf p.2), .nx) := rfl
@[simp] theorem z_ret {s : Ga → Res (Ga × R)} : sRet s Γ = (s Γ).bind fun p => .ok (p.1, .rt p.2) := rfl
@[simp] theorem z_retN : sRetN i Γ = match Γ[i]? with
  | some (.d x) => .ok (Γ, .rt (.d x))
  | some (.own false xs) => .ok (Γ.set i .un, .rt (.f xs))
  | _ => .stuck := rfl
@[simp] theorem z_drop {s : Ga → Res (Ga × R)} : sDrop s Γ = (s Γ).bind fun p => .ok (p.1, .nx) := rfl
@[simp] theorem z_gN : gN i x Γ = some (Γ.set i (.d x)) := rfl
@[simp] theorem z_gNil : gNil' [] Γ = some Γ := rfl
@[simp] theorem z_gCons {a : D → Ga → Option Ga} {b : List D → Ga → Option Ga} : gCons' a b (x :: xs) Γ = (a x Γ).bind (b xs) := rfl
@[simp] theorem z_gTup {b : List D → Ga → Option Ga} : gTup' b n (.tuple xs) Γ = if xs.length = n then b xs Γ else none := rfl
@[simp] theorem z_asg {a : D → Ga → Option Ga} {s : Ga → Res (Ga × D)} : sAsg a s Γ = (s Γ).bind fun p => match a p.2 p.1 with | some Γ' => .ok (Γ', .nx) | none => .stuck := rfl
@[simp] theorem z_ownAt : ownAt Γ i = match Γ[i]? with | some (.own b xs) => some (b, xs) | _ => none := rfl
@[simp] theorem z_append {s : Ga → Res (Ga × D)} : sAppend i s Γ = match ownAt Γ i with
  | some _ => (s Γ).bind fun p => match ownAt p.1 i with
    | some (b, xs) => if xs.length < sizeLine then .ok (p.1.set i (.own b (xs ++ [p.2])), .d .none) else .stuck
    | none => .stuck
  | none => .stuck := rfl
@[simp] theorem z_pop : sPop i Γ = match ownAt Γ i with
  | some (b, xs) => (match xs.getLast? with | some x => .ok (Γ.set i (.own b xs.dropLast), x) | none => .stuck)
  | none => .stuck := rfl
@[simp] theorem z_put {a v : Ga → Res (Ga × D)} : sPut i a v Γ = (v Γ).bind fun p => match ownAt p.1 i with
  | some _ => (a p.1).bind fun q => match ownAt q.1 i, q.2 with
    | some (b, xs), .int n => (match ixN xs.length n with | some j => .ok (q.1.set i (.own b (xs.set j p.2)), .nx) | none => .stuck)
    | _, _ => .stuck
  | none => .stuck := rfl
@[simp] theorem z_aug {f : Int → Int → Int} {s : Ga → Res (Ga × D)} : sAug f i s Γ = match Γ[i]? with
  | some (.d (.int m)) => (s Γ).bind fun p => match p.2 with | .int n => .ok (p.1.set i (.d (.int (f m n))), .nx) | _ => .stuck
  | _ => .stuck := rfl
@[simp] theorem z_ext {s : Ga → Res (Ga × D)} : sExt i s Γ = match ownAt Γ i with
  | some _ => (s Γ).bind fun p => match ownAt p.1 i, p.2 with
    | some (b, xs), .list ys => if xs.length + ys.length ≤ sizeLine then .ok (p.1.set i (.own b (xs ++ ys)), .nx) else .stuck
    | _, _ => .stuck
  | none => .stuck := rfl
@[simp] theorem z_rnil : sRNil Γ = .ok (Γ, []) := rfl
@[simp] theorem z_rcons {s : Ga → Res (Ga × R)} {r : Ga → Res (Ga × List R)} : sRCons s r Γ = (s Γ).bind fun p => (r p.1).bind fun q => .ok (q.1, p.2 :: q.2) := rfl
@[simp] theorem z_par2 {s : Ga → Res (Ga × List R)} : sPar2 i j s Γ = (s Γ).bind fun p => match p.2 with
  | [x, y] => .ok ((p.1.set i (slotOf x)).set j (slotOf y), .nx)
  | _ => .stuck := rfl
@[simp] theorem z_par3 {s : Ga → Res (Ga × List R)} : sPar3 i j l s Γ = (s Γ).bind fun p => match p.2 with
  | [x, y, z] => .ok (((p.1.set i (slotOf x)).set j (slotOf y)).set l (slotOf z), .nx)
  | _ => .stuck := rfl
@[simp] theorem z_call {m : Ga → Res (Ga × R)} {ks : List (Option Nat)} {s : Ga → Res (Ga × List D)} : callS m ks s Γ = (s Γ).bind fun p => (argSl p.1 ks p.2).bind fun Γa => (m Γa).bind fun q => .ok (putBack p.1 ks q.1, q.2) := rfl
@[simp] theorem z_ref {r : Ga → Res (Ga × List D)} : sRef i r Γ = (refSl Γ i).bind fun _ => r Γ := rfl
@[simp] theorem z_refSl : refSl Γ i = match Γ[i]? with
  | some (.own _ xs) => .ok (.own true xs)
  | some (.scr ns) => .ok (.scr ns)
  | _ => .stuck := rfl
@[simp] theorem z_arg0 : argSl Γ [] [] = .ok [] := rfl
@[simp] theorem z_arg1 {ks : List (Option Nat)} : argSl Γ (none :: ks) (x :: xs) = (argSl Γ ks xs).bind fun r => .ok (.d x :: r) := rfl
@[simp] theorem z_arg2 {ks : List (Option Nat)} : argSl Γ (some i :: ks) xs = (refSl Γ i).bind fun s => (argSl Γ ks xs).bind fun r => .ok (s :: r) := by
  cases xs <;> rfl
@[simp] theorem z_outs0 : outs [] Γ = .ok [] := rfl
@[simp] theorem z_outs1 : outs (.own true xs :: Γ) (.own true ys :: Γ') = (outs Γ Γ').bind fun z => .ok (.own true ys :: z) := rfl
@[simp] theorem z_outs2 {s : Sl} : outs (.d x :: Γ) (s :: Γ') = (outs Γ Γ').bind fun z => .ok (.d x :: z) := by cases s <;> rfl
@[simp] theorem z_outs3 {s : Sl} {ns : List Int} : outs (.scr ns :: Γ) (s :: Γ') = (outs Γ Γ').bind fun z => .ok (.scr ns :: z) := by cases s <;> rfl
@[simp] theorem z_endF {p : Ga × Fl} : endF Γ p = match p.2 with
  | .nx => (outs Γ p.1).bind fun z => .ok (z, .d .none)
  | .rt r => (outs Γ p.1).bind fun z => .ok (z, r)
  | _ => .stuck := rfl
@[simp] theorem z_defS {b : Ga → Res (Ga × Fl)} : defS n l b Γ = if Γ.length = n then (b (Γ ++ List.replicate l .un)).bind (endF Γ) else .stuck := rfl
@[simp] theorem z_match {c1 c2 : Str} {s : Ga → Res (Ga × D)} {b1 b2 b3 : Ga → Res (Ga × Fl)} : sMatch c1 c2 i j l s b1 b2 b3 Γ = (s Γ).bind fun p => match p.2 with
  | .tuple [.str c, x, y] => if c = c1 then b1 ((p.1.set i (.d x)).set j (.d y)) else b3 p.1
  | .tuple [.str c, y] => if c = c2 then b2 (p.1.set l (.d y)) else b3 p.1
  | _ => .stuck := rfl
@[simp] theorem z_it {f : D → Res (List D)} {s : Ga → Res (Ga × D)} : sIt f s Γ = (s Γ).bind fun p => (f p.2).bind fun xs => .ok (p.1, xs) := rfl
@[simp] theorem z_itA {f : List D → Res (List D)} {s : Ga → Res (Ga × List D)} : sItA f s Γ = (s Γ).bind fun p => (f p.2).bind fun xs => .ok (p.1, xs) := rfl
@[simp] theorem z_iterl : iterA (.list xs) = .ok xs := rfl
@[simp] theorem z_itert : iterA (.tuple xs) = .ok xs := rfl
@[simp] theorem z_rev {s : Ga → Res (Ga × D)} : sRev s Γ = (s Γ).bind fun p => match p.2 with | .list xs => .ok (p.1, .f xs.reverse) | _ => .stuck := rfl
@[simp] theorem z_yes : sYes Γ = .ok (Γ, true) := rfl
/- operators -/
variable {a b : Int}
@[simp] theorem z_add : addG (.int a) (.int b) = .ok (.d (.int (a + b))) := rfl
@[simp] theorem z_addT : addG (.tuple xs) (.tuple ys) = if xs.length + ys.length ≤ sizeLine then .ok (.d (.tuple (xs ++ ys))) else .stuck := rfl
@[simp] theorem z_addL : addG (.list xs) (.list ys) = if xs.length + ys.length ≤ sizeLine then .ok (.f (xs ++ ys)) else .stuck := rfl
@[simp] theorem z_sub : subG (.int a) (.int b) = .ok (.d (.int (a - b))) := rfl
@[simp] theorem z_mul : mulG (.int a) (.int b) = if mulOk a b = true then .ok (.d (.int (a * b))) else .stuck := rfl
@[simp] theorem z_mod : modG (.int a) (.int b) = if okB (0 < b) = true then .ok (.d (.int (a % b))) else .stuck := rfl
@[simp] theorem z_fdiv : fdivG (.int a) (.int b) = if okB (0 < b ∧ b.natAbs.log2 < 9000) = true then .ok (.d (.int (a / b))) else .stuck := rfl
@[simp] theorem z_okB {p : Prop} : (okB p = true) = p := propext okB_iff
@[simp] theorem z_lt : ltG (.int a) (.int b) = .ok (.d (.bool (decide (a < b)))) := rfl
@[simp] theorem z_le : leG (.int a) (.int b) = .ok (.d (.bool (decide (a ≤ b)))) := rfl
@[simp] theorem z_gt : gtG (.int a) (.int b) = .ok (.d (.bool (decide (b < a)))) := rfl
@[simp] theorem z_ge : geG (.int a) (.int b) = .ok (.d (.bool (decide (b ≤ a)))) := rfl
@[simp] theorem z_is : isG x .none = .ok (.d (.bool (isNonD x))) := rfl
@[simp] theorem z_isnot : isnotG x .none = .ok (.d (.bool (!isNonD x))) := rfl
@[simp] theorem z_isb {b c : Bool} : isG (.bool c) (.bool b) = .ok (.d (.bool (decide (c = b)))) := rfl
@[simp] theorem z_isnotb {b c : Bool} : isnotG (.bool c) (.bool b) = .ok (.d (.bool (!decide (c = b)))) := rfl
@[simp] theorem z_non1 : isNonD .none = true := rfl
@[simp] theorem z_non2 : isNonD (.int a) = false := rfl
@[simp] theorem z_non3 : isNonD (.tuple xs) = false := rfl
@[simp] theorem z_non4 : isNonD (.list xs) = false := rfl
@[simp] theorem z_non5 {s : Str} : isNonD (.str s) = false := rfl
@[simp] theorem z_neg : negG (.int a) = .ok (.d (.int (-a))) := rfl
@[simp] theorem z_ixl : ixG (.list xs) (.int a) = match atI xs a with | some x => .ok (.d x) | none => .stuck := rfl
@[simp] theorem z_ixt : ixG (.tuple xs) (.int a) = match atI xs a with | some x => .ok (.d x) | none => .stuck := rfl
@[simp] theorem z_lenl : lenG (.list xs) = .ok (.d (.int xs.length)) := rfl
@[simp] theorem z_lent : lenG (.tuple xs) = .ok (.d (.int xs.length)) := rfl
@[simp] theorem z_listl : listG (.list xs) = .ok (.f xs) := rfl
@[simp] theorem z_listt : listG (.tuple xs) = .ok (.f xs) := rfl
@[simp] theorem z_tupl : tupleG (.list xs) = .ok (.d (.tuple xs)) := rfl
@[simp] theorem z_tupt : tupleG (.tuple xs) = .ok (.d (.tuple xs)) := rfl
@[simp] theorem z_max2 : max2G [.int a, .int b] = .ok (.d (.int (max a b))) := by
  show Res.ok (R.d (.int (if b > a then b else a))) = _
  congr 3
  split <;> omega
@[simp] theorem z_min2 : min2G [.int a, .int b] = .ok (.d (.int (min a b))) := by
  show Res.ok (R.d (.int (if b < a then b else a))) = _
  congr 3
  split <;> omega
@[simp] theorem z_abs : absG (.int a) = .ok (.d (.int (if a < 0 then -a else a))) := rfl
@[simp] theorem z_inti : intG (.int a) = .ok (.d (.int a)) := rfl
@[simp] theorem z_intb {b : Bool} : intG (.bool b) = .ok (.d (.int (if b then 1 else 0))) := rfl
@[simp] theorem z_enum : enumL [.list xs] = .ok (numb 0 xs) := rfl
@[simp] theorem z_zipf1 : zipSL false [.list xs, .list ys] = .ok (pairUp xs ys) := by simp [zipSL]
@[simp] theorem z_zipf2 : zipSL false [.tuple xs, .tuple ys] = .ok (pairUp xs ys) := by simp [zipSL]
@[simp] theorem z_zip1 : zipLT [.list xs, .list ys] = .ok (pairUp xs ys) := rfl
@[simp] theorem z_zip2 : zipLT [.tuple xs, .tuple ys] = .ok (pairUp xs ys) := rfl
@[simp] theorem z_listZip : listZipG [.tuple xs, .tuple ys] = .ok (.f (pairUp xs ys)) := rfl
/- sizes -/
theorem sizeLine_eq : sizeLine = 16777216 := by unfold sizeLine; decide
@[simp] theorem z_szle : (n ≤ sizeLine) = (n ≤ 16777216) := by rw [sizeLine_eq]
@[simp] theorem z_szlt : (n < sizeLine) = (n < 16777216) := by rw [sizeLine_eq]
/- places -/
@[simp] theorem z_at0 {α : Type} {x : α} {xs : List α} : atI (x :: xs) 0 = some x := atI0
@[simp] theorem z_at1 {α : Type} {x y : α} {xs : List α} : atI (x :: y :: xs) 1 = some y := atI1
@[simp] theorem z_at2 {α : Type} {x y z : α} {xs : List α} : atI (x :: y :: z :: xs) 2 = some z := atI_nat (j := 2) rfl
@[simp] theorem z_ixN0 : ixN (n + 1) 0 = some 0 := ixN0
@[simp] theorem z_ixN1 : ixN (n + 2) 1 = some 1 := ixN1
@[simp] theorem z_mulOkR {b : Int} (h1 : -18446744073709551616 < b) (h2 : b < 18446744073709551616) : mulOk a b = true := mul_small h1 h2
theorem mulOkL {a b : Int} (h1 : -(2 ^ 64) < a) (h2 : a < 2 ^ 64) : mulOk a b = true := by
  unfold mulOk
  exact okB_of (.inl ⟨h1, h2⟩)
@[simp] theorem z_mulOkL {b : Int} (h1 : -18446744073709551616 < a) (h2 : a < 18446744073709551616) : mulOk a b = true := mulOkL h1 h2
@[simp] theorem z_put0 : ∀ {Γ : Ga} {ks : List (Option Nat)} {os : Ga}, putBack Γ (none :: ks) (os) = putBack Γ (none :: ks) os := rfl
end
end Mi
namespace Mi
open PySem PySem.Spec PyProof.Rows L2 Evl
/-! ### try, raise, lambdas, applied: for simp -/
section
variable {Γ Γ' : Ga} {i j n : Nat} {x y : D} {xs ys : List D}
@[simp] theorem z_raise {c : Str} {s : Ga → Res (Ga × D)} : sRaise c s Γ = (s Γ).bind fun p => .exc c p.2 := rfl
@[simp] theorem z_hide0 : hide [] = [] := rfl
@[simp] theorem z_hide1 {s : Sl} : hide (s :: Γ) = hideS s :: hide Γ := rfl
@[simp] theorem z_hideD : hideS (.d x) = .d x := rfl
@[simp] theorem z_hideU : hideS .un = .un := rfl
@[simp] theorem z_hideC : hideS .cl = .cl := rfl
@[simp] theorem z_hideO {b : Bool} : hideS (.own b xs) = .un := rfl
@[simp] theorem z_hideR {ns : List Int} : hideS (.scr ns) = .scr ns := rfl
@[simp] theorem z_lamR {sb : Ga → Res (Ga × R)} : lamR sb Γ = (sb (hide Γ)).bind fun p => .ok p.2 := rfl
@[simp] theorem z_callLam {m : Res R → Res R} {sb : Ga → Res (Ga × R)} : callLam m sb Γ = (m (lamR sb Γ)).bind fun r => .ok (Γ, r) := rfl
@[simp] theorem z_sK {r : Res R} : sK r (.cl :: Γ) = r.bind fun x => .ok (.cl :: Γ, x) := rfl
@[simp] theorem z_outsC {s : Sl} : outs (.cl :: Γ) (s :: Γ') = (outs Γ Γ').bind fun z => .ok (.cl :: z) := by cases s <;> rfl
@[simp] theorem z_lamS {b : Res R → Ga → Res (Ga × Fl)} {r : Res R} : lamS n b r = (defS 1 n (b r) [.cl]).bind fun p => .ok p.2 := rfl
@[simp] theorem z_tryR {s : Ga → Res (Ga × R)} {hv : Str → D → Ga → Res (Ga × Fl)} : sTryR s hv Γ = match s (hide Γ) with
  | .ok p => .ok (Γ, .rt p.2)
  | .exc c y => hv c y Γ
  | .stuck => .stuck := rfl
@[simp] theorem z_tryE {s : Ga → Res (Ga × R)} {hv : Str → D → Ga → Res (Ga × Fl)} : sTryE s hv Γ = match s (hide Γ) with
  | .ok _ => .ok (Γ, .nx)
  | .exc c y => hv c y Γ
  | .stuck => .stuck := rfl
@[simp] theorem z_tryS {s : Ga → Res (Ga × R)} {hv : Str → D → Ga → Res (Ga × Fl)} : sTryS j s hv Γ = match s (hide Γ) with
  | .ok p => .ok (Γ.set j (slotOf p.2), .nx)
  | .exc c y => hv c y Γ
  | .stuck => .stuck := rfl
@[simp] theorem z_hvC {tab : Str → Option Bool} {h hv : Str → D → Ga → Res (Ga × Fl)} {c : Str} : hvC tab h hv c y Γ = match tab c with
  | some true => h c y Γ
  | some false => hv c y Γ
  | none => .stuck := rfl
@[simp] theorem z_hvN {c : Str} : hvN c y Γ = .exc c y := rfl
@[simp] theorem z_wipe1 {r : Res (Ga × Fl)} : wipe1 i r = r.bind fun p => .ok (p.1.set i .un, p.2) := rfl
@[simp] theorem z_datN : sDatN i Γ = match Γ[i]? with
  | some (.d x) => .ok (Γ, x)
  | _ => .stuck := rfl
@[simp] theorem z_hFld : hFld y Γ = .ok (Γ, .d y) := rfl
@[simp] theorem z_hRepr : hRepr y Γ = (reprG y).bind fun z => .ok (Γ, z) := rfl
@[simp] theorem z_hLst {s : D → Ga → Res (Ga × R)} : hLst x s y Γ = (s y Γ).bind fun p => match p.2 with | .d z => .ok (p.1, .f [x, z]) | .f _ => .stuck := rfl
@[simp] theorem z_hRet {s : D → Ga → Res (Ga × R)} : hRet s y Γ = (s y Γ).bind fun p => .ok (p.1, .rt p.2) := rfl
@[simp] theorem z_hSet {s : D → Ga → Res (Ga × R)} : hSet j s y Γ = (s y Γ).bind fun p => .ok (p.1.set j (slotOf p.2), .nx) := rfl
@[simp] theorem z_hRetK : hRetK x Γ = .ok (Γ, .rt (.d x)) := rfl
@[simp] theorem z_hSetC : hSetC j x Γ = .ok (Γ.set j (.d x), .nx) := rfl
@[simp] theorem z_hSetL : hSetL j x Γ = .ok (Γ.set j (.own false [x]), .nx) := rfl
@[simp] theorem z_neverS : sNever Γ = .stuck := rfl
end
end Mi
namespace Pg
open PySem PySem.Spec PyProof.Rows L2 Evl Mi
noncomputable def b_is_integer : Ga → Res (Ga × Fl) :=
 (sRet (sVal (sAnd (sTst (sUn (isiG "int") (sName 0))) (sTst (sVal (sNot (sTst (sUn (isiG "bool") (sName 0)))))))))
noncomputable def m_is_integer : Ga → Res (Ga × R) := defS 1 0 b_is_integer
noncomputable def b_is_count : Ga → Res (Ga × Fl) :=
 (sRet (sVal (sAnd (sTst (callS m_is_integer [none] (sCons (sName 0) sNil))) (sTst (sBin geG (sName 0) (sC (.int 1)))))))
noncomputable def m_is_count : Ga → Res (Ga × R) := defS 1 0 b_is_count
noncomputable def b_is_run : Ga → Res (Ga × Fl) :=
 (sRet (sVal (sAnd (sTst (sUn (isiG "tuple") (sName 0))) (sAnd (sTst (sBin eqS (sPub (sUn lenG (sName 0))) (sC (.int 2)))) (sAnd (sTst (callS m_is_integer [none] (sCons (sPub (sBin ixG (sName 0) (sC (.int 0)))) sNil))) (sTst (callS m_is_count [none] (sCons (sPub (sBin ixG (sName 0) (sC (.int 1)))) sNil))))))))
noncomputable def m_is_run : Ga → Res (Ga × R) := defS 1 0 b_is_run
noncomputable def l1_is_stack : Ga → Res (Ga × R) := sLc (sIt iterA (sName 0)) (gN 1) sYes (sPub (callS m_is_run [none] (sCons (sName 1) sNil))) [1]
noncomputable def l2_is_stack : Ga → Res (Ga × R) := sLc (sItA (zipSL false) (sCons (sName 0) (sCons (sPub (sSl (sName 0) (sSomeO (sC (.int 1))) sNoO)) sNil))) (gTup' (gCons' (gN 2) (gCons' (gN 3) gNil')) 2) sYes (sPub (sBin gtG (sPub (sBin ixG (sName 2) (sC (.int 0)))) (sPub (sBin ixG (sName 3) (sC (.int 0)))))) [2, 3]
noncomputable def b_is_stack : Ga → Res (Ga × Fl) :=
 (sSeq (sCond (sOr (sNot (sTst (sUn (isiG "tuple") (sName 0)))) (sNot (sTst (sUn allG (sPub l1_is_stack)))))
 (sRet (sDat (sC (.bool false))))
 sSkip)
 (sRet (sUn allG (sPub l2_is_stack))))
noncomputable def m_is_stack : Ga → Res (Ga × R) := defS 1 3 b_is_stack
noncomputable def b_check_number : Ga → Res (Ga × Fl) :=
 (sCond (sNot (sTst (callS m_is_integer [none] (sCons (sName 0) sNil))))
 (sRaise ("InvalidNumber" : Str) (sName 0))
 sSkip)
noncomputable def m_check_number : Ga → Res (Ga × R) := defS 1 0 b_check_number
noncomputable def b_check_stack : Ga → Res (Ga × Fl) :=
 (sCond (sNot (sTst (callS m_is_stack [none] (sCons (sName 0) sNil))))
 (sRaise ("InvalidStack" : Str) (sName 0))
 sSkip)
noncomputable def m_check_stack : Ga → Res (Ga × R) := defS 1 0 b_check_stack
noncomputable def l1_size_of : Ga → Res (Ga × R) := sLc (sIt iterA (sName 0)) (gTup' (gCons' (gN 1) (gCons' (gN 2) gNil')) 2) sYes (sName 2) [1, 2]
noncomputable def b_size_of : Ga → Res (Ga × Fl) :=
 (sRet (sUn sumG (sPub l1_size_of)))
noncomputable def m_size_of : Ga → Res (Ga × R) := defS 1 2 b_size_of
noncomputable def l1_count_below : Ga → Res (Ga × R) := sLc (sIt iterA (sName 0)) (gTup' (gCons' (gN 2) (gCons' (gN 3) gNil')) 2) (sTst (sBin ltG (sName 2) (sName 1))) (sName 3) [2, 3]
noncomputable def b_count_below : Ga → Res (Ga × Fl) :=
 (sRet (sUn sumG (sPub l1_count_below)))
noncomputable def m_count_below : Ga → Res (Ga × R) := defS 2 2 b_count_below
noncomputable def l1c_popped : Ga → Res (Ga × Bool) :=
 (sTst (sBin gtG (sName 1) (sC (.int 0))))
noncomputable def l1b_popped : Ga → Res (Ga × Fl) :=
 (sSeq (sAsg (gTup' (gCons' (gN 3) (gCons' (gN 4) gNil')) 2) (sPop 2))
 (sSeq (sCond (sTst (sBin gtG (sName 4) (sName 1)))
 (sDrop (sAppend 2 (sPub (sTup (sCons (sName 3) (sCons (sPub (sBin subG (sName 4) (sName 1))) sNil))))))
 sSkip)
 (sAug (· - ·) 1 (sPub (sCallB min2G (sCons (sName 4) (sCons (sName 1) sNil)))))))
noncomputable def l1_popped : Ga → Res (Ga × Fl) := sWhile l1c_popped l1b_popped
noncomputable def b_popped : Ga → Res (Ga × Fl) :=
 (sSeq (sSet 2 (sUn listG (sName 0)))
 (sSeq l1_popped
 (sRet (sUn tupleG (sBor 2)))))
noncomputable def m_popped : Ga → Res (Ga × R) := defS 2 3 b_popped
noncomputable def b_joined_runs : Ga → Res (Ga × Fl) :=
 (sSeq (sCond (sAnd (sTst (sBin neS (sName 0) (sPub (sTup sNil)))) (sAnd (sTst (sBin neS (sName 1) (sPub (sTup sNil)))) (sTst (sBin eqS (sPub (sBin ixG (sPub (sBin ixG (sName 0) (sPub (sUn negG (sC (.int 1)))))) (sC (.int 0)))) (sPub (sBin ixG (sPub (sBin ixG (sName 1) (sC (.int 0)))) (sC (.int 0))))))))
 (sRet (sTup (sStar (sPub (sSl (sName 0) sNoO (sSomeO (sPub (sUn negG (sC (.int 1))))))) (sCons (sPub (sTup (sCons (sPub (sBin ixG (sPub (sBin ixG (sName 0) (sPub (sUn negG (sC (.int 1)))))) (sC (.int 0)))) (sCons (sPub (sBin addG (sPub (sBin ixG (sPub (sBin ixG (sName 0) (sPub (sUn negG (sC (.int 1)))))) (sC (.int 1)))) (sPub (sBin ixG (sPub (sBin ixG (sName 1) (sC (.int 0)))) (sC (.int 1)))))) sNil)))) (sStar (sPub (sSl (sName 1) (sSomeO (sC (.int 1))) sNoO)) sNil)))))
 sSkip)
 (sRet (sTup (sStar (sName 0) (sStar (sName 1) sNil)))))
noncomputable def m_joined_runs : Ga → Res (Ga × R) := defS 2 0 b_joined_runs
noncomputable def b_pushed : Ga → Res (Ga × Fl) :=
 (sSeq (sSet 3 (callS m_popped [none, none] (sCons (sName 0) (sCons (sPub (callS m_count_below [none, none] (sCons (sName 0) (sCons (sName 1) sNil)))) sNil))))
 (sRet (callS m_joined_runs [none, none] (sCons (sName 3) (sCons (sPub (sTup (sCons (sPub (sTup (sCons (sName 1) (sCons (sName 2) sNil)))) sNil))) sNil)))))
noncomputable def m_pushed : Ga → Res (Ga × R) := defS 3 1 b_pushed
noncomputable def b__law_pool_k01 : Ga → Res (Ga × Fl) :=
 (sSeq (sSet 2 (sDat (sC (.int 0))))
 (sSeq (sCond (sTst (sBin ltG (sName 1) (sPub (sLenScr 0))))
 (sSet 2 (sIxScr 0 (sName 1)))
 sSkip)
 (sSeq (sSet 3 (sUn absG (sName 2)))
 (sSeq (sSet 4 (sBin modG (sPub (sBin mulG (sPub (sBin addG (sPub (sBin modG (sName 2) (sC (.int 2147483629)))) (sPub (sBin mulG (sC (.int 104729)) (sPub (sBin addG (sName 1) (sC (.int 1)))))))) (sPub (sBin addG (sName 1) (sC (.int 7)))))) (sC (.int 2147483629))))
 (sSeq (sSet 5 (sBin modG (sPub (sBin mulG (sPub (sBin modG (sPub (sBin mulG (sName 4) (sName 4))) (sC (.int 2147483629)))) (sC (.int 48271)))) (sC (.int 2147483647))))
 (sRet (sLst (sCons (sPub (sBin mulG (sName 3) (sPub (sUn intG (sPub (sBin geG (sName 3) (sPub (sBin powG (sC (.int 10)) (sC (.int 18)))))))))) (sCons (sName 5) sNil)))))))))
noncomputable def m__law_pool_k01 : Ga → Res (Ga × R) := defS 2 4 b__law_pool_k01
noncomputable def b__law_take : Ga → Res (Ga × Fl) :=
 (sSeq (sCond (sTst (sBin gtG (sPub (sBinN ixG 0 (sC (.int 0)))) (sC (.int 0))))
 (sSeq (sSet 2 (sBin modG (sPub (sBinN ixG 0 (sC (.int 0)))) (sName 1)))
 (sSeq (sPut 0 (sC (.int 0)) (sPub (sBin fdivG (sPub (sBinN ixG 0 (sC (.int 0)))) (sName 1))))
 (sRetN 2)))
 sSkip)
 (sSeq (sPut 0 (sC (.int 1)) (sPub (sBin modG (sPub (sBin addG (sPub (sBin mulG (sPub (sBinN ixG 0 (sC (.int 1)))) (sC (.int 48271)))) (sC (.int 12345)))) (sC (.int 2147483647)))))
 (sRet (sBin modG (sPub (sBin fdivG (sPub (sBin modG (sPub (sBin mulG (sPub (sBinN ixG 0 (sC (.int 1)))) (sPub (sBinN ixG 0 (sC (.int 1)))))) (sC (.int 2147483629)))) (sC (.int 64)))) (sName 1)))))
noncomputable def m__law_take : Ga → Res (Ga × R) := defS 2 1 b__law_take
noncomputable def l1b__law_runs : Ga → Res (Ga × Fl) :=
 (sCond (sAnd (sTst (sBinN neS 1 (sPub (sLst sNil)))) (sTst (sBin eqS (sPub (sBin ixG (sPub (sBinN ixG 1 (sPub (sUn negG (sC (.int 1)))))) (sC (.int 0)))) (sName 2))))
 (sPut 1 (sPub (sUn negG (sC (.int 1)))) (sPub (sTup (sCons (sName 2) (sCons (sPub (sBin addG (sPub (sBin ixG (sPub (sBinN ixG 1 (sPub (sUn negG (sC (.int 1)))))) (sC (.int 1)))) (sC (.int 1)))) sNil)))))
 (sDrop (sAppend 1 (sPub (sTup (sCons (sName 2) (sCons (sC (.int 1)) sNil)))))))
noncomputable def l1__law_runs : Ga → Res (Ga × Fl) := sFor (sIt iterA (sName 0)) (gN 2) l1b__law_runs
noncomputable def b__law_runs : Ga → Res (Ga × Fl) :=
 (sSeq (sSet 1 (sLst sNil))
 (sSeq l1__law_runs
 (sRet (sUn tupleG (sBor 1)))))
noncomputable def m__law_runs : Ga → Res (Ga × R) := defS 1 2 b__law_runs
noncomputable def l1b__law_flat : Ga → Res (Ga × Fl) :=
 (sSet 1 (sBin addG (sName 1) (sPub (sBin mulG (sPub (sLst (sCons (sName 2) sNil))) (sName 3)))))
noncomputable def l1__law_flat : Ga → Res (Ga × Fl) := sFor (sIt iterA (sName 0)) (gTup' (gCons' (gN 2) (gCons' (gN 3) gNil')) 2) l1b__law_flat
noncomputable def b__law_flat : Ga → Res (Ga × Fl) :=
 (sSeq (sSet 1 (sLst sNil))
 (sSeq l1__law_flat
 (sRetN 1)))
noncomputable def m__law_flat : Ga → Res (Ga × R) := defS 1 3 b__law_flat
noncomputable def l1c__law_pushed : Ga → Res (Ga × Bool) :=
 (sAnd (sTst (sBinN neS 2 (sPub (sLst sNil)))) (sTst (sBin ltG (sPub (sBinN ixG 2 (sPub (sUn negG (sC (.int 1)))))) (sName 1))))
noncomputable def l1b__law_pushed : Ga → Res (Ga × Fl) :=
 (sDrop (sDat (sPop 2)))
noncomputable def l1__law_pushed : Ga → Res (Ga × Fl) := sWhile l1c__law_pushed l1b__law_pushed
noncomputable def b__law_pushed : Ga → Res (Ga × Fl) :=
 (sSeq (sSet 2 (sUn listG (sName 0)))
 (sSeq l1__law_pushed
 (sRet (sBinN addG 2 (sPub (sLst (sCons (sName 1) sNil)))))))
noncomputable def m__law_pushed : Ga → Res (Ga × R) := defS 2 1 b__law_pushed
noncomputable def l1__law_row_k01 : Ga → Res (Ga × R) := sLc (sItA rng1 (sCons (sPub (callS m__law_take [some 0, none] (sRef 0 (sCons (sPub (sBin addG (sName 1) (sC (.int 1)))) sNil)))) sNil)) (gN 4) sYes (sPub (sBin subG (sPub (callS m__law_take [some 0, none] (sRef 0 (sCons (sName 2) sNil)))) (sPub (sBin fdivG (sName 2) (sC (.int 3)))))) [4]
noncomputable def b__law_row_k01 : Ga → Res (Ga × Fl) :=
 (sSeq (sSet 3 l1__law_row_k01)
 (sRet (sRev (sPub (sUn sortedA (sName 3))))))
noncomputable def m__law_row_k01 : Ga → Res (Ga × R) := defS 3 2 b__law_row_k01
noncomputable def b_is_step : Ga → Res (Ga × Fl) :=
 (sSeq (sCond (sOr (sNot (sTst (sUn (isiG "tuple") (sName 0)))) (sOr (sTst (sBin notinG (sPub (sUn lenG (sName 0))) (sPub (sTup (sCons (sC (.int 2)) (sCons (sC (.int 3)) sNil)))))) (sNot (sTst (sUn (isiG "str") (sPub (sBin ixG (sName 0) (sC (.int 0)))))))))
 (sRet (sDat (sC (.bool false))))
 sSkip)
 (sMatch ("push" : Str) ("pop" : Str) 1 2 2 (sName 0)
 (sRet (sVal (sAnd (sTst (callS m_is_integer [none] (sCons (sName 1) sNil))) (sTst (callS m_is_count [none] (sCons (sName 2) sNil))))))
 (sRet (callS m_is_count [none] (sCons (sName 2) sNil)))
 (sRet (sDat (sC (.bool false))))))
noncomputable def m_is_step : Ga → Res (Ga × R) := defS 1 2 b_is_step
noncomputable def l1b_check_sequence : Ga → Res (Ga × Fl) :=
 (sCond (sNot (sTst (callS m_is_step [none] (sCons (sName 2) sNil))))
 (sRaise ("InvalidSequence" : Str) (sName 1))
 sSkip)
noncomputable def l1_check_sequence : Ga → Res (Ga × Fl) := sFor (sItA enumG (sCons (sName 0) sNil)) (gTup' (gCons' (gN 1) (gCons' (gN 2) gNil')) 2) l1b_check_sequence
noncomputable def b_check_sequence : Ga → Res (Ga × Fl) :=
 (sSeq (sCond (sNot (sTst (sUn (isiG2 "list" "tuple") (sName 0))))
 (sRaise ("InvalidSequence" : Str) (sC .none))
 sSkip)
 l1_check_sequence)
noncomputable def m_check_sequence : Ga → Res (Ga × R) := defS 1 2 b_check_sequence
noncomputable def l1b__law_ran : Ga → Res (Ga × Fl) :=
 (sCond (sTst (sBin eqS (sPub (sBin ixG (sName 2) (sC (.int 0)))) (sC (.str ("push" : Str)))))
 (sSet 0 (callS m__law_pushed [none, none] (sCons (sName 0) (sCons (sPub (sBin ixG (sName 2) (sC (.int 1)))) sNil))))
 (sCond (sTst (sBin eqS (sName 0) (sPub (sLst sNil))))
 (sRet (sDat (sC .none)))
 (sSet 0 (sSl (sName 0) sNoO (sSomeO (sPub (sUn negG (sC (.int 1)))))))))
noncomputable def l1__law_ran : Ga → Res (Ga × Fl) := sFor (sItA rng1 (sCons (sPub (sBin ixG (sName 2) (sPub (sUn negG (sC (.int 1)))))) sNil)) (gN 3) l1b__law_ran
noncomputable def l2b__law_ran : Ga → Res (Ga × Fl) :=
 l1__law_ran
noncomputable def l2__law_ran : Ga → Res (Ga × Fl) := sFor (sIt iterA (sName 1)) (gN 2) l2b__law_ran
noncomputable def b__law_ran : Ga → Res (Ga × Fl) :=
 (sSeq l2__law_ran
 (sRetN 0))
noncomputable def m__law_ran : Ga → Res (Ga × R) := defS 2 2 b__law_ran
noncomputable def l1b__law_steps_k04 : Ga → Res (Ga × Fl) :=
 (sSeq (sSet 5 (sBin ixG (sPub (sLst (sCons (sC (.int 1)) (sCons (sC (.int 1)) (sCons (sPub (sBin addG (sC (.int 1)) (sPub (callS m__law_take [some 0, none] (sRef 0 (sCons (sC (.int 3)) sNil)))))) sNil))))) (sPub (callS m__law_take [some 0, none] (sRef 0 (sCons (sC (.int 3)) sNil))))))
 (sCond (sTst (sBin ltG (sPub (callS m__law_take [some 0, none] (sRef 0 (sCons (sC (.int 5)) sNil)))) (sC (.int 2))))
 (sDrop (sAppend 3 (sPub (sTup (sCons (sC (.str ("pop" : Str))) (sCons (sName 5) sNil))))))
 (sDrop (sAppend 3 (sPub (sTup (sCons (sC (.str ("push" : Str))) (sCons (sPub (sBin subG (sPub (callS m__law_take [some 0, none] (sRef 0 (sCons (sName 2) sNil)))) (sPub (sBin fdivG (sName 2) (sC (.int 3)))))) (sCons (sName 5) sNil)))))))))
noncomputable def l1__law_steps_k04 : Ga → Res (Ga × Fl) := sFor (sItA rng1 (sCons (sPub (callS m__law_take [some 0, none] (sRef 0 (sCons (sPub (sBin addG (sName 1) (sC (.int 1)))) sNil)))) sNil)) (gN 4) l1b__law_steps_k04
noncomputable def b__law_steps_k04 : Ga → Res (Ga × Fl) :=
 (sSeq (sSet 3 (sLst sNil))
 (sSeq l1__law_steps_k04
 (sRetN 3)))
noncomputable def m__law_steps_k04 : Ga → Res (Ga × R) := defS 3 3 b__law_steps_k04
noncomputable def l1b_undominated : Ga → Res (Ga × Fl) :=
 (sCond (sOr (sTst (sBinN eqS 1 (sPub (sLst sNil)))) (sTst (sBin gtG (sName 3) (sPub (sBin ixG (sPub (sBinN ixG 1 (sPub (sUn negG (sC (.int 1)))))) (sC (.int 1)))))))
 (sDrop (sAppend 1 (sPub (sTup (sCons (sName 2) (sCons (sName 3) sNil))))))
 sSkip)
noncomputable def l1_undominated : Ga → Res (Ga × Fl) := sFor (sIt iterA (sPub (sRev (sPub (sUn sortedA (sName 0)))))) (gTup' (gCons' (gN 2) (gCons' (gN 3) gNil')) 2) l1b_undominated
noncomputable def b_undominated : Ga → Res (Ga × Fl) :=
 (sSeq (sSet 1 (sLst sNil))
 (sSeq l1_undominated
 (sRet (sUn tupleG (sPub (sRev (sBor 1)))))))
noncomputable def m_undominated : Ga → Res (Ga × R) := defS 1 3 b_undominated
noncomputable def l1_shifted : Ga → Res (Ga × R) := sLc (sIt iterA (sName 0)) (gTup' (gCons' (gN 2) (gCons' (gN 3) gNil')) 2) sYes (sPub (sTup (sCons (sName 2) (sCons (sPub (sBin addG (sName 3) (sName 1))) sNil)))) [2, 3]
noncomputable def b_shifted : Ga → Res (Ga × Fl) :=
 (sRet (sUn tupleG (sPub l1_shifted)))
noncomputable def m_shifted : Ga → Res (Ga × R) := defS 2 2 b_shifted
noncomputable def l1_passing : Ga → Res (Ga × R) := sLc (sIt iterA (sName 0)) (gN 2) (sOr (sTst (sBin eqS (sName 1) (sPub (sTup sNil)))) (sTst (sBin gtG (sPub (sBin ixG (sName 2) (sC (.int 0)))) (sPub (sBin ixG (sPub (sBin ixG (sName 1) (sC (.int 0)))) (sC (.int 0))))))) (sName 2) [2]
noncomputable def b_passing : Ga → Res (Ga × Fl) :=
 (sRet (sUn tupleG (sPub l1_passing)))
noncomputable def m_passing : Ga → Res (Ga × R) := defS 2 1 b_passing
noncomputable def l1_taken : Ga → Res (Ga × R) := sLc (sIt iterA (sName 2)) (gTup' (gCons' (gN 5) (gCons' (gN 6) gNil')) 2) sYes (sPub (sBin addG (sPub (callS m_count_below [none, none] (sCons (sName 1) (sCons (sName 5) sNil)))) (sName 6))) [5, 6]
noncomputable def b_taken : Ga → Res (Ga × Fl) :=
 (sSeq (sAsg (gTup' (gCons' (gN 2) (gCons' (gN 3) (gCons' (gN 4) gNil'))) 3) (sName 0))
 (sRet (sUn maxG (sPub (sBin addG (sPub (sLst (sCons (sName 3) sNil))) (sPub l1_taken))))))
noncomputable def m_taken : Ga → Res (Ga × R) := defS 2 5 b_taken
noncomputable def b_joined : Ga → Res (Ga × Fl) :=
 (sSeq (sAsg (gTup' (gCons' (gN 2) (gCons' (gN 3) (gCons' (gN 4) gNil'))) 3) (sName 0))
 (sSeq (sSet 5 (callS m_size_of [none] (sCons (sName 4) sNil)))
 (sSeq (sSet 6 (callS m_taken [none, none] (sCons (sName 1) (sCons (sName 4) sNil))))
 (sSeq (sSet 7 (sCallB max2G (sCons (sC (.int 0)) (sCons (sPub (sBin subG (sName 6) (sName 5))) sNil))))
 (sSeq (sSet 8 (callS m_passing [none, none] (sCons (sPub (sBin ixG (sName 1) (sC (.int 0)))) (sCons (sName 4) sNil))))
 (sSeq (sSet 9 (callS m_popped [none, none] (sCons (sName 4) (sCons (sPub (sCallB min2G (sCons (sName 5) (sCons (sName 6) sNil)))) sNil))))
 (sRet (sTup (sCons (sPub (callS m_undominated [none] (sCons (sPub (sBin addG (sPub (callS m_shifted [none, none] (sCons (sName 2) (sCons (sName 7) sNil)))) (sName 8))) sNil))) (sCons (sPub (sBin addG (sName 3) (sName 7))) (sCons (sPub (callS m_joined_runs [none, none] (sCons (sName 9) (sCons (sPub (sBin ixG (sName 1) (sC (.int 2)))) sNil)))) sNil)))))))))))
noncomputable def m_joined : Ga → Res (Ga × R) := defS 2 8 b_joined
noncomputable def b_effect_of_step : Ga → Res (Ga × Fl) :=
 (sSeq (sCond (sTst (sBin eqS (sPub (sBin ixG (sName 0) (sC (.int 0)))) (sC (.str ("push" : Str)))))
 (sRet (sTup (sCons (sPub (sTup (sCons (sPub (sTup (sCons (sPub (sBin ixG (sName 0) (sC (.int 1)))) (sCons (sC (.int 0)) sNil)))) sNil))) (sCons (sC (.int 0)) (sCons (sPub (sTup (sCons (sPub (sTup (sCons (sPub (sBin ixG (sName 0) (sC (.int 1)))) (sCons (sPub (sBin ixG (sName 0) (sC (.int 2)))) sNil)))) sNil))) sNil)))))
 sSkip)
 (sRet (sTup (sCons (sPub (sTup sNil)) (sCons (sPub (sBin ixG (sName 0) (sC (.int 1)))) (sCons (sPub (sTup sNil)) sNil))))))
noncomputable def m_effect_of_step : Ga → Res (Ga × R) := defS 1 0 b_effect_of_step
noncomputable def l1b_effect_of_valid : Ga → Res (Ga × Fl) :=
 (sSet 1 (callS m_joined [none, none] (sCons (sName 1) (sCons (sPub (callS m_effect_of_step [none] (sCons (sName 2) sNil))) sNil))))
noncomputable def l1_effect_of_valid : Ga → Res (Ga × Fl) := sFor (sIt iterA (sName 0)) (gN 2) l1b_effect_of_valid
noncomputable def b_effect_of_valid : Ga → Res (Ga × Fl) :=
 (sSeq (sSet 1 (sDat (sC (.tuple [.tuple [], .int 0, .tuple []]))))
 (sSeq l1_effect_of_valid
 (sRetN 1)))
noncomputable def m_effect_of_valid : Ga → Res (Ga × R) := defS 1 2 b_effect_of_valid
noncomputable def b_effect_of : Ga → Res (Ga × Fl) :=
 (sSeq (sDrop (callS m_check_sequence [none] (sCons (sName 0) sNil)))
 (sRet (callS m_effect_of_valid [none] (sCons (sName 0) sNil))))
noncomputable def m_effect_of : Ga → Res (Ga × R) := defS 1 0 b_effect_of
noncomputable def b_is_pair : Ga → Res (Ga × Fl) :=
 (sSeq (sCond (sOr (sNot (sTst (sUn (isiG "tuple") (sName 0)))) (sTst (sBin neS (sPub (sUn lenG (sName 0))) (sC (.int 2)))))
 (sRet (sDat (sC (.bool false))))
 sSkip)
 (sRet (sVal (sAnd (sTst (callS m_is_integer [none] (sCons (sPub (sBin ixG (sName 0) (sC (.int 0)))) sNil))) (sAnd (sTst (callS m_is_integer [none] (sCons (sPub (sBin ixG (sName 0) (sC (.int 1)))) sNil))) (sTst (sBin geG (sPub (sBin ixG (sName 0) (sC (.int 1)))) (sC (.int 0)))))))))
noncomputable def m_is_pair : Ga → Res (Ga × R) := defS 1 0 b_is_pair
noncomputable def l1_are_pairs : Ga → Res (Ga × R) := sLc (sIt iterA (sName 0)) (gN 2) sYes (sPub (callS m_is_pair [none] (sCons (sName 2) sNil))) [2]
noncomputable def l2_are_pairs : Ga → Res (Ga × R) := sLc (sIt iterA (sName 1)) (gTup' (gCons' (gN 3) (gCons' (gN 4) gNil')) 2) sYes (sPub (sVal (sAnd (sTst (sBin ltG (sPub (sBin ixG (sName 3) (sC (.int 0)))) (sPub (sBin ixG (sName 4) (sC (.int 0)))))) (sTst (sBin gtG (sPub (sBin ixG (sName 3) (sC (.int 1)))) (sPub (sBin ixG (sName 4) (sC (.int 1))))))))) [3, 4]
noncomputable def b_are_pairs : Ga → Res (Ga × Fl) :=
 (sSeq (sCond (sOr (sNot (sTst (sUn (isiG "tuple") (sName 0)))) (sNot (sTst (sUn allG (sPub l1_are_pairs)))))
 (sRet (sDat (sC (.bool false))))
 sSkip)
 (sSeq (sSet 1 (sCallB listZipG (sCons (sName 0) (sCons (sPub (sSl (sName 0) (sSomeO (sC (.int 1))) sNoO)) sNil))))
 (sRet (sUn allG (sPub l2_are_pairs)))))
noncomputable def m_are_pairs : Ga → Res (Ga × R) := defS 1 4 b_are_pairs
noncomputable def b_is_effect : Ga → Res (Ga × Fl) :=
 (sSeq (sCond (sOr (sNot (sTst (sUn (isiG "tuple") (sName 0)))) (sTst (sBin neS (sPub (sUn lenG (sName 0))) (sC (.int 3)))))
 (sRet (sDat (sC (.bool false))))
 sSkip)
 (sSeq (sAsg (gTup' (gCons' (gN 1) (gCons' (gN 2) (gCons' (gN 3) gNil'))) 3) (sName 0))
 (sSeq (sCond (sOr (sNot (sTst (callS m_are_pairs [none] (sCons (sName 1) sNil)))) (sOr (sNot (sTst (callS m_is_integer [none] (sCons (sName 2) sNil)))) (sOr (sTst (sBin ltG (sName 2) (sC (.int 0)))) (sNot (sTst (callS m_is_stack [none] (sCons (sName 3) sNil)))))))
 (sRet (sDat (sC (.bool false))))
 sSkip)
 (sSeq (sCond (sTst (sBin eqS (sName 1) (sPub (sTup sNil))))
 (sRet (sBin eqS (sName 3) (sPub (sTup sNil))))
 sSkip)
 (sRet (sVal (sAnd (sTst (sBin leG (sPub (sBin ixG (sPub (sBin ixG (sName 1) (sC (.int 0)))) (sC (.int 1)))) (sName 2))) (sTst (sVal (sOr (sTst (sBin eqS (sName 3) (sPub (sTup sNil)))) (sTst (sBin leG (sPub (sBin ixG (sPub (sBin ixG (sName 3) (sC (.int 0)))) (sC (.int 0)))) (sPub (sBin ixG (sPub (sBin ixG (sName 1) (sPub (sUn negG (sC (.int 1)))))) (sC (.int 0))))))))))))))))
noncomputable def m_is_effect : Ga → Res (Ga × R) := defS 1 3 b_is_effect
noncomputable def l1c__law_effect_k06 : Ga → Res (Ga × Bool) :=
 (sAnd (sTst (sBinN neS 1 (sPub (sLst sNil)))) (sTst (sBin ltG (sPub (sBinN ixG 1 (sPub (sUn negG (sC (.int 1)))))) (sPub (sBin ixG (sName 4) (sC (.int 1)))))))
noncomputable def l1b__law_effect_k06 : Ga → Res (Ga × Fl) :=
 (sDrop (sDat (sPop 1)))
noncomputable def l1__law_effect_k06 : Ga → Res (Ga × Fl) := sWhile l1c__law_effect_k06 l1b__law_effect_k06
noncomputable def l2b__law_effect_k06 : Ga → Res (Ga × Fl) :=
 (sCond (sTst (sBin eqS (sPub (sBin ixG (sName 4) (sC (.int 0)))) (sC (.str ("push" : Str)))))
 (sSeq l1__law_effect_k06
 (sSeq (sCond (sTst (sBinN eqS 1 (sPub (sLst sNil))))
 (sDrop (sAppend 2 (sPub (sTup (sCons (sPub (sBin ixG (sName 4) (sC (.int 1)))) (sCons (sName 3) sNil))))))
 sSkip)
 (sDrop (sAppend 1 (sPub (sBin ixG (sName 4) (sC (.int 1))))))))
 (sCond (sTst (sBinN neS 1 (sPub (sLst sNil))))
 (sDrop (sDat (sPop 1)))
 (sSet 3 (sBin addG (sName 3) (sC (.int 1))))))
noncomputable def l2__law_effect_k06 : Ga → Res (Ga × Fl) := sFor (sItA rng1 (sCons (sPub (sBin ixG (sName 4) (sPub (sUn negG (sC (.int 1)))))) sNil)) (gN 5) l2b__law_effect_k06
noncomputable def l3b__law_effect_k06 : Ga → Res (Ga × Fl) :=
 l2__law_effect_k06
noncomputable def l3__law_effect_k06 : Ga → Res (Ga × Fl) := sFor (sIt iterA (sName 0)) (gN 4) l3b__law_effect_k06
noncomputable def l4__law_effect_k06 : Ga → Res (Ga × R) := sLc (sIt iterA (sName 2)) (gTup' (gCons' (gN 9) (gCons' (gN 10) gNil')) 2) sYes (sPub (sTup (sCons (sName 9) (sCons (sPub (sBin subG (sName 3) (sName 10))) sNil)))) [9, 10]
noncomputable def l5b__law_effect_k06 : Ga → Res (Ga × Fl) :=
 (sCond (sOr (sTst (sBinN eqS 6 (sPub (sLst sNil)))) (sTst (sBin gtG (sName 8) (sPub (sBin ixG (sPub (sBinN ixG 6 (sPub (sUn negG (sC (.int 1)))))) (sC (.int 1)))))))
 (sDrop (sAppend 6 (sPub (sTup (sCons (sName 7) (sCons (sName 8) sNil))))))
 sSkip)
noncomputable def l5__law_effect_k06 : Ga → Res (Ga × Fl) := sFor (sIt iterA (sPub (sRev (sPub (sUn sortedA (sPub l4__law_effect_k06)))))) (gTup' (gCons' (gN 7) (gCons' (gN 8) gNil')) 2) l5b__law_effect_k06
noncomputable def b__law_effect_k06 : Ga → Res (Ga × Fl) :=
 (sSeq (sPar3 1 2 3 (sRCons (sLst sNil) (sRCons (sLst sNil) (sRCons (sDat (sC (.int 0))) sRNil))))
 (sSeq l3__law_effect_k06
 (sSeq (sSet 6 (sLst sNil))
 (sSeq l5__law_effect_k06
 (sRet (sTup (sCons (sPub (sUn tupleG (sPub (sRev (sBor 6))))) (sCons (sName 3) (sCons (sPub (callS m__law_runs [none] (sCons (sName 1) sNil))) sNil)))))))))
noncomputable def m__law_effect_k06 : Ga → Res (Ga × R) := defS 1 10 b__law_effect_k06
noncomputable def b_check_from : Ga → Res (Ga × Fl) :=
 (sCond (sOr (sNot (sTst (callS m_is_integer [none] (sCons (sName 0) sNil)))) (sTst (sBin ltG (sName 0) (sName 1))))
 (sRaise ("InvalidNumber" : Str) (sName 0))
 sSkip)
noncomputable def m_check_from : Ga → Res (Ga × R) := defS 2 0 b_check_from
noncomputable def b_check_effect : Ga → Res (Ga × Fl) :=
 (sCond (sNot (sTst (callS m_is_effect [none] (sCons (sName 0) sNil))))
 (sRaise ("InvalidEffect" : Str) (sName 0))
 sSkip)
noncomputable def m_check_effect : Ga → Res (Ga × R) := defS 1 0 b_check_effect
noncomputable def b_removed_by : Ga → Res (Ga × Fl) :=
 (sSeq (sSet 2 (callS m_taken [none, none] (sCons (sName 0) (sCons (sName 1) sNil))))
 (sRet (sIf (sTst (sBin leG (sName 2) (sPub (callS m_size_of [none] (sCons (sName 1) sNil))))) (sDat (sName 2)) (sDat (sC .none)))))
noncomputable def m_removed_by : Ga → Res (Ga × R) := defS 2 1 b_removed_by
noncomputable def b_removed : Ga → Res (Ga × Fl) :=
 (sSeq (sDrop (callS m_check_effect [none] (sCons (sName 0) sNil)))
 (sSeq (sDrop (callS m_check_stack [none] (sCons (sName 1) sNil)))
 (sRet (callS m_removed_by [none, none] (sCons (sName 0) (sCons (sName 1) sNil))))))
noncomputable def m_removed : Ga → Res (Ga × R) := defS 2 0 b_removed
noncomputable def b_applied : Ga → Res (Ga × Fl) :=
 (sSeq (sSet 2 (callS m_removed [none, none] (sCons (sName 0) (sCons (sName 1) sNil))))
 (sSeq (sCond (sTst (sBin isG (sName 2) (sC .none)))
 (sRaise ("StepFailed" : Str) (sC .none))
 sSkip)
 (sRet (callS m_joined_runs [none, none] (sCons (sPub (callS m_popped [none, none] (sCons (sName 1) (sCons (sName 2) sNil)))) (sCons (sPub (sBin ixG (sName 0) (sC (.int 2)))) sNil))))))
noncomputable def m_applied : Ga → Res (Ga × R) := defS 2 1 b_applied
noncomputable def l1b_composed : Ga → Res (Ga × Fl) :=
 (sDrop (callS m_check_effect [none] (sCons (sName 1) sNil)))
noncomputable def l1_composed : Ga → Res (Ga × Fl) := sFor (sIt iterA (sName 0)) (gN 1) l1b_composed
noncomputable def l2b_composed : Ga → Res (Ga × Fl) :=
 (sSet 2 (callS m_joined [none, none] (sCons (sName 2) (sCons (sName 1) sNil))))
noncomputable def l2_composed : Ga → Res (Ga × Fl) := sFor (sIt iterA (sName 0)) (gN 1) l2b_composed
noncomputable def b_composed : Ga → Res (Ga × Fl) :=
 (sSeq l1_composed
 (sSeq (sSet 2 (sDat (sC (.tuple [.tuple [], .int 0, .tuple []]))))
 (sSeq l2_composed
 (sRetN 2))))
noncomputable def m_composed : Ga → Res (Ga × R) := defS 1 2 b_composed
noncomputable def b_with_bottom : Ga → Res (Ga × Fl) :=
 (sRet (sTup (sCons (sPub (sTup (sCons (sPub (sBin ixG (sPub (sBin ixG (sName 0) (sC (.int 0)))) (sC (.int 0)))) (sCons (sPub (sBin addG (sPub (sBin ixG (sPub (sBin ixG (sName 0) (sC (.int 0)))) (sC (.int 1)))) (sName 1))) sNil)))) (sStar (sPub (sSl (sName 0) (sSomeO (sC (.int 1))) sNoO)) sNil))))
noncomputable def m_with_bottom : Ga → Res (Ga × R) := defS 2 0 b_with_bottom
noncomputable def b_power_of : Ga → Res (Ga × Fl) :=
 (sSeq (sAsg (gTup' (gCons' (gN 2) (gCons' (gN 3) (gCons' (gN 4) gNil'))) 3) (sName 0))
 (sSeq (sSet 5 (sBin subG (sPub (callS m_taken [none, none] (sCons (sName 0) (sCons (sName 4) sNil)))) (sPub (callS m_size_of [none] (sCons (sName 4) sNil)))))
 (sSeq (sCond (sTst (sBin ltG (sName 5) (sC (.int 0))))
 (sRet (sTup (sCons (sName 2) (sCons (sName 3) (sCons (sPub (callS m_with_bottom [none, none] (sCons (sName 4) (sCons (sPub (sBin mulG (sPub (sUn negG (sName 5))) (sPub (sBin subG (sName 1) (sC (.int 1)))))) sNil)))) sNil)))))
 sSkip)
 (sSeq (sSet 5 (sBin mulG (sPub (sCallB max2G (sCons (sC (.int 0)) (sCons (sName 5) sNil)))) (sPub (sBin subG (sName 1) (sC (.int 1))))))
 (sRet (sTup (sCons (sPub (callS m_shifted [none, none] (sCons (sName 2) (sCons (sName 5) sNil)))) (sCons (sPub (sBin addG (sName 3) (sName 5))) (sCons (sName 4) sNil)))))))))
noncomputable def m_power_of : Ga → Res (Ga × R) := defS 2 4 b_power_of
noncomputable def b_power : Ga → Res (Ga × Fl) :=
 (sSeq (sDrop (callS m_check_effect [none] (sCons (sName 0) sNil)))
 (sSeq (sDrop (callS m_check_from [none, none] (sCons (sName 1) (sCons (sC (.int 0)) sNil))))
 (sRet (sIf (sTst (sBin gtG (sName 1) (sC (.int 0)))) (callS m_power_of [none, none] (sCons (sName 0) (sCons (sName 1) sNil))) (sDat (sC (.tuple [.tuple [], .int 0, .tuple []])))))))
noncomputable def m_power : Ga → Res (Ga × R) := defS 2 0 b_power
noncomputable def b_candidate : Ga → Res (Ga × Fl) :=
 (sSeq (sAsg (gTup' (gCons' (gN 2) (gCons' (gN 3) (gCons' (gN 4) gNil'))) 3) (sName 0))
 (sSeq (sSet 5 (sBin subG (sPub (callS m_taken [none, none] (sCons (sName 0) (sCons (sName 4) sNil)))) (sPub (callS m_size_of [none] (sCons (sName 4) sNil)))))
 (sSeq (sAsg (gTup' (gCons' (gN 6) (gCons' (gN 7) gNil')) 2) (sPub (sCallB divmodW (sCons (sPub (sUn absG (sName 5))) (sCons (sName 1) sNil)))))
 (sSeq (sCond (sTst (sBin neS (sName 7) (sC (.int 0))))
 (sRet (sDat (sC .none)))
 sSkip)
 (sSeq (sSet 8 (sBin mulG (sName 6) (sPub (sBin subG (sName 1) (sC (.int 1))))))
 (sSeq (sCond (sTst (sBin ltG (sName 5) (sC (.int 0))))
 (sRet (sTup (sCons (sName 2) (sCons (sName 3) (sCons (sPub (callS m_with_bottom [none, none] (sCons (sName 4) (sCons (sPub (sUn negG (sName 8))) sNil)))) sNil)))))
 sSkip)
 (sSeq (sCond (sAnd (sTst (sBin neS (sName 2) (sPub (sTup sNil)))) (sTst (sBin ltG (sPub (sBin ixG (sPub (sBin ixG (sName 2) (sPub (sUn negG (sC (.int 1)))))) (sC (.int 1)))) (sName 8))))
 (sRet (sDat (sC .none)))
 sSkip)
 (sRet (sTup (sCons (sPub (callS m_shifted [none, none] (sCons (sName 2) (sCons (sPub (sUn negG (sName 8))) sNil)))) (sCons (sPub (sBin subG (sName 3) (sName 8))) (sCons (sName 4) sNil))))))))))))
noncomputable def m_candidate : Ga → Res (Ga × R) := defS 2 7 b_candidate
noncomputable def b_root : Ga → Res (Ga × Fl) :=
 (sSeq (sDrop (callS m_check_effect [none] (sCons (sName 0) sNil)))
 (sSeq (sDrop (callS m_check_from [none, none] (sCons (sName 1) (sCons (sC (.int 1)) sNil))))
 (sSeq (sSet 2 (callS m_candidate [none, none] (sCons (sName 0) (sCons (sName 1) sNil))))
 (sRet (sIf (sAnd (sTst (sBin isnotG (sName 2) (sC .none))) (sTst (sBin eqS (sPub (callS m_power_of [none, none] (sCons (sName 2) (sCons (sName 1) sNil)))) (sName 0)))) (sDat (sName 2)) (sDat (sC .none)))))))
noncomputable def m_root : Ga → Res (Ga × R) := defS 2 1 b_root
noncomputable def l1_greater_than_all : Ga → Res (Ga × R) := sLc (sIt iterA (sName 5)) (gN 7) sYes (sPub (sBin ixG (sName 7) (sC (.int 0)))) [7]
noncomputable def l2_greater_than_all : Ga → Res (Ga × R) := sLc (sIt iterA (sName 3)) (gN 6) sYes (sPub (sBin ixG (sName 6) (sC (.int 0)))) [6]
noncomputable def l3b_greater_than_all : Ga → Res (Ga × Fl) :=
 (sExt 2 (sPub (sBin addG (sPub l2_greater_than_all) (sPub l1_greater_than_all))))
noncomputable def l3_greater_than_all : Ga → Res (Ga × Fl) := sFor (sIt iterA (sPub (sTup (sCons (sName 0) (sCons (sName 1) sNil))))) (gTup' (gCons' (gN 3) (gCons' (gN 4) (gCons' (gN 5) gNil'))) 3) l3b_greater_than_all
noncomputable def b_greater_than_all : Ga → Res (Ga × Fl) :=
 (sSeq (sSet 2 (sLst (sCons (sC (.int 0)) sNil)))
 (sSeq l3_greater_than_all
 (sRet (sBin addG (sPub (sUn maxG (sBor 2))) (sC (.int 1))))))
noncomputable def m_greater_than_all : Ga → Res (Ga × R) := defS 2 6 b_greater_than_all
noncomputable def l1_reach : Ga → Res (Ga × R) := sLc (sIt iterA (sPub (sBin ixG (sName 0) (sC (.int 0))))) (gTup' (gCons' (gN 2) (gCons' (gN 3) gNil')) 2) (sTst (sBin geG (sName 2) (sName 1))) (sName 3) [2, 3]
noncomputable def b_reach : Ga → Res (Ga × Fl) :=
 (sRet (sBin maxDG (sPub l1_reach) (sPub (sUn negG (sC (.int 1))))))
noncomputable def m_reach : Ga → Res (Ga × R) := defS 2 2 b_reach
noncomputable def l1_runs_of_k07 : Ga → Res (Ga × R) := sLc (sIt iterA (sName 0)) (gN 1) (sTst (sBin gtG (sPub (sBin ixG (sName 1) (sC (.int 1)))) (sC (.int 0)))) (sName 1) [1]
noncomputable def b_runs_of_k07 : Ga → Res (Ga × Fl) :=
 (sRet (sUn tupleG (sPub l1_runs_of_k07)))
noncomputable def m_runs_of_k07 : Ga → Res (Ga × R) := defS 1 1 b_runs_of_k07
noncomputable def l1_by_pairs : Ga → Res (Ga × R) := sLc (sIt iterA (sPub (sBin addG (sPub (sBin ixG (sName 0) (sC (.int 0)))) (sPub (sBin ixG (sName 1) (sC (.int 0))))))) (gN 9) sYes (sPub (sBin ixG (sName 9) (sC (.int 0)))) [9]
noncomputable def l2b_by_pairs : Ga → Res (Ga × Fl) :=
 (sSeq (sAsg (gLst' (gCons' (gN 6) (gCons' (gN 7) gNil')) 2) (sPub (sUn sortedA (sPub (sLst (sCons (sPub (callS m_reach [none, none] (sCons (sName 0) (sCons (sName 5) sNil)))) (sCons (sPub (callS m_reach [none, none] (sCons (sName 1) (sCons (sName 5) sNil)))) sNil)))))))
 (sSeq (sCond (sAnd (sTst (sBin neS (sName 6) (sName 7))) (sTst (sBin gtG (sName 7) (sC (.int 0)))))
 (sSeq (sSet 8 (sCallB min2G (sCons (sName 3) (sCons (sPub (sBin subG (sName 3) (sName 6))) sNil))))
 (sRet (callV m_runs_of_k07 0 (sCons (sPub (sTup (sCons (sName 2) (sCons (sPub (sBin subG (sName 3) (sName 8))) sNil)))) (sCons (sPub (sTup (sCons (sPub (sBin subG (sName 5) (sC (.int 1)))) (sCons (sName 8) sNil)))) sNil)))))
 sSkip)
 (sCond (sTst (sBin neS (sName 6) (sName 7)))
 (sSet 4 (sDat (sName 5)))
 sSkip)))
noncomputable def l2_by_pairs : Ga → Res (Ga × Fl) := sFor (sIt iterA (sPub (sUn sortedA (sPub l1_by_pairs)))) (gN 5) l2b_by_pairs
noncomputable def b_by_pairs : Ga → Res (Ga × Fl) :=
 (sSeq (sSet 3 (sBin ixG (sName 0) (sC (.int 1))))
 (sSeq (sSet 4 (sDat (sC .none)))
 (sSeq l2_by_pairs
 (sRet (sTup (sCons (sPub (sTup (sCons (sPub (sBin subG (sName 4) (sC (.int 1)))) (sCons (sPub (sBin addG (sName 3) (sC (.int 1)))) sNil)))) sNil))))))
noncomputable def m_by_pairs : Ga → Res (Ga × R) := defS 3 7 b_by_pairs
noncomputable def b_separating : Ga → Res (Ga × Fl) :=
 (sSeq (sDrop (callS m_check_effect [none] (sCons (sName 0) sNil)))
 (sSeq (sDrop (callS m_check_effect [none] (sCons (sName 1) sNil)))
 (sSeq (sCond (sTst (sBin eqS (sName 0) (sName 1)))
 (sRet (sDat (sC .none)))
 sSkip)
 (sSeq (sSet 2 (callS m_greater_than_all [none, none] (sCons (sName 0) (sCons (sName 1) sNil))))
 (sSeq (sCond (sOr (sTst (sBin neS (sPub (sBin ixG (sName 0) (sC (.int 1)))) (sPub (sBin ixG (sName 1) (sC (.int 1)))))) (sTst (sBin neS (sPub (sBin ixG (sName 0) (sC (.int 2)))) (sPub (sBin ixG (sName 1) (sC (.int 2)))))))
 (sRet (callV m_runs_of_k07 0 (sCons (sPub (sTup (sCons (sName 2) (sCons (sPub (sCallB min2G (sCons (sPub (sBin ixG (sName 0) (sC (.int 1)))) (sCons (sPub (sBin ixG (sName 1) (sC (.int 1)))) sNil)))) sNil)))) sNil)))
 sSkip)
 (sRet (callS m_by_pairs [none, none, none] (sCons (sName 0) (sCons (sName 1) (sCons (sName 2) sNil))))))))))
noncomputable def m_separating : Ga → Res (Ga × R) := defS 2 1 b_separating
noncomputable def l1__law_taken : Ga → Res (Ga × R) := sLc (sIt iterA (sName 1)) (gN 5) (sTst (sBin ltG (sName 5) (sName 3))) (sName 5) [5]
noncomputable def l2b__law_taken : Ga → Res (Ga × Fl) :=
 (sSet 2 (sCallB max2G (sCons (sName 2) (sCons (sPub (sBin addG (sName 4) (sPub (sUn lenG (sPub l1__law_taken))))) sNil))))
noncomputable def l2__law_taken : Ga → Res (Ga × Fl) := sFor (sIt iterA (sPub (sBin ixG (sName 0) (sC (.int 0))))) (gTup' (gCons' (gN 3) (gCons' (gN 4) gNil')) 2) l2b__law_taken
noncomputable def b__law_taken : Ga → Res (Ga × Fl) :=
 (sSeq (sSet 2 (sBin ixG (sName 0) (sC (.int 1))))
 (sSeq l2__law_taken
 (sRetN 2)))
noncomputable def m__law_taken : Ga → Res (Ga × R) := defS 2 4 b__law_taken
noncomputable def l1c__law_shuffled : Ga → Res (Ga × Bool) :=
 (sTst (sBinN neS 2 (sPub (sLst sNil))))
noncomputable def l1b__law_shuffled : Ga → Res (Ga × Fl) :=
 (sDrop (sAppend 3 (sPopAt 2 (sPub (callS m__law_take [some 0, none] (sRef 0 (sCons (sPub (sUn lenG (sBor 2))) sNil)))))))
noncomputable def l1__law_shuffled : Ga → Res (Ga × Fl) := sWhile l1c__law_shuffled l1b__law_shuffled
noncomputable def b__law_shuffled : Ga → Res (Ga × Fl) :=
 (sSeq (sSet 2 (sUn listG (sName 1)))
 (sSeq (sSet 3 (sLst sNil))
 (sSeq l1__law_shuffled
 (sRetN 3))))
noncomputable def m__law_shuffled : Ga → Res (Ga × R) := defS 2 2 b__law_shuffled
noncomputable def b__law_pool_k40 : Ga → Res (Ga × Fl) :=
 (sSeq (sSet 2 (sDat (sC (.int 0))))
 (sSeq (sCond (sTst (sBin ltG (sName 1) (sPub (sLenScr 0))))
 (sSet 2 (sUn absG (sPub (sIxScr 0 (sName 1)))))
 sSkip)
 (sSeq (sSet 3 (sBin modG (sPub (sBin mulG (sPub (sBin addG (sPub (sBin addG (sPub (sBin addG (sPub (sBin modG (sName 2) (sC (.int 2147483629)))) (sPub (sBin mulG (sPub (sBin mulG (sC (.int 7919)) (sName 1))) (sName 1))))) (sPub (sBin mulG (sC (.int 31)) (sName 1))))) (sC (.int 17)))) (sC (.int 48271)))) (sC (.int 2147483647))))
 (sRet (sLst (sCons (sPub (sBin mulG (sName 2) (sPub (sUn intG (sPub (sBin geG (sName 2) (sPub (sBin powG (sC (.int 10)) (sC (.int 18)))))))))) (sCons (sPub (sBin modG (sPub (sBin mulG (sName 3) (sName 3))) (sC (.int 2147483629)))) sNil)))))))
noncomputable def m__law_pool_k40 : Ga → Res (Ga × R) := defS 2 2 b__law_pool_k40
noncomputable def l1b__law_numbers : Ga → Res (Ga × Fl) :=
 (sSeq (sSet 2 (sBin addG (sPub (sBin addG (sName 2) (sC (.int 1)))) (sPub (callS m__law_take [some 0, none] (sRef 0 (sCons (sPub (sBin ixG (sPub (sLst (sCons (sC (.int 1)) (sCons (sC (.int 2)) (sCons (sC (.int 9)) sNil))))) (sPub (callS m__law_take [some 0, none] (sRef 0 (sCons (sC (.int 3)) sNil)))))) sNil))))))
 (sDrop (sAppend 3 (sName 2))))
noncomputable def l1__law_numbers : Ga → Res (Ga × Fl) := sFor (sItA rng1 (sCons (sName 1) sNil)) (gN 4) l1b__law_numbers
noncomputable def b__law_numbers : Ga → Res (Ga × Fl) :=
 (sSeq (sSet 2 (sBin ixG (sPub (sLst (sCons (sPub (sUn negG (sPub (sBin powG (sC (.int 10)) (sC (.int 30)))))) (sCons (sPub (sUn negG (sC (.int 50)))) (sCons (sPub (sUn negG (sC (.int 3)))) (sCons (sC (.int 0)) (sCons (sC (.int 7)) (sCons (sPub (sBin powG (sC (.int 10)) (sC (.int 18)))) sNil)))))))) (sPub (callS m__law_take [some 0, none] (sRef 0 (sCons (sC (.int 6)) sNil))))))
 (sSeq (sSet 3 (sLst sNil))
 (sSeq l1__law_numbers
 (sRetN 3))))
noncomputable def m__law_numbers : Ga → Res (Ga × R) := defS 2 3 b__law_numbers
noncomputable def l1b_hidden_by : Ga → Res (Ga × Fl) :=
 (sDrop (callS m_check_number [none] (sCons (sName 1) sNil)))
noncomputable def l1_hidden_by : Ga → Res (Ga × Fl) := sFor (sIt iterA (sName 0)) (gN 1) l1b_hidden_by
noncomputable def l2c_hidden_by : Ga → Res (Ga × Bool) :=
 (sAnd (sTst (sBinN neS 3 (sPub (sLst sNil)))) (sTst (sBin ltG (sPub (sBin ixG (sName 0) (sPub (sBinN ixG 3 (sPub (sUn negG (sC (.int 1)))))))) (sName 1))))
noncomputable def l2b_hidden_by : Ga → Res (Ga × Fl) :=
 (sPut 2 (sPop 3) (sName 4))
noncomputable def l2_hidden_by : Ga → Res (Ga × Fl) := sWhile l2c_hidden_by l2b_hidden_by
noncomputable def l3b_hidden_by : Ga → Res (Ga × Fl) :=
 (sSeq l2_hidden_by
 (sDrop (sAppend 3 (sName 4))))
noncomputable def l3_hidden_by : Ga → Res (Ga × Fl) := sFor (sItA enumG (sCons (sName 0) sNil)) (gTup' (gCons' (gN 4) (gCons' (gN 1) gNil')) 2) l3b_hidden_by
noncomputable def b_hidden_by : Ga → Res (Ga × Fl) :=
 (sSeq l1_hidden_by
 (sSeq (sPar2 2 3 (sRCons (sBin mulG (sPub (sLst (sCons (sC .none) sNil))) (sPub (sUn lenG (sName 0)))) (sRCons (sLst sNil) sRNil)))
 (sSeq l3_hidden_by
 (sRetN 2))))
noncomputable def m_hidden_by : Ga → Res (Ga × R) := defS 1 4 b_hidden_by
noncomputable def l1__law_row_k44 : Ga → Res (Ga × R) := sLc (sItA rng1 (sCons (sPub (callS m__law_take [some 0, none] (sRef 0 (sCons (sPub (sBin addG (sName 1) (sC (.int 1)))) sNil)))) sNil)) (gN 3) sYes (sPub (sBin ixG (sName 2) (sPub (callS m__law_take [some 0, none] (sRef 0 (sCons (sPub (sUn lenG (sName 2))) sNil)))))) [3]
noncomputable def b__law_row_k44 : Ga → Res (Ga × Fl) :=
 (sSeq (sSet 2 (callS m__law_numbers [some 0, none] (sRef 0 (sCons (sPub (sBin addG (sC (.int 1)) (sPub (callS m__law_take [some 0, none] (sRef 0 (sCons (sC (.int 6)) sNil)))))) sNil))))
 (sRet l1__law_row_k44))
noncomputable def m__law_row_k44 : Ga → Res (Ga × R) := defS 2 2 b__law_row_k44
noncomputable def b__law_hidden : Ga → Res (Ga × Fl) :=
 (sSeq (sCond (sTst (sBin ltG (sPub (sUn lenG (sName 0))) (sC (.int 2))))
 (sRet (sIf (sTst (sBin eqS (sName 0) (sPub (sLst sNil)))) (callV m_hidden_by 0 sNil) (callV m_hidden_by 0 (sCons (sPub (sBin ixG (sName 0) (sC (.int 0)))) sNil))))
 sSkip)
 (sSeq (sCond (sTst (sBin eqS (sPub (sUn lenG (sName 0))) (sC (.int 2))))
 (sRet (callV m_hidden_by 0 (sCons (sPub (sBin ixG (sName 0) (sC (.int 0)))) (sCons (sPub (sBin ixG (sName 0) (sC (.int 1)))) sNil))))
 sSkip)
 (sSeq (sCond (sTst (sBin eqS (sPub (sUn lenG (sName 0))) (sC (.int 3))))
 (sRet (callV m_hidden_by 0 (sCons (sPub (sBin ixG (sName 0) (sC (.int 0)))) (sCons (sPub (sBin ixG (sName 0) (sC (.int 1)))) (sCons (sPub (sBin ixG (sName 0) (sC (.int 2)))) sNil)))))
 sSkip)
 (sSeq (sCond (sTst (sBin eqS (sPub (sUn lenG (sName 0))) (sC (.int 4))))
 (sRet (callV m_hidden_by 0 (sCons (sPub (sBin ixG (sName 0) (sC (.int 0)))) (sCons (sPub (sBin ixG (sName 0) (sC (.int 1)))) (sCons (sPub (sBin ixG (sName 0) (sC (.int 2)))) (sCons (sPub (sBin ixG (sName 0) (sC (.int 3)))) sNil))))))
 sSkip)
 (sSeq (sCond (sTst (sBin eqS (sPub (sUn lenG (sName 0))) (sC (.int 5))))
 (sRet (callV m_hidden_by 0 (sCons (sPub (sBin ixG (sName 0) (sC (.int 0)))) (sCons (sPub (sBin ixG (sName 0) (sC (.int 1)))) (sCons (sPub (sBin ixG (sName 0) (sC (.int 2)))) (sCons (sPub (sBin ixG (sName 0) (sC (.int 3)))) (sCons (sPub (sBin ixG (sName 0) (sC (.int 4)))) sNil)))))))
 sSkip)
 (sRet (callV m_hidden_by 0 (sCons (sPub (sBin ixG (sName 0) (sC (.int 0)))) (sCons (sPub (sBin ixG (sName 0) (sC (.int 1)))) (sCons (sPub (sBin ixG (sName 0) (sC (.int 2)))) (sCons (sPub (sBin ixG (sName 0) (sC (.int 3)))) (sCons (sPub (sBin ixG (sName 0) (sC (.int 4)))) (sCons (sPub (sBin ixG (sName 0) (sC (.int 5)))) sNil)))))))))))))
noncomputable def m__law_hidden : Ga → Res (Ga × R) := defS 1 0 b__law_hidden
noncomputable def l1__law_due_k44 : Ga → Res (Ga × R) := sLc (sItA rng2 (sCons (sPub (sBin addG (sName 2) (sC (.int 1)))) (sCons (sPub (sUn lenG (sName 0))) sNil))) (gN 5) (sTst (sBin gtG (sPub (sBin ixG (sName 0) (sName 5))) (sName 3))) (sName 5) [5]
noncomputable def l2b__law_due_k44 : Ga → Res (Ga × Fl) :=
 (sSeq (sSet 4 l1__law_due_k44)
 (sDrop (sAppend 1 (sPub (sBin ixG (sPub (sBin addG (sName 4) (sPub (sLst (sCons (sC .none) sNil))))) (sC (.int 0)))))))
noncomputable def l2__law_due_k44 : Ga → Res (Ga × Fl) := sFor (sItA enumG (sCons (sName 0) sNil)) (gTup' (gCons' (gN 2) (gCons' (gN 3) gNil')) 2) l2b__law_due_k44
noncomputable def b__law_due_k44 : Ga → Res (Ga × Fl) :=
 (sSeq (sSet 1 (sLst sNil))
 (sSeq l2__law_due_k44
 (sRetN 1)))
noncomputable def m__law_due_k44 : Ga → Res (Ga × R) := defS 1 5 b__law_due_k44
noncomputable def b__law_refused_k44 : Ga → Res (Ga × Fl) :=
 (sSeq (sSet 1 (sDat (sC (.str ("returned" : Str)))))
 (sSeq (sTryE (callS m__law_hidden [none] (sCons (sDatN 0) sNil))
 (hvNm "InvalidNumber" 2 (hSet 1 hRepr)
 (hvP "SkylineError" (hSetC 1 (.str ("odd" : Str))) hvN)))
 (sRetN 1)))
noncomputable def m__law_refused_k44 : Ga → Res (Ga × R) := defS 1 2 b__law_refused_k44
noncomputable def b__law_dozen_right : Ga → Res (Ga × Fl) :=
 (sSeq (sSet 1 (callV m_hidden_by 0 (sCons (sPub (sBin ixG (sName 0) (sC (.int 0)))) (sCons (sPub (sBin ixG (sName 0) (sC (.int 1)))) (sCons (sPub (sBin ixG (sName 0) (sC (.int 2)))) (sCons (sPub (sBin ixG (sName 0) (sC (.int 3)))) (sCons (sPub (sBin ixG (sName 0) (sC (.int 4)))) (sCons (sPub (sBin ixG (sName 0) (sC (.int 5)))) (sCons (sPub (sBin ixG (sName 0) (sC (.int 6)))) (sCons (sPub (sBin ixG (sName 0) (sC (.int 7)))) (sCons (sPub (sBin ixG (sName 0) (sC (.int 8)))) (sCons (sPub (sBin ixG (sName 0) (sC (.int 9)))) (sCons (sPub (sBin ixG (sName 0) (sC (.int 10)))) (sCons (sPub (sBin ixG (sName 0) (sC (.int 11)))) sNil))))))))))))))
 (sRet (sBin eqS (sName 1) (sPub (callS m__law_due_k44 [none] (sCons (sName 0) sNil))))))
noncomputable def m__law_dozen_right : Ga → Res (Ga × R) := defS 1 1 b__law_dozen_right
noncomputable def l1b_law_k44 : Ga → Res (Ga × Fl) :=
 (sSeq (sSet 5 (callS m__law_hidden [none] (sCons (sName 3) sNil)))
 (sSeq (sCond (sTst (sBinN neS 5 (sPub (callS m__law_due_k44 [none] (sCons (sName 3) sNil)))))
 (sRet (sDat (sC (.bool false))))
 sSkip)
 (sDrop (sAppend 5 (sC (.int 0))))))
noncomputable def l1_law_k44 : Ga → Res (Ga × Fl) := sFor (sItA rng1 (sCons (sC (.int 2)) sNil)) (gN 4) l1b_law_k44
noncomputable def l2_law_k44 : Ga → Res (Ga × R) := sLc (sItA rng1 (sCons (sC (.int 12)) sNil)) (gN 4) sYes (sPub (sBin subG (sPub (callS m__law_take [some 2, none] (sRef 2 (sCons (sC (.int 9)) sNil)))) (sC (.int 4)))) [4]
noncomputable def l3b_law_k44 : Ga → Res (Ga × Fl) :=
 (sSeq (sSet 7 (callS m__law_take [some 2, none] (sRef 2 (sCons (sPub (sBin addG (sPub (sUn lenG (sPub (sSl (sName 3) sNoO (sSomeO (sC (.int 4))))))) (sC (.int 1)))) sNil))))
 (sCond (sTst (sBin neS (sPub (callS m__law_refused_k44 [none] (sCons (sPub (sBin addG (sPub (sBin addG (sPub (sBin addG (sPub (sSl (sName 3) sNoO (sSomeO (sName 7)))) (sPub (sLst (sCons (sName 6) sNil))))) (sPub (sSl (sName 3) (sSomeO (sName 7)) (sSomeO (sC (.int 4))))))) (sPub (sLst (sCons (sC (.str ("x" : Str))) sNil))))) sNil))) (sPub (sUn reprG (sName 6)))))
 (sRet (sDat (sC (.bool false))))
 sSkip))
noncomputable def l3_law_k44 : Ga → Res (Ga × Fl) := sFor (sIt iterA (sPub (sLst (sCons (sC .none) (sCons (sC (.bool true)) (sCons (sC (.str ("1" : Str))) (sCons (sPub (sTup (sCons (sC (.int 1)) sNil))) (sCons (sPub (sLst (sCons (sC (.int 1)) sNil))) (sCons (sC (.bool false)) sNil))))))))) (gN 6) l3b_law_k44
noncomputable def l4b_law_k44 : Ga → Res (Ga × Fl) :=
 (sSeq (sSet 2 (callS m__law_pool_k40 [some 0, none] (sRef 0 (sCons (sName 1) sNil))))
 (sSeq (sSet 3 (callS m__law_row_k44 [some 2, none] (sRef 2 (sCons (sC (.int 6)) sNil))))
 (sSeq l1_law_k44
 (sSeq (sCond (sNot (sTst (callS m__law_dozen_right [none] (sCons (sPub l2_law_k44) sNil))))
 (sRet (sDat (sC (.bool false))))
 sSkip)
 l3_law_k44))))
noncomputable def l4_law_k44 : Ga → Res (Ga × Fl) := sFor (sItA rng1 (sCons (sPub (sCallB max2G (sCons (sC (.int 1)) (sCons (sPub (sCallB min2G (sCons (sPub (sLenScr 0)) (sCons (sC (.int 10)) sNil)))) sNil)))) sNil)) (gN 1) l4b_law_k44
noncomputable def b_law_k44 : Ga → Res (Ga × Fl) :=
 (sSeq l4_law_k44
 (sRet (sDat (sC (.bool true)))))
noncomputable def m_law_k44 : Ga → Res (Ga × R) := defS 1 7 b_law_k44
end Pg
namespace Pu
/-! ### the pairs that no other one dominates -/
abbrev PP := Int × Int
def dom (p q : PP) : Prop := p.1 ≤ q.1 ∧ p.2 ≤ q.2
structure Top (S l : List PP) : Prop where
  chain : l.Pairwise fun p q => p.1 < q.1 ∧ q.2 < p.2
  sub : ∀ p ∈ l, p ∈ S
  dom : ∀ p ∈ S, ∃ q ∈ l, dom p q
theorem sorted_ext : ∀ {l l' : List PP}, l.Pairwise (fun p q => p.1 < q.1) → l'.Pairwise (fun p q => p.1 < q.1) → (∀ p, p ∈ l ↔ p ∈ l') → l = l'
  | [], [], _, _, _ => rfl
  | [], q :: _, _, _, h => absurd ((h q).mpr List.mem_cons_self) (fun h => nomatch h)
  | p :: _, [], _, _, h => absurd ((h p).mp List.mem_cons_self) (fun h => nomatch h)
  | p :: l, q :: l', s, s', h => by
    rw [List.pairwise_cons] at s s'
    have e : p = q := by
      rcases List.mem_cons.mp ((h p).mp List.mem_cons_self) with e | h1
      · exact e
      · rcases List.mem_cons.mp ((h q).mpr List.mem_cons_self) with e | h2
        · exact e.symm
        · have := s'.1 p h1
          have := s.1 q h2
          omega
    subst e
    rw [sorted_ext s.2 s'.2 fun r => ?_]
    constructor
    · intro hr
      rcases List.mem_cons.mp ((h r).mp (List.mem_cons_of_mem _ hr)) with e | h1
      · have := s.1 r hr; rw [e] at this; omega
      · exact h1
    · intro hr
      rcases List.mem_cons.mp ((h r).mpr (List.mem_cons_of_mem _ hr)) with e | h1
      · have := s'.1 r hr; rw [e] at this; omega
      · exact h1
theorem chain_eq : ∀ {l : List PP} {p q : PP}, l.Pairwise (fun p q => p.1 < q.1 ∧ q.2 < p.2) → p ∈ l → q ∈ l → dom p q → p = q
  | a :: l, p, q, s, hp, hq, d => by
    rw [List.pairwise_cons] at s
    rcases List.mem_cons.mp hp with e | h1
    · rcases List.mem_cons.mp hq with e' | h2
      · rw [e, e']
      · have := s.1 q h2; have := d.2; rw [e] at this; omega
    · rcases List.mem_cons.mp hq with e' | h2
      · have := s.1 p h1; have := d.1; rw [e'] at this; omega
      · exact chain_eq s.2 h1 h2 d
theorem dom.trans {p q r : PP} (a : dom p q) (b : dom q r) : dom p r := ⟨Int.le_trans a.1 b.1, Int.le_trans a.2 b.2⟩
theorem dom.refl (p : PP) : dom p p := ⟨Int.le_refl _, Int.le_refl _⟩
theorem dom.eq {p q : PP} (a : dom p q) (b : dom q p) : p = q := by
  have h1 : p.1 = q.1 := Int.le_antisymm a.1 b.1
  have h2 : p.2 = q.2 := Int.le_antisymm a.2 b.2
  exact Prod.ext h1 h2
theorem Top.le {S l l' : List PP} (a : Top S l) (b : Top S l') : ∀ p ∈ l, p ∈ l' := fun p hp => by
  obtain ⟨q, hq, d⟩ := b.dom p (a.sub p hp)
  obtain ⟨r, hr, d'⟩ := a.dom q (b.sub q hq)
  have e := chain_eq a.chain hp hr (d.trans d')
  subst e
  rw [d.eq d']; exact hq
theorem Top.unique {S l l' : List PP} (a : Top S l) (b : Top S l') : l = l' :=
  sorted_ext (a.chain.imp fun h => h.1) (b.chain.imp fun h => h.1) fun p => ⟨a.le b p, b.le a p⟩
/-- what is left of a part may stand for the part -/
theorem Top.join {S T l m : List PP} (a : Top S l) (b : Top (l ++ T) m) : Top (S ++ T) m where
  chain := b.chain
  sub := fun p hp => by
    rcases List.mem_append.mp (b.sub p hp) with h | h
    · exact List.mem_append_left _ (a.sub p h)
    · exact List.mem_append_right _ h
  dom := fun p hp => by
    rcases List.mem_append.mp hp with h | h
    · obtain ⟨q, hq, d⟩ := a.dom p h
      obtain ⟨r, hr, d'⟩ := b.dom q (List.mem_append_left _ hq)
      exact ⟨r, hr, d.trans d'⟩
    · exact b.dom p (List.mem_append_right _ h)
def shift (by_ : Int) (p : PP) : PP := (p.1, p.2 + by_)
theorem Top.shift {S l : List PP} (k : Int) (a : Top S l) : Top (S.map (shift k)) (l.map (shift k)) where
  chain := by
    rw [List.pairwise_map]
    exact a.chain.imp fun h => ⟨h.1, by have := h.2; simp only [Pu.shift]; omega⟩
  sub := fun p hp => by
    obtain ⟨q, hq, rfl⟩ := List.mem_map.mp hp
    exact List.mem_map_of_mem (a.sub q hq)
  dom := fun p hp => by
    obtain ⟨q, hq, rfl⟩ := List.mem_map.mp hp
    obtain ⟨r, hr, d⟩ := a.dom q hq
    exact ⟨Pu.shift k r, List.mem_map_of_mem hr, d.1, by have := d.2; simp only [Pu.shift]; omega⟩
/-- the scan: from the greatest threshold on, those with more behind them than the last one -/
def put (p : PP) : List PP → List PP
  | [] => [p]
  | q :: acc => if q.2 < p.2 then p :: q :: acc else q :: acc
def scan : List PP → List PP → List PP
  | acc, [] => acc
  | acc, p :: r => scan (put p acc) r
theorem scan_top : ∀ (r acc S : List PP), Top S acc → (∀ p ∈ r, ∀ q ∈ S, p.1 < q.1 ∨ (p.1 = q.1 ∧ p.2 ≤ q.2)) → r.Pairwise (fun p q => q.1 < p.1 ∨ (q.1 = p.1 ∧ q.2 ≤ p.2)) → Top (S ++ r) (scan acc r)
  | [], acc, S, h, _, _ => by simpa [scan] using h
  | p :: r, acc, S, h, hs, hp => by
    rw [List.pairwise_cons] at hp
    have step : Top (S ++ [p]) (put p acc) := by
      cases acc with
      | nil =>
        have e : S = [] := by
          cases S with
          | nil => rfl
          | cons s S => obtain ⟨q, hq, _⟩ := h.dom s List.mem_cons_self; cases hq
        subst e
        exact ⟨List.pairwise_cons.mpr ⟨(fun _ h => nomatch h), .nil⟩, fun q hq => hq, fun q hq => ⟨q, hq, dom.refl _⟩⟩
      | cons q acc =>
        show Top (S ++ [p]) (if q.2 < p.2 then p :: q :: acc else q :: acc)
        have hq := hs p List.mem_cons_self q (h.sub q List.mem_cons_self)
        have hc := List.pairwise_cons.mp h.chain
        split
        · rename_i lt
          have lt1 : p.1 < q.1 := by rcases hq with h | h <;> omega
          refine ⟨List.pairwise_cons.mpr ⟨fun r hr => ?_, h.chain⟩, fun r hr => ?_, fun r hr => ?_⟩
          · rcases List.mem_cons.mp hr with rfl | hr
            · exact ⟨lt1, lt⟩
            · have := hc.1 r hr; exact ⟨by omega, by omega⟩
          · rcases List.mem_cons.mp hr with rfl | hr
            · exact List.mem_append_right _ List.mem_cons_self
            · exact List.mem_append_left _ (h.sub r hr)
          · rcases List.mem_append.mp hr with hr | hr
            · obtain ⟨t, ht, d⟩ := h.dom r hr
              exact ⟨t, List.mem_cons_of_mem _ ht, d⟩
            · rw [List.mem_singleton] at hr; subst hr
              exact ⟨r, List.mem_cons_self, dom.refl _⟩
        · rename_i nl
          refine ⟨h.chain, fun r hr => List.mem_append_left _ (h.sub r hr), fun r hr => ?_⟩
          rcases List.mem_append.mp hr with hr | hr
          · exact h.dom r hr
          · rw [List.mem_singleton] at hr; subst hr
            exact ⟨q, List.mem_cons_self, by rcases hq with h | h <;> omega, by omega⟩
    have := scan_top r _ (S ++ [p]) step (fun a ha b hb => ?_) hp.2
    · simpa [scan] using this
    · rcases List.mem_append.mp hb with hb | hb
      · exact hs a (List.mem_cons_of_mem _ ha) b hb
      · rw [List.mem_singleton] at hb; subst hb
        exact hp.1 a ha
theorem Top.perm {S T l : List PP} (h : Top S l) (e : ∀ p, p ∈ S ↔ p ∈ T) : Top T l := ⟨h.chain, fun p hp => (e p).mp (h.sub p hp), fun p hp => h.dom p ((e p).mpr hp)⟩
theorem Top.nil : Top [] [] := ⟨.nil, (fun _ h => nomatch h), (fun _ h => nomatch h)⟩
end Pu
namespace Pu
/-! ### stacks, the top first: numbers and runs -/
def addR (n : Int) : List PP → List PP
  | [] => [(n, 1)]
  | (m, c) :: r => if m = n then (m, c + 1) :: r else (n, 1) :: (m, c) :: r
def runsT : List Int → List PP
  | [] => []
  | n :: r => addR n (runsT r)
def pop1 : List PP → List PP
  | [] => []
  | (m, c) :: r => if 1 < c then (m, c - 1) :: r else r
def popN : Nat → List PP → List PP
  | 0, r => r
  | k + 1, r => popN k (pop1 r)
def Pos (R : List PP) : Prop := ∀ p ∈ R, 1 ≤ p.2
theorem addR_pos {n : Int} {R : List PP} (h : Pos R) : Pos (addR n R) := by
  cases R with
  | nil => intro p hp; rw [addR, List.mem_singleton] at hp; subst hp; exact Int.le_refl _
  | cons q r =>
    obtain ⟨m, c⟩ := q
    have hc : 1 ≤ c := h (m, c) List.mem_cons_self
    intro p hp
    simp only [addR] at hp
    split at hp
    · rcases List.mem_cons.mp hp with e | hp
      · rw [e]; show 1 ≤ c + 1; omega
      · exact h p (List.mem_cons_of_mem _ hp)
    · rcases List.mem_cons.mp hp with e | hp
      · rw [e]; exact Int.le_refl _
      · exact h p hp
theorem runsT_pos : ∀ T : List Int, Pos (runsT T)
  | [] => fun _ h => nomatch h
  | _ :: r => addR_pos (runsT_pos r)
theorem pop1_addR {n : Int} {R : List PP} (h : Pos R) : pop1 (addR n R) = R := by
  cases R with
  | nil => simp [addR, pop1]
  | cons q r =>
    obtain ⟨m, c⟩ := q
    have hc : 1 ≤ c := h (m, c) List.mem_cons_self
    simp only [addR]
    split
    · simp only [pop1]; rw [if_pos (by omega)]; simp
    · simp only [pop1]; rw [if_neg (by omega)]
theorem pop1_runs (n : Int) (T : List Int) : pop1 (runsT (n :: T)) = runsT T := pop1_addR (runsT_pos T)
theorem popN_runs : ∀ (k : Nat) (T : List Int), popN k (runsT T) = runsT (T.drop k)
  | 0, _ => rfl
  | k + 1, [] => by
    show popN k [] = []
    have := popN_runs k []
    simpa [runsT] using this
  | k + 1, n :: T => by
    show popN k (pop1 (runsT (n :: T))) = _
    rw [pop1_runs]; exact popN_runs k T
def size (R : List PP) : Int := (R.map (·.2)).sum
theorem size_addR (n : Int) (R : List PP) : size (addR n R) = size R + 1 := by
  cases R with
  | nil => simp [addR, size]
  | cons q r =>
    obtain ⟨m, c⟩ := q
    simp only [addR]
    split <;> simp [size] <;> omega
theorem size_runs : ∀ T : List Int, size (runsT T) = T.length
  | [] => rfl
  | n :: T => by
    show size (addR n (runsT T)) = _
    rw [size_addR, size_runs T]; simp
/-- a whole run off, a part of it off -/
theorem popN_part : ∀ (j : Nat) (n c : Int) (R : List PP), (j : Int) < c → popN j ((n, c) :: R) = (n, c - j) :: R
  | 0, n, c, R, h => by simp [popN]
  | j + 1, n, c, R, h => by
    show popN j (pop1 ((n, c) :: R)) = _
    simp only [pop1]
    rw [if_pos (by omega), popN_part j n (c - 1) R (by omega)]
    congr 2; omega
theorem popN_add : ∀ (i j : Nat) (R : List PP), popN (i + j) R = popN j (popN i R)
  | 0, j, R => by rw [Nat.zero_add]; rfl
  | i + 1, j, R => by
    rw [Nat.add_right_comm]
    exact popN_add i j (pop1 R)
theorem popN_whole (n : Int) (m : Nat) (R : List PP) (h : 1 ≤ m) : popN m ((n, (m : Int)) :: R) = R := by
  have e : m = (m - 1) + 1 := by omega
  rw [e, popN_add, popN_part (m - 1) n _ R (by omega)]
  show popN 0 (pop1 _) = R
  simp only [popN, pop1]
  rw [if_neg (by omega)]
def below (n : Int) (R : List PP) : Int := ((R.filter fun p => decide (p.1 < n)).map (·.2)).sum
/-- a stack that never rises: from the top on the numbers do not fall -/
def Never (T : List Int) : Prop := T.Pairwise fun a b => a ≤ b
theorem below_addR (n m : Int) (R : List PP) : below n (addR m R) = below n R + (if m < n then 1 else 0) := by
  cases R with
  | nil => by_cases h : m < n <;> simp [addR, below, h]
  | cons q r =>
    obtain ⟨k, c⟩ := q
    simp only [addR]
    split
    · rename_i e
      subst e
      by_cases h : k < n <;> simp [below, h] <;> omega
    · by_cases h : m < n <;> by_cases h' : k < n <;> simp [below, h, h'] <;> omega
theorem below_runs (n : Int) : ∀ T : List Int, below n (runsT T) = ((T.filter fun m => decide (m < n)).length : Int)
  | [] => rfl
  | m :: T => by
    show below n (addR m (runsT T)) = _
    rw [below_addR, below_runs n T]
    by_cases h : m < n <;> simp [h]
theorem drop_below (n : Int) : ∀ T : List Int, Never T → T.drop (T.filter fun m => decide (m < n)).length = T.dropWhile fun m => decide (m < n)
  | [], _ => rfl
  | m :: T, h => by
    have hp := List.pairwise_cons.mp h
    by_cases hm : m < n
    · simp [hm, drop_below n T hp.2]
    · have e : T.filter (fun m => decide (m < n)) = [] := by
        rw [List.filter_eq_nil_iff]
        intro a ha
        have := hp.1 a ha
        simp; omega
      simp [hm, e]
end Pu
namespace Pu
/-! ### runs on runs; runs and their numbers -/
def joinR : List PP → List PP → List PP
  | [], R => R
  | [p], [] => [p]
  | [p], q :: R => if p.1 = q.1 then (q.1, q.2 + p.2) :: R else p :: q :: R
  | p :: q :: r, R => p :: joinR (q :: r) R
theorem joinR_nil : ∀ U : List PP, joinR U [] = U
  | [] => rfl
  | [p] => rfl
  | p :: q :: r => by rw [joinR, joinR_nil]
theorem addR_ne {n : Int} {R : List PP} : addR n R ≠ [] := by
  cases R with
  | nil => simp [addR]
  | cons q r => obtain ⟨m, c⟩ := q; simp only [addR]; split <;> simp
theorem addR_join (n : Int) : ∀ (U R : List PP), U ≠ [] → addR n (joinR U R) = joinR (addR n U) R
  | [], _, h => absurd rfl h
  | [(m, c)], [], _ => by
    simp only [joinR, addR]
    split <;> simp [joinR]
  | [(m, c)], (k, d) :: R, _ => by
    by_cases h1 : m = k
    · subst h1
      by_cases h2 : m = n
      · subst h2; simp [joinR, addR]; omega
      · have h3 : ¬ n = m := fun e => h2 e.symm
        simp [joinR, addR, h2, h3]
    · by_cases h2 : m = n
      · subst h2; simp [joinR, addR, h1]
      · simp [joinR, addR, h1, h2]
  | (m, c) :: q :: r, R, _ => by
    by_cases h2 : m = n
    · subst h2; simp [joinR, addR]
    · simp [joinR, addR, h2]
theorem runsT_ne {T : List Int} (h : T ≠ []) : runsT T ≠ [] := by
  cases T with
  | nil => exact absurd rfl h
  | cons n T => exact addR_ne
theorem runsT_nil_iff {T : List Int} : runsT T = [] ↔ T = [] := ⟨fun h => by
  cases T with
  | nil => rfl
  | cons n T => exact absurd h addR_ne, fun h => by subst h; rfl⟩
theorem runsT_app : ∀ U T : List Int, runsT (U ++ T) = joinR (runsT U) (runsT T)
  | [], T => rfl
  | [n], T => by
    show addR n (runsT T) = joinR (addR n []) (runsT T)
    generalize runsT T = R
    cases R with
    | nil => rfl
    | cons q r =>
      obtain ⟨m, c⟩ := q
      simp only [addR, joinR]
      by_cases h : m = n
      · subst h; simp
      · have : ¬ n = m := fun e => h e.symm
        simp [h, this]
  | n :: m :: U, T => by
    show addR n (runsT (m :: U ++ T)) = joinR (addR n (runsT (m :: U))) (runsT T)
    rw [runsT_app (m :: U) T]
    exact addR_join n _ _ (runsT_ne (by simp))
def flatT : List PP → List Int
  | [] => []
  | (n, c) :: r => List.replicate c.toNat n ++ flatT r
theorem flat_addR (n : Int) (R : List PP) (h : Pos R) : flatT (addR n R) = n :: flatT R := by
  cases R with
  | nil => simp [addR, flatT]
  | cons q r =>
    obtain ⟨m, c⟩ := q
    have hc : 1 ≤ c := h (m, c) List.mem_cons_self
    simp only [addR]
    split
    · rename_i e; subst e
      have : (c + 1).toNat = c.toNat + 1 := by omega
      simp [flatT, this, List.replicate_succ]
    · simp [flatT]
theorem flat_runs : ∀ T : List Int, flatT (runsT T) = T
  | [] => rfl
  | n :: T => by rw [runsT, flat_addR n _ (runsT_pos T), flat_runs T]
theorem runsT_inj {T U : List Int} (h : runsT T = runsT U) : T = U := by rw [← flat_runs T, h, flat_runs]
/-- neighbouring runs differ -/
def Apart : List PP → Prop
  | [] => True
  | [_] => True
  | p :: q :: r => p.1 ≠ q.1 ∧ Apart (q :: r)
theorem runs_rep (n : Int) : ∀ (k : Nat) (T : List Int), 0 < k → (∀ c r, runsT T = (n, c) :: r → False) → runsT (List.replicate k n ++ T) = (n, (k : Int)) :: runsT T
  | 0, _, h, _ => absurd h (by omega)
  | 1, T, _, h => by
    show addR n (runsT T) = _
    generalize e : runsT T = R
    cases R with
    | nil => rfl
    | cons q r =>
      obtain ⟨m, c⟩ := q
      have : ¬ m = n := fun z => h c r (by rw [e, z])
      simp [addR, this]
  | k + 2, T, _, h => by
    show addR n (runsT (List.replicate (k + 1) n ++ T)) = _
    rw [runs_rep n (k + 1) T (by omega) h]
    simp [addR]; omega
theorem runs_flat : ∀ R : List PP, Pos R → Apart R → runsT (flatT R) = R
  | [], _, _ => rfl
  | (n, c) :: r, hp, ha => by
    have hc : 1 ≤ c := hp (n, c) List.mem_cons_self
    have hr : Pos r := fun p h => hp p (List.mem_cons_of_mem _ h)
    have hra : Apart r := by
      cases r with
      | nil => trivial
      | cons q r => exact ha.2
    have ih := runs_flat r hr hra
    show runsT (List.replicate c.toNat n ++ flatT r) = _
    rw [runs_rep n c.toNat (flatT r) (by omega) fun d s e => ?_, ih]
    · congr 2; omega
    · rw [ih] at e
      subst e
      exact ha.1 rfl
theorem runs_one (n : Int) (k : Nat) (h : 0 < k) : runsT (List.replicate k n) = [(n, (k : Int))] := by
  have := runs_rep n k [] h (fun c r e => by cases e)
  simpa [runsT] using this
/-- from the top on the runs' numbers rise -/
def RiseR (R : List PP) : Prop := R.Pairwise fun p q => p.1 < q.1
theorem RiseR.apart : ∀ {R : List PP}, RiseR R → Apart R
  | [], _ => trivial
  | [_], _ => trivial
  | p :: q :: r, h => by
    have h' := List.pairwise_cons.mp h
    exact ⟨by have := h'.1 q List.mem_cons_self; omega, RiseR.apart h'.2⟩
theorem mem_flat : ∀ {R : List PP} {x : Int}, x ∈ flatT R → ∃ p ∈ R, p.1 = x
  | [], x, h => by cases h
  | (n, c) :: r, x, h => by
    rcases List.mem_append.mp h with h | h
    · exact ⟨(n, c), List.mem_cons_self, (List.eq_of_mem_replicate h).symm⟩
    · obtain ⟨p, hp, e⟩ := mem_flat h
      exact ⟨p, List.mem_cons_of_mem _ hp, e⟩
theorem never_flat : ∀ {R : List PP}, RiseR R → Never (flatT R)
  | [], _ => .nil
  | (n, c) :: r, h => by
    have h' := List.pairwise_cons.mp h
    refine List.pairwise_append.mpr ⟨?_, never_flat h'.2, fun a ha b hb => ?_⟩
    · exact List.pairwise_replicate.mpr (.inr (Int.le_refl _))
    · obtain ⟨p, hp, rfl⟩ := mem_flat hb
      rw [List.eq_of_mem_replicate ha]
      have := h'.1 p hp
      show n ≤ p.1
      have : n < p.1 := this
      omega
theorem mem_addR {n : Int} {R : List PP} {p : PP} (h : p ∈ addR n R) : p.1 = n ∨ ∃ q ∈ R, q.1 = p.1 := by
  cases R with
  | nil => simp [addR] at h; subst h; exact .inl rfl
  | cons q r =>
    obtain ⟨m, c⟩ := q
    simp only [addR] at h
    split at h
    · rename_i e
      rcases List.mem_cons.mp h with h | h
      · subst h; exact .inl e
      · exact .inr ⟨p, List.mem_cons_of_mem _ h, rfl⟩
    · rcases List.mem_cons.mp h with h | h
      · subst h; exact .inl rfl
      · exact .inr ⟨p, h, rfl⟩
theorem mem_runs : ∀ {T : List Int} {p : PP}, p ∈ runsT T → p.1 ∈ T
  | [], p, h => by cases h
  | n :: T, p, h => by
    rcases mem_addR h with e | ⟨q, hq, e⟩
    · rw [e]; exact List.mem_cons_self
    · rw [← e]; exact List.mem_cons_of_mem _ (mem_runs hq)
theorem runs_head {n : Int} {T : List Int} : ∃ c r, runsT (n :: T) = (n, c) :: r := by
  show ∃ c r, addR n (runsT T) = _
  cases runsT T with
  | nil => exact ⟨1, [], rfl⟩
  | cons q r =>
    obtain ⟨m, c⟩ := q
    simp only [addR]
    split
    · rename_i e; subst e; exact ⟨_, _, rfl⟩
    · exact ⟨_, _, rfl⟩
theorem never_rise : ∀ {T : List Int}, Never T → RiseR (runsT T)
  | [], _ => .nil
  | [n], _ => List.pairwise_singleton _ _
  | n :: m :: T, h => by
    have h' := List.pairwise_cons.mp h
    have ih := never_rise h'.2
    obtain ⟨c, r, e⟩ := runs_head (n := m) (T := T)
    have lt : ∀ p ∈ runsT (m :: T), n ≤ p.1 := fun p hp => h'.1 _ (mem_runs hp)
    show RiseR (addR n (runsT (m :: T)))
    rw [e] at ih lt ⊢
    simp only [addR]
    have ih' := List.pairwise_cons.mp ih
    split
    · rename_i e; subst e
      exact List.pairwise_cons.mpr ⟨fun p hp => ih'.1 p hp, ih'.2⟩
    · rename_i ne
      refine List.pairwise_cons.mpr ⟨fun p hp => ?_, ih⟩
      have : n ≤ m := lt (m, c) List.mem_cons_self
      rcases List.mem_cons.mp hp with e | hp
      · rw [e]; show n < m; omega
      · have : m < p.1 := ih'.1 p hp
        show n < p.1; omega
theorem rise_never {T : List Int} (h : RiseR (runsT T)) : Never T := by rw [← flat_runs T]; exact never_flat h
/-- the number at the bottom; that on top -/
theorem runs_last : ∀ {T : List Int} {n : Int}, T.getLast? = some n → ∃ c Q, runsT T = Q ++ [(n, c)]
  | [], n, h => by cases h
  | [m], n, h => by simp at h; subst h; exact ⟨1, [], rfl⟩
  | m :: k :: T, n, h => by
    obtain ⟨c, Q, e⟩ := runs_last (T := k :: T) (n := n) (by simpa [List.getLast?_cons_cons] using h)
    show ∃ c Q, addR m (runsT (k :: T)) = _
    rw [e]
    cases Q with
    | nil =>
      simp only [List.nil_append, addR]
      split
      · exact ⟨_, [], rfl⟩
      · exact ⟨c, [(m, 1)], rfl⟩
    | cons q Q =>
      obtain ⟨a, b⟩ := q
      simp only [List.cons_append, addR]
      split
      · exact ⟨c, (a, b + 1) :: Q, rfl⟩
      · exact ⟨c, (m, 1) :: (a, b) :: Q, rfl⟩
theorem runs_len_le : ∀ T : List Int, (runsT T).length ≤ T.length
  | [] => Nat.le_refl _
  | n :: T => by
    have ih := runs_len_le T
    show (addR n (runsT T)).length ≤ _
    cases e : runsT T with
    | nil => simp [addR]
    | cons q r =>
      obtain ⟨m, c⟩ := q
      rw [e] at ih
      simp only [addR]
      split <;> simp at * <;> omega
end Pu
namespace Qa
open PySem PySem.Spec PyProof.Rows L2 Evl Mi Pg Pu
/-! ### general -/
@[simp] theorem put_n1 {Γ : Ga} {a : Sl} : putBack Γ [none] [a] = Γ := putBack1
@[simp] theorem put_n2 {Γ : Ga} {a b : Sl} : putBack Γ [none, none] [a, b] = Γ := putBack0
theorem putB_none3 {a b c s : Sl} {i : Nat} : putB [none, none, none] [a, b, c] i s = s := by cases s <;> rfl
@[simp] theorem put_n3 {Γ : Ga} {a b c : Sl} : putBack Γ [none, none, none] [a, b, c] = Γ := by
  unfold putBack
  apply List.ext_getElem (by simp)
  intro i h1 h2
  simp [putB_none3]
@[simp] theorem put_n0 {Γ : Ga} : putBack Γ [] [] = Γ := by
  unfold putBack
  apply List.ext_getElem (by simp)
  intro i h1 h2
  have : ∀ s, putB [] [] i s = s := fun s => by cases s <;> rfl
  simp [this]
/-- an owned list is another one now -/
def owned : Nat → List D → Ga → Ga
  | _, _, [] => []
  | 0, ys, .own b _ :: r => .own b ys :: r
  | 0, _, s :: r => s :: r
  | i + 1, ys, s :: r => s :: owned i ys r
@[simp] theorem owned_nil {i : Nat} {ys : List D} : owned i ys [] = [] := by cases i <;> rfl
@[simp] theorem owned_0 {b : Bool} {xs ys : List D} {r : Ga} : owned 0 ys (.own b xs :: r) = .own b ys :: r := rfl
@[simp] theorem owned_s {i : Nat} {ys : List D} {s : Sl} {r : Ga} : owned (i + 1) ys (s :: r) = s :: owned i ys r := by cases s <;> rfl
theorem owned_len : ∀ (i : Nat) (ys : List D) (Γ : Ga), (owned i ys Γ).length = Γ.length
  | 0, ys, [] => rfl
  | 0, ys, s :: r => by cases s <;> rfl
  | i + 1, ys, [] => rfl
  | i + 1, ys, s :: r => by rw [owned_s, List.length_cons, owned_len i ys r, List.length_cons]
theorem owned_get : ∀ (i j : Nat) (ys : List D) (Γ : Ga), (owned i ys Γ)[j]? = (Γ[j]?).map fun s => match s with | .own b xs => if i = j then .own b ys else .own b xs | s => s
  | 0, 0, ys, [] => rfl
  | 0, j + 1, ys, [] => rfl
  | i + 1, j, ys, [] => by simp
  | 0, 0, ys, s :: r => by cases s <;> simp [owned]
  | 0, j + 1, ys, s :: r => by
    cases s <;> simp only [owned, List.getElem?_cons_succ] <;> (cases r[j]? with
      | none => rfl
      | some s => cases s <;> simp)
  | i + 1, 0, ys, s :: r => by cases s <;> simp
  | i + 1, j + 1, ys, s :: r => by
    rw [owned_s, List.getElem?_cons_succ, owned_get i j ys r, List.getElem?_cons_succ]
    simp
theorem put_own {Γ : Ga} {i : Nat} {ks : List (Option Nat)} {ys : List D} {os : Ga} (h : ∀ (j : Nat) s, putB (some i :: ks) (.own true ys :: os) j s = match s with | .own b xs => if i = j then .own b ys else .own b xs | s => s) : putBack Γ (some i :: ks) (.own true ys :: os) = owned i ys Γ := by
  unfold putBack
  apply List.ext_getElem?
  intro j
  rw [owned_get, List.getElem?_mapIdx]
  congr 1
  funext s
  exact h j s
@[simp] theorem put_o1 {Γ : Ga} {i : Nat} {ys : List D} : putBack Γ [some i] [.own true ys] = owned i ys Γ := put_own fun j s => by
  cases s <;> simp [putB, refAt]
  split <;> rfl
@[simp] theorem put_o2 {Γ : Ga} {i : Nat} {ys : List D} {a : Sl} : putBack Γ [some i, none] [.own true ys, a] = owned i ys Γ := put_own fun j s => by
  cases s <;> simp [putB, refAt]
  split <;> rfl
@[simp] theorem put_o3 {Γ : Ga} {i : Nat} {ys : List D} {a b : Sl} : putBack Γ [some i, none, none] [.own true ys, a, b] = owned i ys Γ := put_own fun j s => by
  cases s <;> simp [putB, refAt]
  split <;> rfl
@[simp] theorem put_o4 {Γ : Ga} {i : Nat} {ys : List D} {a b c : Sl} : putBack Γ [some i, none, none, none] [.own true ys, a, b, c] = owned i ys Γ := put_own fun j s => by
  cases s <;> simp [putB, refAt]
  split <;> rfl
@[simp] theorem put_s2 {Γ : Ga} {i : Nat} {ns : List Int} {a : Sl} : putBack Γ [some i, none] [.scr ns, a] = Γ := by
  have hb : ∀ (j : Nat) (s : Sl), putB [some i, none] [.scr ns, a] j s = s := fun j s => by cases s <;> rfl
  unfold putBack
  apply List.ext_getElem (by simp)
  intro j h1 h2
  simp [hb]
/-! loops -/
theorem forL_fold {σ α τ : Type} (st : σ → τ → Ga) (f : α → D) (step : σ → α → σ) (P : Nat → σ → Prop) {g : D → Ga → Option Ga} {b : Ga → Res (Ga × Fl)} (N : Nat) : ∀ (xs : List α) (i : Nat) (s : σ) (t : τ), i + xs.length = N → P i s →
    (∀ i s t x, x ∈ xs → i < N → P i s → (∃ Γ1 t', g (f x) (st s t) = some Γ1 ∧ b Γ1 = .ok (st (step s x) t', .nx)) ∧ P (i + 1) (step s x)) → ∃ t', forL g b (xs.map f) (st s t) = .ok (st (xs.foldl step s) t', .nx) ∧ P N (xs.foldl step s)
  | [], i, s, t, hN, hp, _ => ⟨t, rfl, by rw [← hN]; exact hp⟩
  | x :: xs, i, s, t, hN, hp, h => by
    rw [List.length_cons] at hN
    obtain ⟨⟨Γ1, t1, e1, e2⟩, hp'⟩ := h i s t x List.mem_cons_self (by omega) hp
    obtain ⟨t2, e3, hp2⟩ := forL_fold st f step P N xs (i + 1) (step s x) t1 (by omega) hp' fun i s t y hy => h i s t y (List.mem_cons_of_mem _ hy)
    exact ⟨t2, by rw [List.map_cons, forL_nx e1 e2, e3]; rfl, hp2⟩
theorem sFor_fold {σ α τ : Type} (st : σ → τ → Ga) (f : α → D) (step : σ → α → σ) (P : Nat → σ → Prop) {it : Ga → Res (Ga × List D)} {g : D → Ga → Option Ga} {b : Ga → Res (Ga × Fl)} {Γ : Ga} {xs : List α} {s : σ} (t : τ) (hit : it Γ = .ok (st s t, xs.map f)) (hp : P 0 s)
    (h : ∀ i s t x, x ∈ xs → i < xs.length → P i s → (∃ Γ1 t', g (f x) (st s t) = some Γ1 ∧ b Γ1 = .ok (st (step s x) t', .nx)) ∧ P (i + 1) (step s x)) : ∃ t', sFor it g b Γ = .ok (st (xs.foldl step s) t', .nx) ∧ P xs.length (xs.foldl step s) := by
  obtain ⟨t', e, p⟩ := forL_fold st f step P xs.length xs 0 s t (by omega) hp h
  refine ⟨t', ?_, p⟩
  unfold sFor
  rw [hit]
  exact e
theorem sLc_map {α : Type} (f F : α → D) {it : Ga → Res (Ga × List D)} {g : D → Ga → Option Ga} {te : Ga → Res (Ga × D)} {vs : List Nat} {Γ : Ga} {xs : List α} (hit : it Γ = .ok (Γ, xs.map f)) (hw : wipeG Γ vs = Γ)
    (h : ∀ x ∈ xs, ∃ Γ1, g (f x) Γ = some Γ1 ∧ te Γ1 = .ok (Γ1, F x) ∧ wipeG Γ1 vs = Γ) (hl : xs.length ≤ 16777216) : sLc it g sYes te vs Γ = .ok (Γ, .f (xs.map F)) := by
  unfold sLc
  rw [hit]
  simp only [bind_ok, hw, lcL_mapM xs h, List.length_map, z_szle, if_pos hl, unwipe_same]
theorem sLc_filt {α : Type} (f F : α → D) (P : α → Bool) {it : Ga → Res (Ga × List D)} {g : D → Ga → Option Ga} {tt : Ga → Res (Ga × Bool)} {te : Ga → Res (Ga × D)} {vs : List Nat} {Γ : Ga} {xs : List α} (hit : it Γ = .ok (Γ, xs.map f)) (hw : wipeG Γ vs = Γ)
    (h : ∀ x ∈ xs, ∃ Γ1, g (f x) Γ = some Γ1 ∧ tt Γ1 = .ok (Γ1, P x) ∧ te Γ1 = .ok (Γ1, F x) ∧ wipeG Γ1 vs = Γ) (hl : xs.length ≤ 16777216) : sLc it g tt te vs Γ = .ok (Γ, .f ((xs.filter P).map F)) := by
  unfold sLc
  rw [hit]
  have hl' : ((xs.filter P).map F).length ≤ 16777216 := by
    rw [List.length_map]
    exact Nat.le_trans (List.length_filter_le _ _) hl
  simp only [bind_ok, hw, lcL_filterM xs h, z_szle, if_pos hl', unwipe_same]
/-! data without truth values -/
mutual
def fl : Nat → D → Bool
  | _, .none => true
  | _, .int _ => true
  | _, .str s => PyData.strOk s
  | n + 1, .list xs => flAll n xs
  | n + 1, .tuple xs => flAll n xs
  | _, _ => false
def flAll : Nat → List D → Bool
  | _, [] => true
  | n, x :: xs => fl n x && flAll n xs
end
@[simp] theorem fl_int {n : Nat} {i : Int} : fl n (.int i) = true := by cases n <;> simp [fl]
@[simp] theorem fl_none {n : Nat} : fl n .none = true := by cases n <;> simp [fl]
@[simp] theorem fl_tup {n : Nat} {xs : List D} : fl (n + 1) (.tuple xs) = flAll n xs := by simp [fl]
@[simp] theorem fl_lst {n : Nat} {xs : List D} : fl (n + 1) (.list xs) = flAll n xs := by simp [fl]
@[simp] theorem flAll_nil {n : Nat} : flAll n [] = true := by simp [flAll]
@[simp] theorem flAll_cons {n : Nat} {x : D} {xs : List D} : flAll n (x :: xs) = (fl n x && flAll n xs) := by simp [flAll]
theorem flAll_iff {n : Nat} : ∀ {xs : List D}, flAll n xs = true ↔ ∀ x ∈ xs, fl n x = true
  | [] => by simp
  | x :: xs => by simp [flAll_iff (xs := xs)]
theorem flAll_map {α : Type} {n : Nat} {f : α → D} {xs : List α} (h : ∀ x ∈ xs, fl n (f x) = true) : flAll n (xs.map f) = true := flAll_iff.mpr fun y hy => by
  obtain ⟨x, hx, rfl⟩ := List.mem_map.mp hy
  exact h x hx
mutual
theorem fl_lay : ∀ (n : Nat) (x : D), fl n x = true → PyData.canLay0 x = true ∧ x.depth ≤ n
  | n, .none, _ => by simp [PyData.canLay0, PyData.depth]
  | n, .int i, _ => by simp [PyData.canLay0, PyData.depth]
  | n, .str s, h => by
    have : PyData.strOk s = true := by cases n <;> simpa [fl] using h
    simp [PyData.canLay0, PyData.depth, this]
  | n, .bool b, h => by cases n <;> simp [fl] at h
  | n, .dict b, h => by cases n <;> simp [fl] at h
  | 0, .list xs, h => by simp [fl] at h
  | 0, .tuple xs, h => by simp [fl] at h
  | n + 1, .list xs, h => by
    obtain ⟨h1, h2⟩ := fl_layAll n xs (by simpa using h)
    simp only [PyData.canLay0, PyData.depth, h1]
    exact ⟨trivial, by omega⟩
  | n + 1, .tuple xs, h => by
    obtain ⟨h1, h2⟩ := fl_layAll n xs (by simpa using h)
    simp only [PyData.canLay0, PyData.depth, h1]
    exact ⟨trivial, by omega⟩
theorem fl_layAll : ∀ (n : Nat) (xs : List D), flAll n xs = true → PyData.canLayAll0 xs = true ∧ PyData.depthAll xs ≤ n
  | n, [], _ => by simp [PyData.canLayAll0, PyData.depthAll]
  | n, x :: xs, h => by
    rw [flAll_cons, Bool.and_eq_true] at h
    obtain ⟨h1, h2⟩ := fl_lay n x h.1
    obtain ⟨h3, h4⟩ := fl_layAll n xs h.2
    simp only [PyData.canLayAll0, PyData.depthAll, h1, h3]
    exact ⟨rfl, by omega⟩
end
theorem fl_shaped {x : D} (h : fl 60 x = true) : SeqAt.shaped x = true := by
  obtain ⟨h1, h2⟩ := fl_lay 60 x h
  unfold SeqAt.shaped
  simp only [h1, Bool.true_and, decide_eq_true_eq]
  omega
mutual
theorem eqv_fl : ∀ (n m : Nat) (x y : D), fl n x = true → fl m y = true → (PyData.eqv x y = true ↔ x = y)
  | n, m, .none, y, _, h => by cases y <;> simp [PyData.eqv]
  | n, m, .int i, y, _, h => by cases y <;> cases m <;> simp [PyData.eqv, fl] at h ⊢
  | n, m, .str s, y, _, h => by cases y <;> simp [PyData.eqv]
  | n, m, .bool b, y, h, _ => by cases n <;> simp [fl] at h
  | n, m, .dict b, y, h, _ => by cases n <;> simp [fl] at h
  | 0, m, .list xs, y, h, _ => by simp [fl] at h
  | 0, m, .tuple xs, y, h, _ => by simp [fl] at h
  | n + 1, m, .list xs, y, h, h' => by
    cases y with
    | list ys =>
      cases m with
      | zero => simp [fl] at h'
      | succ m =>
        have := eqv_flAll n m xs ys (by simpa using h) (by simpa using h')
        simp [PyData.eqv, this]
    | _ => simp [PyData.eqv]
  | n + 1, m, .tuple xs, y, h, h' => by
    cases y with
    | tuple ys =>
      cases m with
      | zero => simp [fl] at h'
      | succ m =>
        have := eqv_flAll n m xs ys (by simpa using h) (by simpa using h')
        simp [PyData.eqv, this]
    | _ => simp [PyData.eqv]
theorem eqv_flAll : ∀ (n m : Nat) (x y : List D), flAll n x = true → flAll m y = true → (PyData.eqvAll x y = true ↔ x = y)
  | n, m, [], [], _, _ => by simp [PyData.eqvAll]
  | n, m, [], y :: ys, _, _ => by simp [PyData.eqvAll]
  | n, m, x :: xs, [], _, _ => by simp [PyData.eqvAll]
  | n, m, x :: xs, y :: ys, h, h' => by
    rw [flAll_cons, Bool.and_eq_true] at h h'
    simp [PyData.eqvAll, eqv_fl n m x y h.1 h'.1, eqv_flAll n m xs ys h.2 h'.2]
end
theorem eqG_fl {x y : D} {p : Prop} [Decidable p] (hx : fl 60 x = true) (hy : fl 60 y = true) (h : x = y ↔ p) : eqG x y = .ok (.d (.bool (decide p))) := by
  unfold eqG
  rw [fl_shaped hx, fl_shaped hy]
  simp only [Bool.and_self, if_true]
  congr 3
  have := eqv_fl 60 60 x y hx hy
  rw [h] at this
  by_cases q : p <;> simp [q] at this ⊢ <;> exact this
theorem neG_fl {x y : D} {p : Prop} [Decidable p] (hx : fl 60 x = true) (hy : fl 60 y = true) (h : x = y ↔ p) : neG x y = .ok (.d (.bool (!decide p))) := by
  unfold neG
  rw [fl_shaped hx, fl_shaped hy]
  simp only [Bool.and_self, if_true]
  congr 4
  have := eqv_fl 60 60 x y hx hy
  rw [h] at this
  by_cases q : p <;> simp [q] at this ⊢ <;> exact this
theorem eqS_fl {x y : D} {p : Prop} [Decidable p] (hx : fl 60 x = true) (hy : fl 60 y = true) (h : x = y ↔ p) : eqS x y = .ok (.d (.bool (decide p))) := by
  unfold eqS
  split
  · rename_i a b
    have h' : a = b ↔ p := by rw [← h]; simp
    rw [decide_eq_decide.mpr h']
  · exact eqG_fl hx hy h
theorem neS_fl {x y : D} {p : Prop} [Decidable p] (hx : fl 60 x = true) (hy : fl 60 y = true) (h : x = y ↔ p) : neS x y = .ok (.d (.bool (!decide p))) := by
  unfold neS
  split
  · rename_i a b
    have h' : a = b ↔ p := by rw [← h]; simp
    rw [decide_eq_decide.mpr h']
  · exact neG_fl hx hy h
@[simp] theorem eqS_int {a b : Int} : eqS (.int a) (.int b) = .ok (.d (.bool (decide (a = b)))) := eqS_fl (by simp) (by simp) (by simp)
@[simp] theorem neS_int {a b : Int} : neS (.int a) (.int b) = .ok (.d (.bool (!decide (a = b)))) := neS_fl (by simp) (by simp) (by simp)
@[simp] theorem eqS_str {a b : Str} : eqS (.str a) (.str b) = .ok (.d (.bool (decide (a = b)))) := rfl
@[simp] theorem neS_str {a b : Str} : neS (.str a) (.str b) = .ok (.d (.bool (!decide (a = b)))) := rfl
theorem eqS_same {x : D} (hx : fl 60 x = true) : eqS x x = .ok (.d (.bool true)) := by
  have := eqS_fl (x := x) (y := x) (p := True) hx hx (by simp)
  simpa using this
theorem neS_same {x : D} (hx : fl 60 x = true) : neS x x = .ok (.d (.bool false)) := by
  have := neS_fl (x := x) (y := x) (p := True) hx hx (by simp)
  simpa using this
end Qa
namespace Qa
open PySem PySem.Spec PyProof.Rows L2 Evl Mi Pg Pu
/-! ### kinds -/
@[simp] theorem isi_def {T : String} {x : D} : isiG T x = match tyD x with | some t => .ok (.d (.bool (isiB t T))) | none => .stuck := rfl
@[simp] theorem isi2_def {S T : String} {x : D} : isiG2 S T x = match tyD x with | some t => .ok (.d (.bool (isiB t S || isiB t T))) | none => .stuck := rfl
@[simp] theorem tyD_none : tyD .none = some "NoneType" := rfl
@[simp] theorem tyD_bool {b : Bool} : tyD (.bool b) = some "bool" := rfl
@[simp] theorem tyD_int {b : Int} : tyD (.int b) = some "int" := rfl
@[simp] theorem tyD_str {b : Str} : tyD (.str b) = some "str" := rfl
@[simp] theorem tyD_list {b : List D} : tyD (.list b) = some "list" := rfl
@[simp] theorem tyD_tuple {b : List D} : tyD (.tuple b) = some "tuple" := rfl
@[simp] theorem isiB_def {a b : String} : isiB a b = (a == b || (a == "bool" && b == "int")) := rfl
theorem is_integer_int (n : Int) : m_is_integer [.d (.int n)] = .ok ([.d (.int n)], .d (.bool true)) := by simp [m_is_integer, b_is_integer]
theorem is_count_int (n : Int) : m_is_count [.d (.int n)] = .ok ([.d (.int n)], .d (.bool (decide (1 ≤ n)))) := by simp [m_is_count, b_is_count, is_integer_int]
/-! ### runs as data -/
def tw (p : PP) : D := .tuple [.int p.1, .int p.2]
/-- runs, the bottom first -/
def rt (L : List PP) : D := .tuple (L.map tw)
/-- the stack of the numbers T, the top first -/
def stk (T : List Int) : D := rt (runsT T).reverse
theorem tw_inj {p q : PP} : tw p = tw q ↔ p = q := by
  simp [tw, Prod.ext_iff]
theorem rt_inj {L M : List PP} : rt L = rt M ↔ L = M := by
  simp only [rt, PyData.tuple.injEq]
  exact List.map_inj_right fun p q => by exact tw_inj.mp
theorem stk_inj {T U : List Int} : stk T = stk U ↔ T = U := by
  unfold stk
  rw [rt_inj, List.reverse_inj]
  exact ⟨runsT_inj, fun h => by rw [h]⟩
@[simp] theorem fl_tw {n : Nat} {p : PP} : fl (n + 1) (tw p) = true := by simp [tw]
@[simp] theorem fl_rt {n : Nat} {L : List PP} : fl (n + 2) (rt L) = true := by
  rw [rt, fl_tup]
  exact flAll_map fun p _ => fl_tw
@[simp] theorem fl_stk {n : Nat} {T : List Int} : fl (n + 2) (stk T) = true := fl_rt
theorem stk_nil : stk [] = .tuple [] := rfl
theorem is_run_tw (p : PP) : m_is_run [.d (tw p)] = .ok ([.d (tw p)], .d (.bool (decide (1 ≤ p.2)))) := by
  simp [m_is_run, b_is_run, tw, is_integer_int, is_count_int]
theorem boolsOf_map : ∀ bs : List Bool, boolsOf (bs.map PyData.bool) = some bs
  | [] => rfl
  | b :: r => by
    rw [List.map_cons]
    unfold boolsOf
    rw [boolsOf_map r]
    rfl
theorem allG_map {α : Type} (P : α → Bool) (xs : List α) : allG (.list (xs.map fun x => .bool (P x))) = .ok (.d (.bool (xs.all P))) := by
  have : xs.map (fun x => PyData.bool (P x)) = (xs.map P).map .bool := by simp
  rw [this]
  unfold allG
  simp only [boolsOf_map]
  rw [List.all_map]
  rfl
theorem cut_drop1 (xs : List D) : Mi.cutD xs (some 1) none = xs.tail := by
  unfold Mi.cutD
  have e : HT.sIx xs.length 0 (some 1) = min 1 xs.length := HT.sIx_nat xs.length 0 1
  rw [e, HT.sIx_none]
  cases xs with
  | nil => rfl
  | cons x r =>
    rw [show min 1 (x :: r).length = 1 by simp]
    simp
theorem pairUp_map {α : Type} (f : α → D) (xs ys : List α) : pairUp (xs.map f) (ys.map f) = (xs.zip ys).map fun p => .tuple [f p.1, f p.2] := by
  unfold pairUp
  rw [List.zip_map, List.map_map]
  rfl
theorem all_adj : ∀ L : List PP, ((L.zip L.tail).all fun z => decide (z.2.1 < z.1.1)) = true ↔ L.Pairwise fun p q => q.1 < p.1
  | [] => by simp
  | [p] => by simp
  | p :: q :: r => by
    have ih := all_adj (q :: r)
    simp only [List.tail_cons, List.zip_cons_cons, List.all_cons, Bool.and_eq_true, decide_eq_true_eq] at ih ⊢
    rw [ih]
    constructor
    · rintro ⟨h1, h2⟩
      refine List.pairwise_cons.mpr ⟨fun a ha => ?_, h2⟩
      rcases List.mem_cons.mp ha with rfl | ha
      · exact h1
      · have := (List.pairwise_cons.mp h2).1 a ha
        omega
    · intro h
      obtain ⟨h1, h2⟩ := List.pairwise_cons.mp h
      exact ⟨h1 q List.mem_cons_self, h2⟩
/-- a tuple of pairs of numbers is a stack: the counts are at least 1, the numbers fall -/
def IsSt (L : List PP) : Prop := (∀ p ∈ L, 1 ≤ p.2) ∧ L.Pairwise fun p q => q.1 < p.1
instance (L : List PP) : Decidable (IsSt L) := by unfold IsSt; infer_instance
theorem l1_is_stack_ok (L : List PP) (hl : L.length ≤ 100000) : l1_is_stack [.d (rt L), .un, .un, .un] = .ok ([.d (rt L), .un, .un, .un], .f (L.map fun p => .bool (decide (1 ≤ p.2)))) :=
  sLc_map tw _ (by simp [rt]) rfl (fun p _ => ⟨[.d (rt L), .d (tw p), .un, .un], rfl, by simp [is_run_tw], rfl⟩) (by omega)
theorem l2_is_stack_ok (L : List PP) (hl : L.length ≤ 100000) : l2_is_stack [.d (rt L), .un, .un, .un] = .ok ([.d (rt L), .un, .un, .un], .f ((L.zip L.tail).map fun z => .bool (decide (z.2.1 < z.1.1)))) :=
  sLc_map (fun z : PP × PP => .tuple [tw z.1, tw z.2]) _ (by simp [rt, cut_drop1, ← List.map_tail, pairUp_map]) rfl (fun p _ => ⟨[.d (rt L), .un, .d (tw p.1), .d (tw p.2)], by simp, by simp [tw], rfl⟩)
    (by simp; omega)
theorem is_stack_rt (L : List PP) (hl : L.length ≤ 100000) : m_is_stack [.d (rt L)] = .ok ([.d (rt L)], .d (.bool (decide (IsSt L)))) := by
  have h1 := l1_is_stack_ok L hl
  have h2 := l2_is_stack_ok L hl
  have t : tyD (rt L) = some "tuple" := rfl
  by_cases a : (∀ p ∈ L, 1 ≤ p.2)
  · have a1 : (L.all fun p => decide (1 ≤ p.2)) = true := by simpa using a
    have a2 : decide (IsSt L) = ((L.zip L.tail).all fun z => decide (z.2.1 < z.1.1)) := by
      rw [Bool.eq_iff_iff, all_adj, decide_eq_true_eq]
      exact ⟨fun h => h.2, fun h => ⟨a, h⟩⟩
    simp only [m_is_stack, b_is_stack, a2]
    simp [h1, h2, t, allG_map, a1]
  · have a1 : (L.all fun p => decide (1 ≤ p.2)) = false := by
      rw [Bool.eq_false_iff]
      intro h
      exact a (by simpa using h)
    have a2 : decide (IsSt L) = false := decide_eq_false fun h => a h.1
    simp only [m_is_stack, b_is_stack, a2]
    simp [h1, h2, t, allG_map, a1]
theorem st_runs {T : List Int} : IsSt (runsT T).reverse ↔ Never T := by
  constructor
  · intro h
    exact rise_never (List.pairwise_reverse.mp h.2)
  · intro h
    exact ⟨fun p hp => runsT_pos T p (List.mem_reverse.mp hp), List.pairwise_reverse.mpr (never_rise h)⟩
/-- few runs -/
def Few (T : List Int) : Prop := (runsT T).length ≤ 1000
theorem is_stack_stk {T : List Int} (hf : Few T) (h : Never T) : m_is_stack [.d (stk T)] = .ok ([.d (stk T)], .d (.bool true)) := by
  unfold stk
  rw [is_stack_rt _ (by unfold Few at hf; simp; omega), decide_eq_true (st_runs.mpr h)]
theorem check_stack_stk {T : List Int} (hf : Few T) (h : Never T) : m_check_stack [.d (stk T)] = .ok ([.d (stk T)], .d .none) := by
  simp [m_check_stack, b_check_stack, is_stack_stk hf h]
/-! ### size_of, count_below -/
theorem intsOf_map {α : Type} (f : α → Int) : ∀ R : List α, intsOf (R.map fun p => PyData.int (f p)) = some (R.map f)
  | [] => rfl
  | p :: R => by
    have := intsOf_map f R
    simp [intsOf, this]
theorem sum_rev (L : List Int) : L.reverse.sum = L.sum := by
  induction L with
  | nil => rfl
  | cons a L ih => rw [List.reverse_cons, List.sum_append, ih, List.sum_cons]; simp; omega
theorem size_of_rt (L : List PP) (hl : L.length ≤ 100000) : m_size_of [.d (rt L)] = .ok ([.d (rt L)], .d (.int (L.map (·.2)).sum)) := by
  have h1 : l1_size_of [.d (rt L), .un, .un] = .ok ([.d (rt L), .un, .un], .f (L.map fun p => .int p.2)) :=
    sLc_map tw _ (by simp [rt]) rfl (fun p _ => ⟨[.d (rt L), .d (.int p.1), .d (.int p.2)], by simp [tw], by simp, rfl⟩) (by omega)
  simp [m_size_of, b_size_of, h1, sumG, intsOf_map]
theorem size_of_stk {T : List Int} (hf : Few T) : m_size_of [.d (stk T)] = .ok ([.d (stk T)], .d (.int T.length)) := by
  unfold stk
  rw [size_of_rt _ (by unfold Few at hf; simp; omega), List.map_reverse, sum_rev]
  have : ((runsT T).map (·.2)).sum = T.length := size_runs T
  rw [this]
/-- how many of the numbers are below n -/
def cb (T : List Int) (n : Int) : Int := ((T.filter fun m => decide (m < n)).length : Int)
theorem count_below_rt (L : List PP) (n : Int) (hl : L.length ≤ 100000) : m_count_below [.d (rt L), .d (.int n)] = .ok ([.d (rt L), .d (.int n)], .d (.int ((L.filter fun p => decide (p.1 < n)).map (·.2)).sum)) := by
  have h1 : l1_count_below [.d (rt L), .d (.int n), .un, .un] = .ok ([.d (rt L), .d (.int n), .un, .un], .f ((L.filter fun p => decide (p.1 < n)).map fun p => .int p.2)) :=
    sLc_filt tw _ _ (by simp [rt]) rfl (fun p _ => ⟨[.d (rt L), .d (.int n), .d (.int p.1), .d (.int p.2)], by simp [tw], by simp, by simp, rfl⟩) (by omega)
  simp [m_count_below, b_count_below, h1, sumG, intsOf_map]
theorem count_below_stk {T : List Int} (n : Int) (hf : Few T) : m_count_below [.d (stk T), .d (.int n)] = .ok ([.d (stk T), .d (.int n)], .d (.int (cb T n))) := by
  unfold stk
  rw [count_below_rt _ _ (by unfold Few at hf; simp; omega), List.filter_reverse, List.map_reverse, sum_rev]
  have : (((runsT T).filter fun p => decide (p.1 < n)).map (·.2)).sum = ((T.filter fun m => decide (m < n)).length : Int) := below_runs n T
  rw [this]
  rfl
end Qa
namespace Qa
open PySem PySem.Spec PyProof.Rows L2 Evl Mi Pg Pu
/-! ### popped -/
theorem pop_end (a s3 s4 : Sl) (k : Int) (xs : List D) (hk : k ≤ 0) : l1_popped [a, .d (.int k), .own false xs, s3, s4] = .ok ([a, .d (.int k), .own false xs, s3, s4], .nx) :=
  sWhile_end (by simp [l1c_popped]; omega)
theorem pop_turn (a s3 s4 : Sl) (n m k : Int) (xs : List D) (hl : xs.length ≤ 100000) : l1b_popped [a, .d (.int k), .own false (xs ++ [tw (n, m)]), s3, s4] =
    .ok ([a, .d (.int (k - min m k)), .own false (if k < m then xs ++ [tw (n, m - k)] else xs), .d (.int n), .d (.int m)], .nx) := by
  have s1 : xs.length < 16777216 := by omega
  by_cases h : k < m <;> simp [l1b_popped, tw, h, s1]
theorem pop_go {a s3 s4 : Sl} {n m k : Int} {xs : List D} {r : Res (Ga × Fl)} (hl : xs.length ≤ 100000) (hk : 0 < k) (h : l1_popped [a, .d (.int (k - min m k)), .own false (if k < m then xs ++ [tw (n, m - k)] else xs), .d (.int n), .d (.int m)] = r) (hr : r ≠ .stuck) :
    l1_popped [a, .d (.int k), .own false (xs ++ [tw (n, m)]), s3, s4] = r :=
  sWhile_go (by simp [l1c_popped, hk]) (pop_turn a s3 s4 n m k xs hl) (.inl rfl) h hr
theorem pop_loop (a : Sl) : ∀ (R : List PP) (k : Nat) (s3 s4 : Sl), R.length ≤ 100000 → Pos R → (k : Int) ≤ size R →
    ∃ s3' s4', l1_popped [a, .d (.int k), .own false (R.reverse.map tw), s3, s4] = .ok ([a, .d (.int 0), .own false ((popN k R).reverse.map tw), s3', s4'], .nx)
  | R, 0, s3, s4, _, _, _ => ⟨s3, s4, by simpa [popN] using pop_end a s3 s4 0 (R.reverse.map tw) (by omega)⟩
  | [], k + 1, s3, s4, _, _, h => by simp [size] at h; omega
  | (n, c) :: R, k + 1, s3, s4, hl, hp, h => by
    have hc : 1 ≤ c := hp (n, c) List.mem_cons_self
    have hp' : Pos R := fun p q => hp p (List.mem_cons_of_mem _ q)
    have hl' : R.length ≤ 100000 := by simp at hl; omega
    have e0 : ((n, c) :: R).reverse.map tw = R.reverse.map tw ++ [tw (n, c)] := by simp
    rw [e0]
    by_cases lt : ((k + 1 : Nat) : Int) < c
    · refine ⟨.d (.int n), .d (.int c), pop_go (by simp; omega) (by omega) ?_ (by simp)⟩
      rw [if_pos lt, popN_part (k + 1) n c R lt, show ((k + 1 : Nat) : Int) - min c ((k + 1 : Nat) : Int) = 0 by omega, pop_end _ _ _ _ _ (by omega)]
      simp
    · have e1 : ((k + 1 : Nat) : Int) - min c ((k + 1 : Nat) : Int) = ((k + 1 - c.toNat : Nat) : Int) := by omega
      have e2 : popN (k + 1) ((n, c) :: R) = popN (k + 1 - c.toNat) R := by
        have : k + 1 = c.toNat + (k + 1 - c.toNat) := by omega
        rw [this, popN_add]
        have q := popN_whole n c.toNat R (by omega)
        rw [show ((c.toNat : Nat) : Int) = c by omega] at q
        rw [q]
        congr 1
        omega
      have hs : ((k + 1 - c.toNat : Nat) : Int) ≤ size R := by
        simp [size] at h ⊢
        omega
      obtain ⟨s3', s4', e⟩ := pop_loop a R (k + 1 - c.toNat) (.d (.int n)) (.d (.int c)) hl' hp' hs
      refine ⟨s3', s4', pop_go (by simp; omega) (by omega) ?_ (by simp)⟩
      rw [if_neg lt, e1, e, e2]
  termination_by R k => R.length
theorem popped_stk {T : List Int} {k : Int} (hf : Few T) (h0 : 0 ≤ k) (hk : k ≤ T.length) : m_popped [.d (stk T), .d (.int k)] = .ok ([.d (stk T), .d (.int k)], .d (stk (T.drop k.toNat))) := by
  obtain ⟨s3, s4, e⟩ := pop_loop (.d (stk T)) (runsT T) k.toNat .un .un (by unfold Few at hf; omega) (runsT_pos T) (by rw [size_runs]; omega)
  rw [show ((k.toNat : Nat) : Int) = k by omega, popN_runs] at e
  have e1 : listG (stk T) = .ok (.f ((runsT T).reverse.map tw)) := rfl
  have e2 : PyData.tuple ((runsT (T.drop k.toNat)).reverse.map tw) = stk (T.drop k.toNat) := rfl
  generalize (runsT (T.drop k.toNat)).reverse.map tw = L2 at e e2
  generalize (runsT T).reverse.map tw = L at e e1
  simp [m_popped, b_popped, e1, e, e2]
/-! ### joined_runs, pushed -/
/-- runs under runs, the bottom first -/
def jn (L M : List PP) : List PP := match L.getLast?, M with
  | some l, m :: r => if l.1 = m.1 then L.dropLast ++ (l.1, l.2 + m.2) :: r else L ++ m :: r
  | _, _ => L ++ M
theorem jn_app (L : List PP) : ∀ (M N : List PP), M ≠ [] → jn L (M ++ N) = jn L M ++ N
  | [], N, h => absurd rfl h
  | m :: r, N, _ => by
    unfold jn
    rw [List.cons_append]
    cases L.getLast? with
    | none => simp
    | some l =>
      simp only []
      split <;> simp
theorem jn_nil (L : List PP) : jn L [] = L := by
  unfold jn
  split <;> simp_all
theorem jn_rev : ∀ (Q R : List PP), jn R.reverse Q.reverse = (joinR Q R).reverse
  | [], R => by simp [joinR, jn_nil]
  | [p], [] => by simp [joinR, jn]
  | [p], b :: R => by
    simp only [joinR, jn]
    by_cases h : p.1 = b.1
    · simp [h]
    · have h' : ¬ b.1 = p.1 := fun e => h e.symm
      simp [h, h']
  | p :: q :: r, R => by
    have ih := jn_rev (q :: r) R
    rw [joinR, List.reverse_cons, jn_app _ _ _ (by simp), ih, List.reverse_cons]
theorem at_last {α : Type} {xs : List α} {x : α} (h : xs.getLast? = some x) : atI xs (-1) = some x := by
  have hn : 0 < xs.length := by cases xs <;> simp at h ⊢
  have e : xs[xs.length - 1]? = some x := by rw [← h, List.getLast?_eq_getElem?]
  unfold atI ixN
  have h1 : ¬ ((0 : Int) ≤ -1) := by omega
  rw [if_neg h1, if_pos (by omega)]
  show xs[((-1 : Int) + xs.length).toNat]? = _
  rw [← e]
  congr 1
  omega
theorem cut_init (xs : List D) (h : 0 < xs.length) : Mi.cutD xs none (some (-1)) = xs.dropLast := by
  unfold Mi.cutD
  have e1 : HT.sIx xs.length 0 none = 0 := by simp [HT.sIx]
  have e2 : HT.sIx xs.length xs.length (some (-1)) = xs.length - 1 := by
    simp [HT.sIx]
    omega
  rw [e1, e2, List.dropLast_eq_take]
  simp
theorem joined_runs_rt (L M : List PP) (h : L.length + M.length ≤ 100000) : m_joined_runs [.d (rt L), .d (rt M)] = .ok ([.d (rt L), .d (rt M)], .d (rt (jn L M))) := by
  have n1 : neS (rt L) (.tuple []) = .ok (.d (.bool (!decide (L = [])))) := neS_fl (by simp) (by simp) (by cases L <;> simp [rt])
  have n2 : neS (rt M) (.tuple []) = .ok (.d (.bool (!decide (M = [])))) := neS_fl (by simp) (by simp) (by cases M <;> simp [rt])
  cases eL : L.getLast? with
  | none =>
    have e : L = [] := List.getLast?_eq_none_iff.mp eL
    subst e
    have : jn [] M = M := by cases M <;> rfl
    rw [this]
    have : M.length ≤ 16777216 := by omega
    simp [m_joined_runs, b_joined_runs, n1]
    simp [rt, this]
  | some l =>
    have hL : L ≠ [] := fun e => by rw [e] at eL; cases eL
    cases M with
    | nil =>
      rw [jn_nil]
      have : L.length ≤ 16777216 := by omega
      simp [m_joined_runs, b_joined_runs, n1, n2, hL]
      simp [rt, this]
    | cons m r =>
      have a1 : atI (L.map tw) (-1) = some (tw l) := at_last (by rw [List.getLast?_map, eL]; rfl)
      have i1 : ixG (rt L) (.int (-1)) = .ok (.d (tw l)) := by simp [rt, a1]
      have i2 : ixG (rt (m :: r)) (.int 0) = .ok (.d (tw m)) := by simp [rt]
      have i3 : ∀ p : PP, ixG (tw p) (.int 0) = .ok (.d (.int p.1)) := fun p => by simp [tw]
      have i4 : ∀ p : PP, ixG (tw p) (.int 1) = .ok (.d (.int p.2)) := fun p => by simp [tw]
      have s1 : slG (rt L) none (some (-1)) = .ok (.d (rt L.dropLast)) := by
        rw [rt, q_slGt, cut_init _ (by cases L <;> simp at hL ⊢), ← List.map_dropLast]; rfl
      have s2 : slG (rt (m :: r)) (some 1) none = .ok (.d (rt r)) := by rw [rt, q_slGt, cut_drop1]; rfl
      have z : ∀ N : List PP, starD (rt N) = .ok (N.map tw) := fun N => rfl
      have hj : jn L (m :: r) = if l.1 = m.1 then L.dropLast ++ (l.1, l.2 + m.2) :: r else L ++ m :: r := by
        unfold jn
        rw [eL]
      have b1 : L.length - 1 + (r.length + 1) ≤ 16777216 := by simp at h; omega
      have b2 : L.length + (r.length + 1) ≤ 16777216 := by simp at h; omega
      rw [hj]
      by_cases e : l.1 = m.1
      · simp [m_joined_runs, b_joined_runs, n1, n2, hL, i1, i2, i3, i4, s1, s2, z, e, b1]
        simp [rt, tw]
      · simp [m_joined_runs, b_joined_runs, n1, n2, hL, i1, i2, i3, i4, s1, s2, z, e, b2]
        simp [rt, tw]
theorem joined_runs_stk {T U : List Int} (hT : Few T) (hU : Few U) : m_joined_runs [.d (stk T), .d (stk U)] = .ok ([.d (stk T), .d (stk U)], .d (stk (U ++ T))) := by
  unfold stk
  rw [joined_runs_rt _ _ (by unfold Few at hT hU; simp; omega), jn_rev, runsT_app]
theorem cb_le (T : List Int) (n : Int) : 0 ≤ cb T n ∧ cb T n ≤ T.length := by
  unfold cb
  have := List.length_filter_le (fun m => decide (m < n)) T
  omega
theorem cb_drop {T : List Int} (n : Int) (h : Never T) : T.drop (cb T n).toNat = T.dropWhile fun m => decide (m < n) := by
  unfold cb
  rw [Int.toNat_natCast]
  exact drop_below n T h
theorem joinR_len : ∀ U R : List PP, (joinR U R).length ≤ U.length + R.length
  | [], R => by simp [joinR]
  | [p], [] => by simp [joinR]
  | [p], q :: R => by simp only [joinR]; split <;> simp <;> omega
  | p :: q :: r, R => by
    have := joinR_len (q :: r) R
    simp [joinR] at this ⊢
    omega
theorem runs_app_len (U T : List Int) : (runsT (U ++ T)).length ≤ (runsT U).length + (runsT T).length := by
  rw [runsT_app]; exact joinR_len _ _
theorem popN_len : ∀ (k : Nat) (R : List PP), (popN k R).length ≤ R.length
  | 0, R => Nat.le_refl _
  | k + 1, R => by
    have := popN_len k (pop1 R)
    have h2 : (pop1 R).length ≤ R.length := by
      cases R with
      | nil => simp [pop1]
      | cons p r => obtain ⟨m, c⟩ := p; simp only [pop1]; split <;> simp
    show (popN k (pop1 R)).length ≤ _
    omega
theorem runs_drop_len (k : Nat) (T : List Int) : (runsT (T.drop k)).length ≤ (runsT T).length := by rw [← popN_runs]; exact popN_len _ _
theorem few_drop {T : List Int} (k : Nat) (h : Few T) : Few (T.drop k) := Nat.le_trans (runs_drop_len k T) h
theorem drop_while_eq (T : List Int) (p : Int → Bool) : ∃ k, T.dropWhile p = T.drop k := by
  induction T with
  | nil => exact ⟨0, rfl⟩
  | cons a T ih =>
    obtain ⟨k, e⟩ := ih
    by_cases h : p a = true
    · exact ⟨k + 1, by rw [List.dropWhile_cons_of_pos h, e]; rfl⟩
    · exact ⟨0, by rw [List.dropWhile_cons_of_neg h]; rfl⟩
/-- the stack behind c pushes of n -/
def push (T : List Int) (n : Int) (c : Nat) : List Int := List.replicate c n ++ T.dropWhile fun m => decide (m < n)
theorem pushed_stk {T : List Int} {n c : Int} (hf : Few T) (hN : Never T) (hc : 1 ≤ c) : m_pushed [.d (stk T), .d (.int n), .d (.int c)] = .ok ([.d (stk T), .d (.int n), .d (.int c)], .d (stk (push T n c.toNat))) := by
  obtain ⟨h0, h1⟩ := cb_le T n
  have e0 := count_below_stk n hf
  have e1 := popped_stk hf h0 h1
  rw [cb_drop n hN] at e1
  have e2 : PyData.tuple [.tuple [.int n, .int c]] = stk (List.replicate c.toNat n) := by
    unfold stk
    rw [runs_one n c.toNat (by omega)]
    simp [rt, tw]
    omega
  have f2 : Few (List.replicate c.toNat n) := by
    unfold Few
    rw [runs_one n c.toNat (by omega)]
    simp
  obtain ⟨k, ek⟩ := drop_while_eq T fun m => decide (m < n)
  have f1 : Few (T.dropWhile fun m => decide (m < n)) := by rw [ek]; exact few_drop k hf
  have e3 := joined_runs_stk f1 f2
  simp only [m_pushed, b_pushed]
  simp [e0, e1, e2, e3]
  rfl
end Qa
namespace Qa
open PySem PySem.Spec PyProof.Rows L2 Evl Mi Pg Pu
/-! ### steps -/
inductive Stp where
  | push (n c : Int)
  | pop (c : Int)
def Stp.cnt : Stp → Int
  | .push _ c => c
  | .pop c => c
def Stp.d : Stp → D
  | .push n c => .tuple [.str "push", .int n, .int c]
  | .pop c => .tuple [.str "pop", .int c]
theorem pp_ne : ¬ (("pop" : Str) = ("push" : Str)) := by decide
@[simp] theorem ok_push : PyData.strOk ("push" : Str) = true := by decide +kernel
@[simp] theorem ok_pop : PyData.strOk ("pop" : Str) = true := by decide +kernel
@[simp] theorem fl_str {n : Nat} {s : Str} : fl n (.str s) = PyData.strOk s := by cases n <;> simp [fl]
@[simp] theorem fl_stp {n : Nat} {s : Stp} : fl (n + 1) s.d = true := by cases s <;> simp [Stp.d]
theorem stp_inj {s t : Stp} : s.d = t.d ↔ s = t := by
  cases s <;> cases t <;> simp [Stp.d]
@[simp] theorem eqv_ii {a b : Int} : PyData.eqv (.int a) (.int b) = decide (a = b) := by
  have h : PyData.eqv (.int a) (.int b) = (a == b) := by rw [PyData.eqv]
  rw [h]
  by_cases e : a = b <;> simp [e]
theorem is_step_stp (s : Stp) : m_is_step [.d s.d] = .ok ([.d s.d], .d (.bool (decide (1 ≤ s.cnt)))) := by
  cases s with
  | push n c =>
    simp [m_is_step, b_is_step, Stp.d, Stp.cnt, is_integer_int, is_count_int, notinG, flatD]
    all_goals rfl
  | pop c =>
    simp [m_is_step, b_is_step, Stp.d, Stp.cnt, is_integer_int, is_count_int, notinG, flatD, pp_ne]
    all_goals rfl
theorem mem_numb : ∀ {xs : List D} {i : Int} {x : D}, x ∈ numb i xs → ∃ (j : Int) (y : D), x = .tuple [.int j, y] ∧ y ∈ xs
  | [], i, x, h => by simp [numb] at h
  | y :: xs, i, x, h => by
    rcases List.mem_cons.mp h with e | h
    · exact ⟨i, y, e, List.mem_cons_self⟩
    · obtain ⟨j, z, e, hz⟩ := mem_numb h
      exact ⟨j, z, e, List.mem_cons_of_mem _ hz⟩
theorem forL_same {τ : Type} (st : τ → Ga) {g : D → Ga → Option Ga} {b : Ga → Res (Ga × Fl)} : ∀ (xs : List D) (t : τ), (∀ x ∈ xs, ∀ t, ∃ Γ1 t', g x (st t) = some Γ1 ∧ b Γ1 = .ok (st t', .nx)) → ∃ t', forL g b xs (st t) = .ok (st t', .nx)
  | [], t, _ => ⟨t, rfl⟩
  | x :: xs, t, h => by
    obtain ⟨Γ1, t1, e1, e2⟩ := h x List.mem_cons_self t
    obtain ⟨t2, e3⟩ := forL_same st xs t1 fun y hy => h y (List.mem_cons_of_mem _ hy)
    exact ⟨t2, by rw [forL_nx e1 e2, e3]⟩
/-- a list or a tuple -/
def Sq (x : D) (ds : List D) : Prop := x = .list ds ∨ x = .tuple ds
theorem Sq.it {x : D} {ds : List D} (h : Sq x ds) : iterA x = .ok ds := by rcases h with rfl | rfl <;> rfl
theorem Sq.en {x : D} {ds : List D} (h : Sq x ds) : enumG [x] = .ok (numb 0 ds) := by rcases h with rfl | rfl <;> rfl
theorem check_sequence_ok {x : D} {ss : List Stp} (h : Sq x (ss.map Stp.d)) (hc : ∀ s ∈ ss, 1 ≤ s.cnt) : m_check_sequence [.d x] = .ok ([.d x], .d .none) := by
  have hl : ∃ t : Sl × Sl, l1_check_sequence [.d x, .un, .un] = .ok ([.d x, t.1, t.2], .nx) := by
    obtain ⟨t, e⟩ := forL_same (g := gTup' (gCons' (gN 1) (gCons' (gN 2) gNil')) 2) (b := l1b_check_sequence) (fun t : Sl × Sl => [.d x, t.1, t.2]) (numb 0 (ss.map Stp.d)) (.un, .un) fun y hy t => by
      obtain ⟨j, z, rfl, hz⟩ := mem_numb hy
      obtain ⟨s, hs, rfl⟩ := List.mem_map.mp hz
      have := hc s hs
      exact ⟨[.d x, .d (.int j), .d s.d], (.d (.int j), .d s.d), by simp, by simp [l1b_check_sequence, is_step_stp, this]⟩
    refine ⟨t, ?_⟩
    unfold l1_check_sequence sFor
    simp [h.en, e]
  obtain ⟨t, e⟩ := hl
  rcases h with rfl | rfl <;> simp [m_check_sequence, b_check_sequence, e]
/-! ### effects -/
def eff (P : List PP) (d : Int) (N : List Int) : D := .tuple [rt P, .int d, stk N]
theorem effect_of_step_ok (s : Stp) (h : 1 ≤ s.cnt) : m_effect_of_step [.d s.d] = .ok ([.d s.d], .d (match s with | .push n c => eff [(n, 0)] 0 (List.replicate c.toNat n) | .pop c => eff [] c [])) := by
  cases s with
  | push n c =>
    have e2 : PyData.tuple [.tuple [.int n, .int c]] = stk (List.replicate c.toNat n) := by
      have : 1 ≤ c := h
      unfold stk
      rw [runs_one n c.toNat (by omega)]
      simp [rt, tw]
      omega
    simp [m_effect_of_step, b_effect_of_step, Stp.d, eff, ← e2, rt, tw]
  | pop c =>
    simp [m_effect_of_step, b_effect_of_step, Stp.d, eff, stk, rt, pp_ne, runsT]
/-! undominated -/
def lexB (p q : PP) : Bool := decide (p.1 < q.1 ∨ (p.1 = q.1 ∧ p.2 ≤ q.2))
theorem dataLe_tw (p q : PP) : PySem.W.dataLe false id (tw p) (tw q) = lexB p q := by
  obtain ⟨a, b⟩ := p
  obtain ⟨c, d⟩ := q
  simp only [PySem.W.dataLe, PySem.W.sortLe, cond_false, id, tw]
  simp [PySem.W.keyToks, PySem.W.keyToksAll, PyProof.Rows.lexLt, itemLt, lexB]
  by_cases h1 : a < c <;> by_cases h2 : c < a <;> by_cases h3 : b < d <;> by_cases h4 : d < b <;> simp [h1, h2, h3, h4] <;> omega
end Qa
namespace Qa
open PySem PySem.Spec PyProof.Rows L2 Evl Mi Pg Pu
/-! ### undominated -/
theorem sort_tw (S : List PP) (h : S.length ≤ 100000) : ∀ {x : D}, Sq x (S.map tw) → sortedA x = .ok (.f ((S.mergeSort lexB).map tw)) := fun {x} hx => by
  have hs : sortP (S.map tw) := by
    refine ⟨fun a ha b hb => ?_, .inl fun a ha => ?_, fun a ha => ?_, ?_⟩
    · obtain ⟨p, _, rfl⟩ := List.mem_map.mp ha
      obtain ⟨q, _, rfl⟩ := List.mem_map.mp hb
      simp [tw, PySem.W.alike, PySem.W.alikeAll]
    · obtain ⟨p, _, rfl⟩ := List.mem_map.mp ha
      exact ⟨_, _, rfl⟩
    · obtain ⟨p, _, rfl⟩ := List.mem_map.mp ha
      simp [tw, PyData.depth, PyData.depthAll]
    · rw [List.length_map, z_szle]; omega
  have e : ((S.map tw).mergeSort fun a b => PySem.W.dataLe false id a b) = (S.mergeSort lexB).map tw :=
    (List.map_mergeSort (r := lexB) (f := tw) fun a _ b _ => (dataLe_tw a b).symm).symm
  rcases hx with rfl | rfl
  · simp [sortedA, hs, e]
  · simp [sortedA, hs, e]
def und (S : List PP) : List PP := scan [] (S.mergeSort lexB).reverse
theorem lexB_trans (a b c : PP) (h1 : lexB a b = true) (h2 : lexB b c = true) : lexB a c = true := by
  simp only [lexB, decide_eq_true_eq] at *
  omega
theorem lexB_total (a b : PP) : (lexB a b || lexB b a) = true := by
  simp only [lexB, Bool.or_eq_true, decide_eq_true_eq]
  omega
theorem und_top (S : List PP) : Top S (und S) := by
  have hp := List.pairwise_mergeSort lexB_trans lexB_total S
  have h := scan_top (S.mergeSort lexB).reverse [] [] Top.nil (fun p _ q hq => nomatch hq) (List.pairwise_reverse.mpr (hp.imp fun {a b} h => by
    simp only [lexB, decide_eq_true_eq] at h
    exact h))
  rw [List.nil_append] at h
  exact h.perm fun p => by rw [List.mem_reverse, List.mem_mergeSort]
theorem scan_fold : ∀ (r acc : List PP), scan acc r = r.foldl (fun a p => put p a) acc
  | [], _ => rfl
  | p :: r, acc => scan_fold r (put p acc)
theorem scan_len : ∀ (r acc : List PP), (scan acc r).length ≤ acc.length + r.length
  | [], acc => by simp [Pu.scan]
  | p :: r, acc => by
    have h := scan_len r (put p acc)
    have : (put p acc).length ≤ acc.length + 1 := by
      cases acc with
      | nil => simp [put]
      | cons q a => simp only [put]; split <;> simp
    simp [Pu.scan] at h ⊢
    omega
theorem und_len (S : List PP) : (und S).length ≤ S.length := by
  have := scan_len (S.mergeSort lexB).reverse []
  simpa [und] using this
theorem und_turn (a b c : Sl) (acc : List PP) (p : PP) (hl : acc.length ≤ 100000) : l1b_undominated [a, .own false (acc.reverse.map tw), .d (.int p.1), .d (.int p.2)] = .ok ([a, .own false ((put p acc).reverse.map tw), .d (.int p.1), .d (.int p.2)], .nx) := by
  cases acc with
  | nil =>
    have : eqS (.list []) (.list []) = .ok (.d (.bool true)) := eqS_same (by simp)
    simp [l1b_undominated, put, this, tw]
  | cons q r =>
    have e1 : eqS (.list (((q :: r).reverse).map tw)) (.list []) = .ok (.d (.bool false)) := by
      refine (eqS_fl (p := False) ?_ (by simp) (by simp)).trans (by simp)
      rw [fl_lst]
      exact flAll_map fun p _ => fl_tw
    have e2 : atI ((q :: r).reverse.map tw) (-1) = some (tw q) := at_last (by simp)
    have e3 : ixG (tw q) (.int 1) = .ok (.d (.int q.2)) := by simp [tw]
    have hl' : ((q :: r).reverse.map tw).length < 16777216 := by simp at hl ⊢; omega
    have e4 : (put p (q :: r)).reverse.map tw = if q.2 < p.2 then (q :: r).reverse.map tw ++ [tw p] else (q :: r).reverse.map tw := by
      simp only [put]
      split <;> simp
    rw [e4]
    generalize (q :: r).reverse.map tw = L at e1 e2 hl'
    by_cases h : q.2 < p.2 <;> simp [l1b_undominated, e1, e2, e3, h, hl', tw]
theorem put_len (p : PP) (acc : List PP) : (put p acc).length ≤ acc.length + 1 := by
  cases acc with
  | nil => simp [put]
  | cons q a => simp only [put]; split <;> simp
theorem undominated_ok (S : List PP) (hS : S.length ≤ 10000) : m_undominated [.d (rt S)] = .ok ([.d (rt S)], .d (rt (und S))) := by
  have hs := sort_tw S (by omega) (x := rt S) (.inr rfl)
  have hl : (S.mergeSort lexB).reverse.length ≤ 10000 := by simpa using hS
  obtain ⟨t, e, hp⟩ := sFor_fold (g := gTup' (gCons' (gN 2) (gCons' (gN 3) gNil')) 2) (b := l1b_undominated) (it := sIt iterA (sPub (sRev (sPub (sUn sortedA (sName 0)))))) (Γ := [.d (rt S), .own false [], .un, .un]) (fun (acc : List PP) (t : Sl × Sl) => [.d (rt S), .own false (acc.reverse.map tw), t.1, t.2]) tw (fun a p => put p a)
    (fun i acc => acc.length ≤ i) (xs := (S.mergeSort lexB).reverse) (s := []) (.un, .un) (by simp [hs]) (Nat.le_refl _) (fun i acc t p hm hi hp => ⟨⟨[.d (rt S), .own false (acc.reverse.map tw), .d (.int p.1), .d (.int p.2)], (.d (.int p.1), .d (.int p.2)), by simp [tw], und_turn _ t.1 t.2 acc p (by omega)⟩,
      Nat.le_trans (put_len p acc) (by omega)⟩)
  rw [← scan_fold] at e
  have e : l1_undominated [.d (rt S), .own false [], .un, .un] = _ := e
  have e0 : Pu.scan [] (S.mergeSort lexB).reverse = und S := rfl
  rw [e0] at e
  simp [m_undominated, b_undominated, e]
  simp [rt]
/-! ### shifted, passing, taken, joined -/
theorem shifted_ok (P : List PP) (k : Int) (hP : P.length ≤ 100000) : m_shifted [.d (rt P), .d (.int k)] = .ok ([.d (rt P), .d (.int k)], .d (rt (P.map (shift k)))) := by
  have h1 : l1_shifted [.d (rt P), .d (.int k), .un, .un] = .ok ([.d (rt P), .d (.int k), .un, .un], .f (P.map fun p => tw (shift k p))) :=
    sLc_map tw _ (by simp [rt]) rfl (fun p _ => ⟨[.d (rt P), .d (.int k), .d (.int p.1), .d (.int p.2)], by simp [tw], by simp [tw, shift], rfl⟩) (by omega)
  simp [m_shifted, b_shifted, h1]
  simp [rt]
/-- above all of the numbers -/
def thr (N : List Int) (p : PP) : Bool := decide (∀ x ∈ N, x < p.1)
theorem last_max : ∀ {N : List Int} {n : Int}, Never N → N.getLast? = some n → ∀ x ∈ N, x ≤ n
  | [], n, _, h, x, hx => nomatch hx
  | [m], n, _, h, x, hx => by
    simp at h hx
    omega
  | m :: k :: N, n, hN, h, x, hx => by
    have h' := List.pairwise_cons.mp hN
    have ih := last_max h'.2 (by simpa [List.getLast?_cons_cons] using h)
    rcases List.mem_cons.mp hx with rfl | hx
    · have := h'.1 k List.mem_cons_self
      have := ih k List.mem_cons_self
      omega
    · exact ih x hx
theorem bottom_stk {N : List Int} {n : Int} (h : N.getLast? = some n) : ∃ c, ixG (stk N) (.int 0) = .ok (.d (tw (n, c))) := by
  obtain ⟨c, Q, e⟩ := runs_last h
  refine ⟨c, ?_⟩
  simp [stk, rt, e]
theorem eqS_stk_nil {N : List Int} : eqS (stk N) (.tuple []) = .ok (.d (.bool (decide (N = [])))) := eqS_fl (by simp) (by simp) (by rw [← stk_nil, stk_inj])
theorem passing_ok (P : List PP) {N : List Int} (hP : P.length ≤ 100000) (hN : Never N) : m_passing [.d (rt P), .d (stk N)] = .ok ([.d (rt P), .d (stk N)], .d (rt (P.filter (thr N)))) := by
  have h1 : l1_passing [.d (rt P), .d (stk N), .un] = .ok ([.d (rt P), .d (stk N), .un], .f ((P.filter (thr N)).map tw)) := by
    refine sLc_filt tw _ _ (by simp [rt]) rfl (fun p _ => ⟨[.d (rt P), .d (stk N), .d (tw p)], rfl, ?_, rfl, rfl⟩) (by omega)
    cases e : N.getLast? with
    | none =>
      have e' := List.getLast?_eq_none_iff.mp e
      subst e'
      simp [eqS_stk_nil, thr]
    | some n =>
      obtain ⟨c, hb⟩ := bottom_stk e
      have ne : N ≠ [] := fun z => by rw [z] at e; cases e
      have mem : n ∈ N := List.mem_of_getLast? e
      have hm := last_max hN e
      have ht : thr N p = decide (n < p.1) := by
        unfold thr
        rw [decide_eq_decide]
        exact ⟨fun h => h n mem, fun h x hx => by have := hm x hx; omega⟩
      have i1 : ∀ q : PP, ixG (tw q) (.int 0) = .ok (.d (.int q.1)) := fun q => by simp [tw]
      simp [eqS_stk_nil, ne, hb, i1, ht]
  simp [m_passing, b_passing, h1]
  simp [rt]
/-- how many an effect takes of numbers -/
def tk (P : List PP) (d : Int) (T : List Int) : Int := maxL d (P.map fun p => cb T p.1 + p.2)
theorem taken_ok (P : List PP) (d : Int) (N : List Int) {T : List Int} (hP : P.length ≤ 100000) (hf : Few T) : m_taken [.d (eff P d N), .d (stk T)] = .ok ([.d (eff P d N), .d (stk T)], .d (.int (tk P d T))) := by
  have h1 : l1_taken [.d (eff P d N), .d (stk T), .d (rt P), .d (.int d), .d (stk N), .un, .un] = .ok ([.d (eff P d N), .d (stk T), .d (rt P), .d (.int d), .d (stk N), .un, .un], .f (P.map fun p => .int (cb T p.1 + p.2))) :=
    sLc_map tw _ (by simp [rt]) rfl (fun p _ => ⟨[.d (eff P d N), .d (stk T), .d (rt P), .d (.int d), .d (stk N), .d (.int p.1), .d (.int p.2)], by simp [tw], by simp [count_below_stk p.1 hf], rfl⟩) (by omega)
  have e0 : gTup' (gCons' (gN 2) (gCons' (gN 3) (gCons' (gN 4) gNil'))) 3 (eff P d N) [.d (eff P d N), .d (stk T), .un, .un, .un, .un, .un] = some [.d (eff P d N), .d (stk T), .d (rt P), .d (.int d), .d (stk N), .un, .un] := by simp [eff]
  have hl : 1 + P.length ≤ 16777216 := by omega
  have e1 : maxG (.list (.int d :: P.map fun p => .int (cb T p.1 + p.2))) = .ok (.d (.int (tk P d T))) := by
    have : intsOf (.int d :: P.map fun p => PyData.int (cb T p.1 + p.2)) = some (d :: P.map fun p => cb T p.1 + p.2) := by
      have := intsOf_map (fun p : PP => cb T p.1 + p.2) P
      simp [intsOf, this]
    simp [maxG, this, tk]
  simp [m_taken, b_taken, e0, h1, hl, e1]
/-- one effect, then another -/
def jo (e f : List PP × Int × List Int) : List PP × Int × List Int :=
  (und (e.1.map (shift (max 0 (tk f.1 f.2.1 e.2.2 - e.2.2.length))) ++ f.1.filter (thr e.2.2)), e.2.1 + max 0 (tk f.1 f.2.1 e.2.2 - e.2.2.length), f.2.2 ++ e.2.2.drop (min (e.2.2.length : Int) (tk f.1 f.2.1 e.2.2)).toNat)
abbrev effE (e : List PP × Int × List Int) : D := eff e.1 e.2.1 e.2.2
theorem maxL_le : ∀ (l : List Int) (m : Int), m ≤ maxL m l := fun l m => (maxL_ge l m).1
theorem joined_ok (e f : List PP × Int × List Int) (h1 : e.1.length ≤ 1000) (h2 : f.1.length ≤ 1000) (hf1 : Few e.2.2) (hf2 : Few f.2.2) (hN : Never e.2.2) (hd : 0 ≤ f.2.1) : m_joined [.d (effE e), .d (effE f)] = .ok ([.d (effE e), .d (effE f)], .d (effE (jo e f))) := by
  obtain ⟨P, d, N⟩ := e
  obtain ⟨P2, d2, N2⟩ := f
  dsimp only at h1 h2 hf1 hf2 hN hd
  have s1 := size_of_stk hf1
  have s2 := taken_ok P2 d2 N2 (T := N) (by omega) hf1
  have ht : 0 ≤ tk P2 d2 N := Int.le_trans hd (maxL_le _ _)
  have s3 := passing_ok P2 (by omega) hN
  have s4 := popped_stk (k := min (N.length : Int) (tk P2 d2 N)) hf1 (by omega) (by omega)
  have s5 := shifted_ok P (max 0 (tk P2 d2 N - N.length)) (by omega)
  have hl : (P.map (shift (max 0 (tk P2 d2 N - N.length)))).length + (P2.filter (thr N)).length ≤ 2000 := by
    have := List.length_filter_le (thr N) P2
    simp only [List.length_map] at *
    omega
  have s6 := undominated_ok (P.map (shift (max 0 (tk P2 d2 N - N.length))) ++ P2.filter (thr N)) (by rw [List.length_append]; omega)
  have s7 := joined_runs_stk (T := N.drop (min (N.length : Int) (tk P2 d2 N)).toNat) (few_drop _ hf1) hf2
  have a1 : addG (rt (P.map (shift (max 0 (tk P2 d2 N - N.length))))) (rt (P2.filter (thr N))) = .ok (.d (rt (P.map (shift (max 0 (tk P2 d2 N - N.length))) ++ P2.filter (thr N)))) := by
    unfold rt
    rw [z_addT, if_pos (by rw [List.length_map (f := tw), List.length_map (f := tw), z_szle]; omega), List.map_append]
  have a2 : gTup' (gCons' (gN 2) (gCons' (gN 3) (gCons' (gN 4) gNil'))) 3 (eff P d N) [.d (eff P d N), .d (eff P2 d2 N2), .un, .un, .un, .un, .un, .un, .un, .un] = some [.d (eff P d N), .d (eff P2 d2 N2), .d (rt P), .d (.int d), .d (stk N), .un, .un, .un, .un, .un] := by simp [eff]
  have a3 : ixG (eff P2 d2 N2) (.int 0) = .ok (.d (rt P2)) := by simp [eff]
  have a4 : ixG (eff P2 d2 N2) (.int 2) = .ok (.d (stk N2)) := by simp [eff]
  have a5 : effE (jo (P, d, N) (P2, d2, N2)) = .tuple [rt (und (P.map (shift (max 0 (tk P2 d2 N - N.length))) ++ P2.filter (thr N))), .int (d + max 0 (tk P2 d2 N - N.length)), stk (N2 ++ N.drop (min (N.length : Int) (tk P2 d2 N)).toNat)] := rfl
  rw [a5]
  show m_joined [.d (eff P d N), .d (eff P2 d2 N2)] = .ok ([.d (eff P d N), .d (eff P2 d2 N2)], _)
  simp [m_joined, b_joined, a1, a2, a3, a4, s1, s2, s3, s4, s5, s6, s7]
end Qa
namespace Qa
open PySem PySem.Spec PyProof.Rows L2 Evl Mi Pg Pu
/-! ### effects plainly -/
abbrev Ef := List PP × Int × List Int
structure Valid (e : Ef) : Prop where
  chain : e.1.Pairwise fun p q => p.1 < q.1 ∧ q.2 < p.2
  nn : ∀ p ∈ e.1, 0 ≤ p.2
  le : ∀ p ∈ e.1, p.2 ≤ e.2.1
  d0 : 0 ≤ e.2.1
  nev : Never e.2.2
  cov : ∀ x ∈ e.2.2, ∃ p ∈ e.1, x ≤ p.1
theorem cb_nil (t : Int) : cb [] t = 0 := rfl
theorem cb_cons (x t : Int) (T : List Int) : cb (x :: T) t = cb T t + if x < t then 1 else 0 := by
  unfold cb
  by_cases h : x < t <;> simp [h]
theorem cb_app (U T : List Int) (t : Int) : cb (U ++ T) t = cb U t + cb T t := by
  induction U with
  | nil => simp [cb_nil]
  | cons x U ih => rw [List.cons_append, cb_cons, cb_cons, ih]; omega
theorem cb_all {T : List Int} {t : Int} (h : ∀ x ∈ T, x < t) : cb T t = T.length := by
  induction T with
  | nil => rfl
  | cons x T ih =>
    rw [cb_cons, ih fun y hy => h y (List.mem_cons_of_mem _ hy), if_pos (h x List.mem_cons_self)]
    simp
theorem cb_none {T : List Int} {t : Int} (h : ∀ x ∈ T, t ≤ x) : cb T t = 0 := by
  induction T with
  | nil => rfl
  | cons x T ih =>
    have := h x List.mem_cons_self
    rw [cb_cons, ih fun y hy => h y (List.mem_cons_of_mem _ hy), if_neg (by omega)]
    rfl
theorem never_drop {T : List Int} (k : Nat) (h : Never T) : Never (T.drop k) := List.Pairwise.sublist (List.drop_sublist k T) h
theorem drop_ge : ∀ {T : List Int} {t : Int} {k : Nat}, Never T → cb T t ≤ k → ∀ y ∈ T.drop k, t ≤ y
  | [], t, k, _, _, y, hy => by simp at hy
  | x :: T, t, 0, hN, h, y, hy => by
    have h' := List.pairwise_cons.mp hN
    rw [cb_cons] at h
    have := (cb_le T t).1
    have hx : t ≤ x := by
      by_cases q : x < t
      · rw [if_pos q] at h; omega
      · omega
    rcases List.mem_cons.mp hy with rfl | hy
    · exact hx
    · have := h'.1 y hy; omega
  | x :: T, t, k + 1, hN, h, y, hy => by
    have h' := List.pairwise_cons.mp hN
    rw [cb_cons] at h
    refine drop_ge (T := T) (k := k) h'.2 ?_ y hy
    by_cases q : x < t
    · rw [if_pos q] at h; omega
    · have : cb T t = 0 := cb_none fun y hy => by have := h'.1 y hy; omega
      omega
theorem cb_drop_sub : ∀ {T : List Int} {t : Int} {k : Nat}, Never T → cb (T.drop k) t = max 0 (cb T t - k)
  | T, t, 0, _ => by have := (cb_le T t).1; simp; omega
  | [], t, k + 1, _ => by simp [cb_nil]; omega
  | x :: T, t, k + 1, hN => by
    have h' := List.pairwise_cons.mp hN
    rw [List.drop_succ_cons, cb_drop_sub h'.2, cb_cons]
    by_cases q : x < t
    · rw [if_pos q]; omega
    · rw [if_neg q]
      have : cb T t = 0 := cb_none fun y hy => by have := h'.1 y hy; omega
      omega
theorem tk_ge (P : List PP) (d : Int) (T : List Int) : d ≤ tk P d T ∧ ∀ p ∈ P, cb T p.1 + p.2 ≤ tk P d T := by
  have h := maxL_ge (P.map fun p => cb T p.1 + p.2) d
  exact ⟨h.1, fun p hp => h.2 _ (List.mem_map_of_mem hp)⟩
theorem maxL_mem : ∀ (l : List Int) (m : Int), maxL m l = m ∨ maxL m l ∈ l
  | [], m => .inl rfl
  | x :: l, m => by
    show maxL (if m < x then x else m) l = m ∨ maxL (if m < x then x else m) l ∈ x :: l
    rcases maxL_mem l (if m < x then x else m) with h | h
    · split at h
      · right; rw [if_pos ‹_›, h]; exact List.mem_cons_self
      · left; rw [if_neg ‹_›, h]
    · right; exact List.mem_cons_of_mem _ h
theorem tk_mem (P : List PP) (d : Int) (T : List Int) : tk P d T = d ∨ ∃ p ∈ P, tk P d T = cb T p.1 + p.2 := by
  rcases maxL_mem (P.map fun p => cb T p.1 + p.2) d with h | h
  · exact .inl h
  · obtain ⟨p, hp, e⟩ := List.mem_map.mp h
    exact .inr ⟨p, hp, e.symm⟩
theorem tk_eq {P : List PP} {d : Int} {T : List Int} {v : Int} (h1 : d ≤ v) (h2 : ∀ p ∈ P, cb T p.1 + p.2 ≤ v) (h3 : v = d ∨ ∃ p ∈ P, v = cb T p.1 + p.2) : tk P d T = v := by
  obtain ⟨g1, g2⟩ := tk_ge P d T
  refine Int.le_antisymm ?_ ?_
  · rcases tk_mem P d T with e | ⟨p, hp, e⟩
    · omega
    · have := h2 p hp; omega
  · rcases h3 with e | ⟨p, hp, e⟩
    · omega
    · have := g2 p hp; omega
theorem never_app {U T : List Int} (h1 : Never U) (h2 : Never T) (h : ∀ x ∈ U, ∀ y ∈ T, x ≤ y) : Never (U ++ T) := List.pairwise_append.mpr ⟨h1, h2, h⟩
theorem mem_und {S : List PP} {p : PP} (h : p ∈ und S) : p ∈ S := (und_top S).sub p h
theorem jo_valid {e f : Ef} (he : Valid e) (hf : Valid f) : Valid (jo e f) := by
  obtain ⟨P, d, N⟩ := e
  obtain ⟨P2, d2, N2⟩ := f
  obtain ⟨t1, t2⟩ := tk_ge P2 d2 N
  have hd2 := hf.d0
  have hd := he.d0
  have hN := he.nev
  dsimp only at hd hd2 hN
  have top := und_top (P.map (shift (max 0 (tk P2 d2 N - N.length))) ++ P2.filter (thr N))
  have src : ∀ p ∈ P.map (shift (max 0 (tk P2 d2 N - N.length))) ++ P2.filter (thr N), 0 ≤ p.2 ∧ p.2 ≤ d + max 0 (tk P2 d2 N - N.length) := fun p hp => by
    rcases List.mem_append.mp hp with h | h
    · obtain ⟨q, hq, rfl⟩ := List.mem_map.mp h
      have a := he.nn q hq
      have b := he.le q hq
      dsimp only at b
      simp only [shift]
      omega
    · obtain ⟨h, ht⟩ := List.mem_filter.mp h
      have a := hf.nn p h
      have b := t2 p h
      rw [cb_all (of_decide_eq_true ht)] at b
      omega
  have dropge : ∀ p ∈ P2, ∀ y ∈ N.drop (min (N.length : Int) (tk P2 d2 N)).toNat, p.1 ≤ y := fun p hp y hy => by
    have b := t2 p hp
    have a := hf.nn p hp
    have c := cb_le N p.1
    refine drop_ge (k := (min (N.length : Int) (tk P2 d2 N)).toNat) hN ?_ y hy
    omega
  have back : ∀ y ∈ N, ∃ q ∈ und (P.map (shift (max 0 (tk P2 d2 N - N.length))) ++ P2.filter (thr N)), y ≤ q.1 := fun y hy => by
    obtain ⟨p, hp, h⟩ := he.cov y hy
    obtain ⟨q, hq, dm⟩ := top.dom (shift (max 0 (tk P2 d2 N - N.length)) p) (List.mem_append_left _ (List.mem_map_of_mem hp))
    exact ⟨q, hq, Int.le_trans h dm.1⟩
  refine ⟨top.chain, fun p hp => (src p (top.sub p hp)).1, fun p hp => (src p (top.sub p hp)).2, ?_, ?_, ?_⟩
  · show 0 ≤ d + max 0 (tk P2 d2 N - N.length)
    omega
  · refine never_app hf.nev (never_drop _ hN) fun x hx y hy => ?_
    obtain ⟨p, hp, h⟩ := hf.cov x hx
    exact Int.le_trans h (dropge p hp y hy)
  · intro x hx
    rcases List.mem_append.mp hx with hx | hx
    · obtain ⟨p, hp, h⟩ := hf.cov x hx
      by_cases ht : thr N p = true
      · obtain ⟨q, hq, dm⟩ := top.dom p (List.mem_append_right _ (List.mem_filter.mpr ⟨hp, ht⟩))
        exact ⟨q, hq, Int.le_trans h dm.1⟩
      · have : ∃ y ∈ N, p.1 ≤ y := by
          simp only [thr, decide_eq_true_eq] at ht
          simpa using ht
        obtain ⟨y, hy, hxy⟩ := this
        obtain ⟨q, hq, hyq⟩ := back y hy
        exact ⟨q, hq, by omega⟩
    · exact back x (List.mem_of_mem_drop hx)
/-- the effect of a step -/
def stepE : Stp → Ef
  | .push n c => ([(n, 0)], 0, List.replicate c.toNat n)
  | .pop c => ([], c, [])
theorem stepE_valid {s : Stp} (h : 1 ≤ s.cnt) : Valid (stepE s) := by
  cases s with
  | push n c =>
    refine ⟨List.pairwise_singleton _ _, fun p hp => ?_, fun p hp => ?_, Int.le_refl _, List.pairwise_replicate.mpr (.inr (Int.le_refl _)), fun x hx => ⟨(n, 0), List.mem_singleton.mpr rfl, ?_⟩⟩
    · rw [List.mem_singleton.mp hp]; exact Int.le_refl _
    · rw [List.mem_singleton.mp hp]; exact Int.le_refl _
    · rw [List.eq_of_mem_replicate hx]; exact Int.le_refl _
  | pop c =>
    have : 1 ≤ c := h
    refine ⟨.nil, (fun p hp => nomatch hp), (fun p hp => nomatch hp), ?_, .nil, fun x hx => nomatch hx⟩
    show 0 ≤ c
    omega
def effL (ss : List Stp) : Ef := ss.foldl (fun e s => jo e (stepE s)) ([], 0, [])
theorem id_valid : Valid ([], 0, []) := ⟨.nil, (fun p hp => nomatch hp), (fun p hp => nomatch hp), Int.le_refl _, .nil, fun x hx => nomatch hx⟩
theorem fold_valid : ∀ (ss : List Stp) (e : Ef), Valid e → (∀ s ∈ ss, 1 ≤ s.cnt) → Valid (ss.foldl (fun e s => jo e (stepE s)) e)
  | [], e, h, _ => h
  | s :: ss, e, h, hc => fold_valid ss _ (jo_valid h (stepE_valid (hc s List.mem_cons_self))) fun t ht => hc t (List.mem_cons_of_mem _ ht)
theorem effL_valid {ss : List Stp} (hc : ∀ s ∈ ss, 1 ≤ s.cnt) : Valid (effL ss) := fold_valid ss _ id_valid hc
theorem jo_len (e f : Ef) : (jo e f).1.length ≤ e.1.length + f.1.length := by
  refine Nat.le_trans (und_len _) ?_
  rw [List.length_append, List.length_map]
  have := List.length_filter_le (thr e.2.2) f.1
  omega
theorem jo_few (e f : Ef) : (runsT (jo e f).2.2).length ≤ (runsT e.2.2).length + (runsT f.2.2).length := by
  refine Nat.le_trans (runs_app_len _ _) ?_
  have := runs_drop_len (min (e.2.2.length : Int) (tk f.1 f.2.1 e.2.2)).toNat e.2.2
  omega
theorem stepE_len (s : Stp) (h : 1 ≤ s.cnt) : (stepE s).1.length ≤ 1 ∧ (runsT (stepE s).2.2).length ≤ 1 := by
  cases s with
  | push n c =>
    have : 1 ≤ c := h
    refine ⟨Nat.le_refl _, ?_⟩
    show (runsT (List.replicate c.toNat n)).length ≤ 1
    rw [runs_one n c.toNat (by omega)]
    simp
  | pop c => exact ⟨Nat.zero_le _, Nat.zero_le _⟩
theorem effect_of_step_ok' (s : Stp) (h : 1 ≤ s.cnt) : m_effect_of_step [.d s.d] = .ok ([.d s.d], .d (effE (stepE s))) := by
  rw [effect_of_step_ok s h]
  cases s <;> rfl
theorem effect_of_valid_ok {x : D} {ss : List Stp} (h : Sq x (ss.map Stp.d)) (hc : ∀ s ∈ ss, 1 ≤ s.cnt) (hl : ss.length ≤ 900) : m_effect_of_valid [.d x] = .ok ([.d x], .d (effE (effL ss))) := by
  have e0 : PyData.tuple [.tuple [], .int 0, .tuple []] = effE ([], 0, []) := rfl
  obtain ⟨t, e, hp⟩ := sFor_fold (g := gN 2) (b := l1b_effect_of_valid) (it := sIt iterA (sName 0)) (Γ := [.d x, .d (effE ([], 0, [])), .un]) (fun (e : Ef) (t : Sl) => [.d x, .d (effE e), t]) Stp.d (fun e s => jo e (stepE s))
    (fun i e => Valid e ∧ e.1.length ≤ i ∧ (runsT e.2.2).length ≤ i) (xs := ss) (s := ([], 0, [])) .un (by simp [h.it]) ⟨id_valid, Nat.le_refl _, Nat.le_refl _⟩ (fun i e t s hs hi hp => by
      obtain ⟨v, a, b⟩ := hp
      obtain ⟨a2, b2⟩ := stepE_len s (hc s hs)
      have sv := stepE_valid (hc s hs)
      refine ⟨⟨[.d x, .d (effE e), .d s.d], .d s.d, rfl, ?_⟩, jo_valid v sv, Nat.le_trans (jo_len _ _) (by omega), Nat.le_trans (jo_few _ _) (by omega)⟩
      have e2 := joined_ok e (stepE s) (by omega) (by omega) (by unfold Few; omega) (by unfold Few; omega) v.nev sv.d0
      simp [l1b_effect_of_valid, effect_of_step_ok' s (hc s hs), e2])
  have e : l1_effect_of_valid [.d x, .d (effE ([], 0, [])), .un] = _ := e
  have e1 : ss.foldl (fun e s => jo e (stepE s)) ([], 0, []) = effL ss := rfl
  rw [e1] at e
  rcases h with rfl | rfl <;> simp [m_effect_of_valid, b_effect_of_valid, e0, e]
theorem effect_of_ok {x : D} {ss : List Stp} (h : Sq x (ss.map Stp.d)) (hc : ∀ s ∈ ss, 1 ≤ s.cnt) (hl : ss.length ≤ 900) : m_effect_of [.d x] = .ok ([.d x], .d (effE (effL ss))) := by
  simp [m_effect_of, b_effect_of, check_sequence_ok h hc, effect_of_valid_ok h hc hl]
end Qa
namespace Qa
open PySem PySem.Spec PyProof.Rows L2 Evl Mi Pg Pu
/-! ### is_effect -/
theorem is_pair_tw (p : PP) : m_is_pair [.d (tw p)] = .ok ([.d (tw p)], .d (.bool (decide (0 ≤ p.2)))) := by
  simp [m_is_pair, b_is_pair, tw, is_integer_int]
/-- pairs whose thresholds rise and whose numbers after fall -/
def IsPs (P : List PP) : Prop := (∀ p ∈ P, 0 ≤ p.2) ∧ P.Pairwise fun p q => p.1 < q.1 ∧ q.2 < p.2
instance (L : List PP) : Decidable (IsPs L) := by unfold IsPs; infer_instance
theorem all_adj2 : ∀ L : List PP, ((L.zip L.tail).all fun z => (decide (z.1.1 < z.2.1) && decide (z.2.2 < z.1.2))) = true ↔ L.Pairwise fun p q => p.1 < q.1 ∧ q.2 < p.2
  | [] => by simp
  | [p] => by simp
  | p :: q :: r => by
    have ih := all_adj2 (q :: r)
    simp only [List.tail_cons, List.zip_cons_cons, List.all_cons, Bool.and_eq_true, decide_eq_true_eq] at ih ⊢
    rw [ih]
    constructor
    · rintro ⟨h1, h2⟩
      refine List.pairwise_cons.mpr ⟨fun a ha => ?_, h2⟩
      rcases List.mem_cons.mp ha with rfl | ha
      · exact h1
      · have := (List.pairwise_cons.mp h2).1 a ha
        omega
    · intro h
      obtain ⟨h1, h2⟩ := List.pairwise_cons.mp h
      exact ⟨h1 q List.mem_cons_self, h2⟩
theorem are_pairs_rt (P : List PP) (hl : P.length ≤ 100000) : m_are_pairs [.d (rt P)] = .ok ([.d (rt P)], .d (.bool (decide (IsPs P)))) := by
  have h1 : l1_are_pairs [.d (rt P), .un, .un, .un, .un] = .ok ([.d (rt P), .un, .un, .un, .un], .f (P.map fun p => .bool (decide (0 ≤ p.2)))) :=
    sLc_map tw _ (by simp [rt]) rfl (fun p _ => ⟨[.d (rt P), .un, .d (tw p), .un, .un], rfl, by simp [is_pair_tw], rfl⟩) (by omega)
  have hz : listZipG [rt P, .tuple (P.map tw).tail] = .ok (.f ((P.zip P.tail).map fun z => .tuple [tw z.1, tw z.2])) := by
    rw [rt, z_listZip, ← List.map_tail, pairUp_map]
  have hs : slG (rt P) (some 1) none = .ok (.d (.tuple (P.map tw).tail)) := by rw [rt, q_slGt, cut_drop1]
  have t : tyD (rt P) = some "tuple" := rfl
  have h2 : ∀ Z : List (PP × PP), Z.length ≤ 100000 → l2_are_pairs [.d (rt P), .d (.list (Z.map fun z => .tuple [tw z.1, tw z.2])), .un, .un, .un] = .ok ([.d (rt P), .d (.list (Z.map fun z => .tuple [tw z.1, tw z.2])), .un, .un, .un], .f (Z.map fun z => .bool (decide (z.1.1 < z.2.1) && decide (z.2.2 < z.1.2)))) := fun Z hZ =>
    sLc_map (fun z : PP × PP => .tuple [tw z.1, tw z.2]) _ (by simp) rfl (fun z _ => ⟨[.d (rt P), .d (.list (Z.map fun z => .tuple [tw z.1, tw z.2])), .un, .d (tw z.1), .d (tw z.2)], by simp, by
      by_cases a : z.1.1 < z.2.1 <;> simp [tw, a], rfl⟩) (by omega)
  have h2' : ∀ Z : List (PP × PP), Z.length ≤ 100000 → l2_are_pairs [.d (rt P), .own false (Z.map fun z => .tuple [tw z.1, tw z.2]), .un, .un, .un] = .ok ([.d (rt P), .d (.list (Z.map fun z => .tuple [tw z.1, tw z.2])), .un, .un, .un], .f (Z.map fun z => .bool (decide (z.1.1 < z.2.1) && decide (z.2.2 < z.1.2)))) := fun Z hZ => by
    rw [← h2 Z hZ]
    unfold l2_are_pairs sLc
    simp
  have hZ : (P.zip P.tail).length ≤ 100000 := by simp; omega
  by_cases a : (∀ p ∈ P, 0 ≤ p.2)
  · have a1 : (P.all fun p => decide (0 ≤ p.2)) = true := by simpa using a
    have a2 : decide (IsPs P) = ((P.zip P.tail).all fun z => (decide (z.1.1 < z.2.1) && decide (z.2.2 < z.1.2))) := by
      rw [Bool.eq_iff_iff, all_adj2, decide_eq_true_eq]
      exact ⟨fun h => h.2, fun h => ⟨a, h⟩⟩
    simp only [m_are_pairs, b_are_pairs, a2]
    simp [h1, hz, hs, h2' _ hZ, t, allG_map, a1]
  · have a1 : (P.all fun p => decide (0 ≤ p.2)) = false := by
      rw [Bool.eq_false_iff]
      intro h
      exact a (by simpa using h)
    have a2 : decide (IsPs P) = false := decide_eq_false fun h => a h.1
    simp only [m_are_pairs, b_are_pairs, a2]
    simp [h1, t, allG_map, a1]
theorem eqS_rt_nil {P : List PP} : eqS (rt P) (.tuple []) = .ok (.d (.bool (decide (P = [])))) := eqS_fl (by simp) (by simp) (by cases P <;> simp [rt])
theorem is_effect_ok {e : Ef} (v : Valid e) (h1 : e.1.length ≤ 1000) (hf : Few e.2.2) : m_is_effect [.d (effE e)] = .ok ([.d (effE e)], .d (.bool true)) := by
  obtain ⟨P, d, N⟩ := e
  have hps : decide (IsPs P) = true := decide_eq_true ⟨v.nn, v.chain⟩
  have e1 := are_pairs_rt P (by dsimp only at h1; omega)
  rw [hps] at e1
  have e2 := is_stack_stk hf v.nev
  have hd := v.d0
  dsimp only at hd e2
  have a0 : gTup' (gCons' (gN 1) (gCons' (gN 2) (gCons' (gN 3) gNil'))) 3 (eff P d N) [.d (eff P d N), .un, .un, .un] = some [.d (eff P d N), .d (rt P), .d (.int d), .d (stk N)] := by simp [eff]
  have t : tyD (eff P d N) = some "tuple" := rfl
  have l : lenG (eff P d N) = .ok (.d (.int 3)) := rfl
  cases P with
  | nil =>
    have hN : N = [] := by
      cases N with
      | nil => rfl
      | cons x N => obtain ⟨p, hp, _⟩ := v.cov x List.mem_cons_self; cases hp
    subst hN
    have hd' : ¬ d < 0 := by omega
    simp [m_is_effect, b_is_effect, t, l, a0, e1, e2, is_integer_int, eqS_rt_nil, eqS_stk_nil, hd']
  | cons p P =>
    have i1 : ixG (rt (p :: P)) (.int 0) = .ok (.d (tw p)) := by simp [rt]
    have i2 : ixG (tw p) (.int 1) = .ok (.d (.int p.2)) := by simp [tw]
    have hd' : ¬ d < 0 := by omega
    have le : p.2 ≤ d := v.le p List.mem_cons_self
    obtain ⟨q, hq⟩ : ∃ q, (p :: P).getLast? = some q := by
      cases e : (p :: P).getLast? with
      | none => simp at e
      | some q => exact ⟨q, rfl⟩
    have i3 : ixG (rt (p :: P)) (.int (-1)) = .ok (.d (tw q)) := by
      have : atI ((p :: P).map tw) (-1) = some (tw q) := at_last (by rw [List.getLast?_map, hq]; rfl)
      rw [rt, z_ixt, this]
    have i4 : ∀ r : PP, ixG (tw r) (.int 0) = .ok (.d (.int r.1)) := fun r => by simp [tw]
    cases eN : N.getLast? with
    | none =>
      have hN := List.getLast?_eq_none_iff.mp eN
      subst hN
      simp [m_is_effect, b_is_effect, t, l, a0, e1, e2, is_integer_int, eqS_rt_nil, eqS_stk_nil, hd', i1, i2, le]
    | some n =>
      obtain ⟨c, hb⟩ := bottom_stk eN
      have ne : N ≠ [] := fun z => by rw [z] at eN; cases eN
      have nq : n ≤ q.1 := by
        obtain ⟨r, hr, h⟩ := v.cov n (List.mem_of_getLast? eN)
        have : r.1 ≤ q.1 := by
          have hc := v.chain
          dsimp only at hc hr
          rcases List.mem_iff_append.mp hr with ⟨A, B, eAB⟩
          have hq' : q ∈ r :: B := by
            rw [eAB, List.getLast?_append] at hq
            cases hB : (r :: B).getLast? with
            | none => simp at hB
            | some z =>
              rw [hB] at hq
              simp at hq
              subst hq
              exact List.mem_of_getLast? hB
          rw [eAB] at hc
          rcases List.mem_cons.mp hq' with e | hq'
          · rw [e]; exact Int.le_refl _
          · have := (List.pairwise_cons.mp (List.pairwise_append.mp hc).2.1).1 q hq'
            omega
        omega
      simp [m_is_effect, b_is_effect, t, l, a0, e1, e2, is_integer_int, eqS_rt_nil, eqS_stk_nil, hd', i1, i2, i3, i4, le, ne, hb, nq]
theorem check_effect_ok {e : Ef} (v : Valid e) (h1 : e.1.length ≤ 1000) (hf : Few e.2.2) : m_check_effect [.d (effE e)] = .ok ([.d (effE e)], .d .none) := by
  simp [m_check_effect, b_check_effect, is_effect_ok v h1 hf]
end Qa
namespace Qa
open PySem PySem.Spec PyProof.Rows L2 Evl Mi Pg Pu
/-! ### what the laws draw -/
@[simp] theorem z_rng1 {k : Int} (h1 : -4611686018427387904 ≤ k) (h2 : k < 4611686018427387904) : rng1 [.int k] = .ok (rangeD 0 k.toNat) := by
  have : fits62 k = true := okB_of ⟨by omega, by omega⟩
  simp [rng1, this]
@[simp] theorem z_rng2 {i j : Int} (h1 : -4611686018427387904 ≤ i) (h2 : i < 4611686018427387904) (h3 : -4611686018427387904 ≤ j) (h4 : j < 4611686018427387904) : rng2 [.int i, .int j] = .ok (rangeD i (j - i).toNat) := by
  have a : fits62 i = true := okB_of ⟨by omega, by omega⟩
  have b : fits62 j = true := okB_of ⟨by omega, by omega⟩
  simp [rng2, a, b]
theorem rangeD_length (lo : Int) (n : Nat) : (rangeD lo n).length = n := by simp [rangeD]
abbrev Pool := Int × Int
def pl (p : Pool) : List D := [.int p.1, .int p.2]
def nextS (s : Int) : Int := (s * 48271 + 12345) % 2147483647
def tv (p : Pool) (n : Int) : Int := if 0 < p.1 then p.1 % n else nextS p.2 * nextS p.2 % 2147483629 / 64 % n
def nx (p : Pool) (n : Int) : Pool := if 0 < p.1 then (p.1 / n, p.2) else (p.1, nextS p.2)
theorem nextS_lt (s : Int) : 0 ≤ nextS s ∧ nextS s < 2147483647 := ⟨Int.emod_nonneg _ (by decide), Int.emod_lt_of_pos _ (by decide)⟩
theorem tv_lt (p : Pool) {n : Int} (hn : 0 < n) : 0 ≤ tv p n ∧ tv p n < n := by
  unfold tv
  split
  · exact ⟨Int.emod_nonneg _ (by omega), Int.emod_lt_of_pos _ hn⟩
  · exact ⟨Int.emod_nonneg _ (by omega), Int.emod_lt_of_pos _ hn⟩
theorem log2_lt {n : Int} (h0 : 0 < n) (h : n < 2 ^ 4000) : n.natAbs.log2 < 9000 := by
  have h2 : n.natAbs ≠ 0 := by omega
  have h1 : n.natAbs < 2 ^ 4000 := by
    have e : ((2 : Int) ^ 4000) = ((2 ^ 4000 : Nat) : Int) := by norm_cast
    rw [e] at h
    omega
  have := (Nat.log2_lt h2).mpr h1
  omega
theorem take_ok (p : Pool) {n : Int} (hn : 0 < n) (hn2 : n < 2 ^ 4000) : m__law_take [.own true (pl p), .d (.int n)] = .ok ([.own true (pl (nx p n)), .d (.int n)], .d (.int (tv p n))) := by
  have hl : n.natAbs.log2 < 9000 := log2_lt hn hn2
  have l64 : Nat.log2 64 < 9000 := by decide +kernel
  obtain ⟨h, s⟩ := p
  by_cases hh : 0 < h
  · simp [m__law_take, b__law_take, pl, nx, tv, hh, hn, hl]
  · have m2 : mulOk (nextS s) (nextS s) = true := by
      obtain ⟨a, b⟩ := nextS_lt s
      exact mul_small (by omega) (by omega)
    have e : (s * 48271 + 12345) % 2147483647 = nextS s := rfl
    simp [m__law_take, b__law_take, pl, nx, tv, hh, hn, l64, e, m2]
/-- one of three that are drawn -/
theorem three {P : D → Prop} {a b c : D} {v : Int} (h0 : 0 ≤ v) (h3 : v < 3) (ha : P a) (hb : P b) (hc : P c) : ∃ x, atI [a, b, c] v = some x ∧ P x := by
  obtain ⟨k, rfl⟩ := Int.eq_ofNat_of_zero_le h0
  match k, h3 with
  | 0, _ => exact ⟨a, rfl, ha⟩
  | 1, _ => exact ⟨b, rfl, hb⟩
  | 2, _ => exact ⟨c, rfl, hc⟩
  | k + 3, h => omega
/-- steps as they are drawn: at most so many, few numbers, small counts -/
structure Drawn (ss : List Stp) (most : Nat) (lo hi c : Int) : Prop where
  len : ss.length ≤ most
  cnt : ∀ s ∈ ss, 1 ≤ s.cnt ∧ s.cnt ≤ c
  num : ∀ n k, Stp.push n k ∈ ss → lo ≤ n ∧ n < hi
theorem Drawn.snoc {ss : List Stp} {most : Nat} {lo hi c : Int} {s : Stp} (h : Drawn ss most lo hi c) (h1 : 1 ≤ s.cnt ∧ s.cnt ≤ c) (h2 : ∀ n k, s = Stp.push n k → lo ≤ n ∧ n < hi) : Drawn (ss ++ [s]) (most + 1) lo hi c where
  len := by rw [List.length_append]; exact Nat.succ_le_succ h.len
  cnt := fun t ht => by
    rcases List.mem_append.mp ht with ht | ht
    · exact h.cnt t ht
    · rw [List.mem_singleton.mp ht]; exact h1
  num := fun n k ht => by
    rcases List.mem_append.mp ht with ht | ht
    · exact h.num n k ht
    · exact h2 n k (List.mem_singleton.mp ht).symm
theorem Drawn.ok {ss : List Stp} {most : Nat} {lo hi c : Int} (h : Drawn ss most lo hi c) : ∀ s ∈ ss, 1 ≤ s.cnt := fun s hs => (h.cnt s hs).1
theorem Drawn.more {ss : List Stp} {most m : Nat} {lo hi c : Int} (h : Drawn ss most lo hi c) (hm : most ≤ m) : Drawn ss m lo hi c := ⟨Nat.le_trans h.len hm, h.cnt, h.num⟩
theorem steps_turn (p : Pool) (most : D) (wide : Int) (hw : 0 < wide) (hw2 : wide < 2 ^ 4000) (ss : List Stp) (hl : ss.length ≤ 1000) (x : D) (s5 : Sl) : ∃ (q : Pool) (s : Stp) (t5 : Sl), l1b__law_steps_k04 [.own true (pl p), .d most, .d (.int wide), .own false (ss.map Stp.d), .d x, s5] =
    .ok ([.own true (pl q), .d most, .d (.int wide), .own false ((ss ++ [s]).map Stp.d), .d x, t5], .nx) ∧ (1 ≤ s.cnt ∧ s.cnt ≤ 3) ∧ ∀ n k, s = Stp.push n k → -(wide / 3) ≤ n ∧ n < wide - wide / 3 := by
  have t1 := take_ok p (n := 3) (by decide) (by decide)
  have t2 := take_ok (nx p 3) (n := 3) (by decide) (by decide)
  have t3 := take_ok (nx (nx p 3) 3) (n := 5) (by decide) (by decide)
  have t4 := take_ok (nx (nx (nx p 3) 3) 5) hw hw2
  obtain ⟨a0, a1⟩ := tv_lt p (n := 3) (by decide)
  obtain ⟨b0, b1⟩ := tv_lt (nx p 3) (n := 3) (by decide)
  obtain ⟨d0, d1⟩ := tv_lt (nx (nx (nx p 3) 3) 5) hw
  obtain ⟨x5, e5, c, rfl, c1, c3⟩ := three (P := fun y => ∃ c : Int, y = .int c ∧ 1 ≤ c ∧ c ≤ 3) (a := .int 1) (b := .int 1) (c := .int (1 + tv p 3)) b0 b1 ⟨1, rfl, by decide, by decide⟩ ⟨1, rfl, by decide, by decide⟩ ⟨_, rfl, by omega, by omega⟩
  have l3 : Nat.log2 3 < 9000 := by decide +kernel
  have hl' : ss.length < 16777216 := by omega
  by_cases h : tv (nx (nx p 3) 3) 5 < 2
  · refine ⟨nx (nx (nx p 3) 3) 5, .pop c, .d (.int c), ?_, ⟨c1, c3⟩, fun n k e => by cases e⟩
    simp [l1b__law_steps_k04, t1, t2, t3, e5, h, hl', Stp.d]
  · refine ⟨nx (nx (nx (nx p 3) 3) 5) wide, .push (tv (nx (nx (nx p 3) 3) 5) wide - wide / 3) c, .d (.int c), ?_, ⟨c1, c3⟩, fun n k e => by cases e; omega⟩
    simp [l1b__law_steps_k04, t1, t2, t3, t4, e5, h, hl', l3, Stp.d]
theorem steps_ok (p : Pool) (most : Nat) (wide : Int) (hm : most ≤ 900) (hw : 0 < wide) (hw2 : wide < 2 ^ 4000) : ∃ (q : Pool) (ss : List Stp), m__law_steps_k04 [.own true (pl p), .d (.int most), .d (.int wide)] = .ok ([.own true (pl q), .d (.int most), .d (.int wide)], .f (ss.map Stp.d)) ∧ Drawn ss most (-(wide / 3)) (wide - wide / 3) 3 := by
  have t1 := take_ok p (n := (most : Int) + 1) (by omega) (by
    have : (2 : Int) ^ 10 ≤ 2 ^ 4000 := by decide +kernel
    omega)
  obtain ⟨a0, a1⟩ := tv_lt p (n := (most : Int) + 1) (by omega)
  have hk : (tv p ((most : Int) + 1)).toNat ≤ most := by omega
  obtain ⟨G, e, q, ss, x4, x5, rfl, hd⟩ := forL_all (g := gN 4) (b := l1b__law_steps_k04) (xs := rangeD 0 (tv p ((most : Int) + 1)).toNat) (Γ := [.own true (pl (nx p ((most : Int) + 1))), .d (.int most), .d (.int wide), .own false [], .un, .un])
    (fun i Γ => ∃ (q : Pool) (ss : List Stp) (x4 x5 : Sl), Γ = [.own true (pl q), .d (.int most), .d (.int wide), .own false (ss.map Stp.d), x4, x5] ∧ Drawn ss i (-(wide / 3)) (wide - wide / 3) 3)
    ⟨_, [], _, _, rfl, ⟨Nat.le_refl _, (fun s hs => nomatch hs), (fun n k hs => nomatch hs)⟩⟩ (fun i x Γ hi ⟨q, ss, x4, x5, hΓ, hd⟩ => by
      subst hΓ
      have hi' : i < (tv p ((most : Int) + 1)).toNat := by
        have := (List.getElem?_eq_some_iff.mp hi).1
        rwa [rangeD_length] at this
      have hl := hd.len
      obtain ⟨q', s, t5, e, h1, h2⟩ := steps_turn q (.int most) wide hw hw2 ss (by omega) x x5
      exact ⟨_, _, rfl, e, q', ss ++ [s], .d x, t5, rfl, hd.snoc h1 h2⟩)
  rw [rangeD_length] at hd
  have hl : l1__law_steps_k04 [.own true (pl p), .d (.int most), .d (.int wide), .own false [], .un, .un] = .ok ([.own true (pl q), .d (.int most), .d (.int wide), .own false (ss.map Stp.d), x4, x5], .nx) := by
    have r1 := z_rng1 (k := tv p ((most : Int) + 1)) (by omega) (by omega)
    unfold l1__law_steps_k04 sFor
    simp [t1, r1]
    exact e
  exact ⟨q, ss, by simp [m__law_steps_k04, b__law_steps_k04, hl], hd.more hk⟩
end Qa
namespace Qa
open PySem PySem.Spec PyProof.Rows L2 Evl Mi Pg Pu
@[simp] theorem z_p18 : powG (.int 10) (.int 18) = .ok (.d (.int 1000000000000000000)) := p18
@[simp] theorem z_p30 : powG (.int 10) (.int 30) = .ok (.d (.int 1000000000000000000000000000000)) := p30
/-- an int below a bound -/
theorem emod_b (a : Int) {n : Int} (h : 0 < n) : 0 ≤ a % n ∧ a % n < n := ⟨Int.emod_nonneg _ (by omega), Int.emod_lt_of_pos _ h⟩
theorem pool01_ok (ns : List Int) (k : Nat) (hk : k < 64) : ∃ p : Pool, m__law_pool_k01 [.scr ns, .d (.int k)] = .ok ([.scr ns, .d (.int k)], .f (pl p)) := by
  have mk := fun i => mul_small (i := i) (j := (k : Int) + 1) (by omega) (by omega)
  have mk7 := fun i => mul_small (i := i) (j := (k : Int) + 7) (by omega) (by omega)
  have mb := fun i : Int => by
    obtain ⟨a, b⟩ := emod_b i (n := 2147483629) (by decide)
    exact mul_small (i := i % 2147483629) (j := i % 2147483629) (by omega) (by omega)
  have m01 : ∀ (i : Int) (p : Prop) [Decidable p], mulOk i (if p then 1 else 0) = true := fun i p _ => by split <;> exact mul_small (by decide) (by decide)
  have key : ∀ c : Int, ∃ p : Pool, (sSeq (sSet 3 (sUn absG (sName 2)))
      (sSeq (sSet 4 (sBin modG (sPub (sBin mulG (sPub (sBin addG (sPub (sBin modG (sName 2) (sC (.int 2147483629)))) (sPub (sBin mulG (sC (.int 104729)) (sPub (sBin addG (sName 1) (sC (.int 1)))))))) (sPub (sBin addG (sName 1) (sC (.int 7)))))) (sC (.int 2147483629))))
      (sSeq (sSet 5 (sBin modG (sPub (sBin mulG (sPub (sBin modG (sPub (sBin mulG (sName 4) (sName 4))) (sC (.int 2147483629)))) (sC (.int 48271)))) (sC (.int 2147483647))))
      (sRet (sLst (sCons (sPub (sBin mulG (sName 3) (sPub (sUn intG (sPub (sBin geG (sName 3) (sPub (sBin powG (sC (.int 10)) (sC (.int 18)))))))))) (sCons (sName 5) sNil))))))) [.scr ns, .d (.int k), .d (.int c), .un, .un, .un]
      = .ok ([.scr ns, .d (.int k), .d (.int c), .d (.int (if c < 0 then -c else c)), .d (.int ((c % 2147483629 + 104729 * (k + 1)) * (k + 7) % 2147483629)), .d (.int p.2)], .rt (.f (pl p))) := fun c => by
    refine ⟨((if c < 0 then -c else c) * (if 1000000000000000000 ≤ (if c < 0 then -c else c) then 1 else 0), (c % 2147483629 + 104729 * (k + 1)) * (k + 7) % 2147483629 * ((c % 2147483629 + 104729 * (k + 1)) * (k + 7) % 2147483629) % 2147483629 * 48271 % 2147483647), ?_⟩
    generalize hm : (if c < 0 then -c else c) = m
    simp [mk, mk7, mb, hm, m01, pl]
  by_cases hl : k < ns.length
  · have hl' : (k : Int) < (ns.length : Int) := by omega
    have e : atI ns (k : Int) = some ns[k] := atI_nat (List.getElem?_eq_getElem hl)
    obtain ⟨p, e1⟩ := key ns[k]
    refine ⟨p, ?_⟩
    unfold m__law_pool_k01 b__law_pool_k01
    generalize (sSeq (sSet 3 (sUn absG (sName 2))) _) = T at e1 ⊢
    simp [sLenScr, sIxScr, hl', e, e1]
  · have hl' : ¬ (k : Int) < (ns.length : Int) := by omega
    obtain ⟨p, e1⟩ := key 0
    refine ⟨p, ?_⟩
    unfold m__law_pool_k01 b__law_pool_k01
    generalize (sSeq (sSet 3 (sUn absG (sName 2))) _) = T at e1 ⊢
    simp [sLenScr, sIxScr, hl', e1]
end Qa
namespace Qa
open PySem PySem.Spec PyProof.Rows L2 Evl Mi Pg Pu
/-! ### plain lists of numbers, the bottom first -/
def il (T : List Int) : List D := T.reverse.map .int
theorem il_len (T : List Int) : (il T).length = T.length := by simp [il]
theorem il_cons (n : Int) (T : List Int) : il (n :: T) = il T ++ [.int n] := by simp [il]
theorem il_last (n : Int) (T : List Int) : (il (n :: T)).getLast? = some (.int n) := by rw [il_cons]; simp
theorem il_drop (n : Int) (T : List Int) : (il (n :: T)).dropLast = il T := by rw [il_cons]; simp
theorem il_at (n : Int) (T : List Int) : atI (il (n :: T)) (-1) = some (.int n) := at_last (il_last n T)
theorem fl_il {k : Nat} (T : List Int) : fl (k + 1) (.list (il T)) = true := by
  rw [fl_lst]
  exact flAll_map fun p _ => fl_int
theorem il_nil {T : List Int} : PyData.list (il T) = .list [] ↔ T = [] := by
  cases T <;> simp [il]
theorem eq_il (T : List Int) : eqS (.list (il T)) (.list []) = .ok (.d (.bool (decide (T = [])))) := eqS_fl (fl_il T) (by simp) il_nil
theorem ne_il (T : List Int) : neS (.list (il T)) (.list []) = .ok (.d (.bool (!decide (T = [])))) := neS_fl (fl_il T) (by simp) il_nil
/-! ### _law_runs -/
theorem runs_fold : ∀ (L : List Int) (T : List Int), L.foldl (fun R n => addR n R) (runsT T) = runsT (L.reverse ++ T)
  | [], T => rfl
  | n :: L, T => by
    rw [List.foldl_cons]
    have := runs_fold L (n :: T)
    rw [show addR n (runsT T) = runsT (n :: T) from rfl, this]
    simp
theorem addR_len (n : Int) (R : List PP) : (addR n R).length ≤ R.length + 1 := by
  cases R with
  | nil => simp [addR]
  | cons q r => obtain ⟨m, c⟩ := q; simp only [addR]; split <;> simp
theorem runs_turn (x : Sl) (R : List PP) (n : Int) (hl : R.length ≤ 100000) : l1b__law_runs [x, .own false (R.reverse.map tw), .d (.int n)] = .ok ([x, .own false ((addR n R).reverse.map tw), .d (.int n)], .nx) := by
  cases R with
  | nil =>
    have : neS (.list []) (.list []) = .ok (.d (.bool false)) := neS_same (by simp)
    simp [l1b__law_runs, addR, this, tw]
  | cons q r =>
    obtain ⟨m, c⟩ := q
    have e1 : neS (.list ((((m, c) :: r).reverse).map tw)) (.list []) = .ok (.d (.bool true)) := by
      refine (neS_fl (p := False) ?_ (by simp) (by simp)).trans (by simp)
      rw [fl_lst]
      exact flAll_map fun p _ => fl_tw
    have e2 : atI (((m, c) :: r).reverse.map tw) (-1) = some (tw (m, c)) := at_last (by simp)
    have e3 : ixG (tw (m, c)) (.int 0) = .ok (.d (.int m)) := by simp [tw]
    have e4 : ixG (tw (m, c)) (.int 1) = .ok (.d (.int c)) := by simp [tw]
    have hl' : (((m, c) :: r).reverse.map tw).length < 16777216 := by simp at hl ⊢; omega
    have e5 : ixN (((m, c) :: r).reverse.map tw).length (-1) = some r.length := by
      unfold ixN
      rw [if_neg (by omega), if_pos (by simp; omega)]
      simp
      omega
    have e6 : (((m, c) :: r).reverse.map tw).set r.length (.tuple [.int n, .int (c + 1)]) = r.reverse.map tw ++ [tw (n, c + 1)] := by
      rw [List.reverse_cons, List.map_append, List.set_append_right _ _ (by simp)]
      simp [tw]
    by_cases h : m = n
    · subst h
      have e7 : (addR m ((m, c) :: r)).reverse.map tw = r.reverse.map tw ++ [tw (m, c + 1)] := by simp [addR]
      rw [e7, ← e6]
      generalize ((m, c) :: r).reverse.map tw = L at e1 e2 hl' e5
      simp [l1b__law_runs, e1, e2, e3, e4, e5]
    · have e7 : (addR n ((m, c) :: r)).reverse.map tw = ((m, c) :: r).reverse.map tw ++ [tw (n, 1)] := by simp [addR, h]
      rw [e7]
      generalize ((m, c) :: r).reverse.map tw = L at e1 e2 hl' e5
      simp [l1b__law_runs, e1, e2, e3, e4, h, hl', tw]
theorem runs_ok {x : D} {L : List Int} (h : Sq x (L.map .int)) (hl : L.length ≤ 100000) : m__law_runs [.d x] = .ok ([.d x], .d (stk L.reverse)) := by
  obtain ⟨t, e, hp⟩ := sFor_fold (g := gN 2) (b := l1b__law_runs) (it := sIt iterA (sName 0)) (Γ := [.d x, .own false [], .un]) (fun (R : List PP) (t : Sl) => [.d x, .own false (R.reverse.map tw), t]) PyData.int (fun R n => addR n R)
    (fun i R => R.length ≤ i) (xs := L) (s := []) .un (by simp [h.it]) (Nat.le_refl _) (fun i R t n hn hi hp => ⟨⟨[.d x, .own false (R.reverse.map tw), .d (.int n)], .d (.int n), rfl, runs_turn _ R n (by omega)⟩, Nat.le_trans (addR_len n R) (by omega)⟩)
  have e : l1__law_runs [.d x, .own false [], .un] = _ := e
  have e1 := runs_fold L []
  rw [List.append_nil] at e1
  rw [show runsT [] = [] from rfl] at e1
  rw [e1] at e
  have e2 : PyData.tuple ((runsT L.reverse).reverse.map tw) = stk L.reverse := rfl
  generalize (runsT L.reverse).reverse.map tw = M at e e2
  simp [m__law_runs, b__law_runs, e, e2]
/-! ### _law_effect -/
structure Ls where
  T : List Int
  C : List PP
  d : Int
abbrev lsl (x : D) (s : Ls) (y : D) (t : Sl) : Ga := [.d x, .own false (il s.T), .own false (s.C.map tw), .d (.int s.d), .d y, t, .un, .un, .un, .un, .un]
def Ls.one (s : Ls) : Stp → Ls
  | .push n _ => ⟨n :: s.T.dropWhile (fun m => decide (m < n)), if s.T.dropWhile (fun m => decide (m < n)) = [] then s.C ++ [(n, s.d)] else s.C, s.d⟩
  | .pop _ => if s.T = [] then ⟨[], s.C, s.d + 1⟩ else ⟨s.T.tail, s.C, s.d⟩
theorem while_pop (x : D) (C : List D) (d n c : Int) (t : Sl) : ∀ T : List Int, l1__law_effect_k06 [.d x, .own false (il T), .own false C, .d (.int d), .d (Stp.push n c).d, t, .un, .un, .un, .un, .un] = .ok ([.d x, .own false (il (T.dropWhile fun m => decide (m < n))), .own false C, .d (.int d), .d (Stp.push n c).d, t, .un, .un, .un, .un, .un], .nx)
  | [] => by
    have := ne_il []
    exact sWhile_end (by simp [l1c__law_effect_k06, this])
  | m :: T => by
    have e1 := ne_il (m :: T)
    have e2 := il_at m T
    have e3 := il_last m T
    have e4 := il_drop m T
    have ix : ixG (Stp.push n c).d (.int 1) = .ok (.d (.int n)) := by simp [Stp.d]
    by_cases h : m < n
    · rw [List.dropWhile_cons_of_pos (by simpa using h)]
      refine sWhile_go (fl := .nx) (Γ1 := [.d x, .own false (il (m :: T)), .own false C, .d (.int d), .d (Stp.push n c).d, t, .un, .un, .un, .un, .un]) ?_ ?_ (.inl rfl) (while_pop x C d n c t T) (by simp)
      · simp [l1c__law_effect_k06, e1, e2, ix, h]
      · simp [l1b__law_effect_k06, e3, e4]
    · rw [List.dropWhile_cons_of_neg (by simpa using h)]
      exact sWhile_end (by simp [l1c__law_effect_k06, e1, e2, ix, h])
theorem ls_one_ok (x : D) (s : Ls) (st : Stp) (t : Sl) (h1 : s.T.length ≤ 100000) (h2 : s.C.length ≤ 100000) : l2b__law_effect_k06 (lsl x s st.d t) = .ok (lsl x (s.one st) st.d t, .nx) := by
  obtain ⟨T, C, d⟩ := s
  dsimp only at h1 h2
  cases st with
  | push n c =>
    have e0 := while_pop x (C.map tw) d n c t T
    have i0 : ixG (Stp.push n c).d (.int 0) = .ok (.d (.str "push")) := by simp [Stp.d]
    have i1 : ixG (Stp.push n c).d (.int 1) = .ok (.d (.int n)) := by simp [Stp.d]
    have hl : (T.dropWhile fun m => decide (m < n)).length ≤ T.length := by
      obtain ⟨k, ek⟩ := drop_while_eq T fun m => decide (m < n)
      rw [ek, List.length_drop]; omega
    show _ = Res.ok (lsl x ⟨_, _, _⟩ _ t, _)
    generalize T.dropWhile (fun m => decide (m < n)) = U at e0 hl
    have e1 := eq_il U
    have e2 : (il U).length < 16777216 := by rw [il_len]; omega
    have e3 : C.length < 16777216 := by omega
    have e4 := il_cons n U
    by_cases h : U = []
    · subst h
      simp [lsl, l2b__law_effect_k06, e0, i0, i1, e1, e2, e3, e4, tw]
    · simp [lsl, l2b__law_effect_k06, e0, i0, i1, e1, e2, e3, e4, h]
  | pop c =>
    have i0 : ixG (Stp.pop c).d (.int 0) = .ok (.d (.str "pop")) := by simp [Stp.d]
    cases T with
    | nil =>
      have e1 := ne_il []
      simp [lsl, l2b__law_effect_k06, i0, e1, pp_ne, Ls.one]
    | cons m T =>
      have e1 := ne_il (m :: T)
      have e3 := il_last m T
      have e4 := il_drop m T
      simp [lsl, l2b__law_effect_k06, i0, e1, e3, e4, pp_ne, Ls.one]
def Ls.rep (st : Stp) : Nat → Ls → Ls
  | 0, s => s
  | k + 1, s => Ls.rep st k (s.one st)
theorem fold_rep {α : Type} (st : Stp) : ∀ (xs : List α) (s : Ls), xs.foldl (fun s _ => s.one st) s = Ls.rep st xs.length s
  | [], s => rfl
  | _ :: xs, s => fold_rep st xs (s.one st)
theorem one_len (s : Ls) (st : Stp) : (s.one st).T.length ≤ s.T.length + 1 ∧ (s.one st).C.length ≤ s.C.length + 1 := by
  cases st with
  | push n c =>
    obtain ⟨k, ek⟩ := drop_while_eq s.T fun m => decide (m < n)
    refine ⟨?_, ?_⟩
    · show (n :: s.T.dropWhile _).length ≤ _
      rw [List.length_cons, ek, List.length_drop]; omega
    · show (if s.T.dropWhile (fun m => decide (m < n)) = [] then s.C ++ [(n, s.d)] else s.C).length ≤ _
      split <;> simp
  | pop c =>
    simp only [Ls.one]
    split <;> simp <;> omega
theorem turns_ok (x : D) (s : Ls) (st : Stp) (t : Sl) (hc0 : 0 ≤ st.cnt) (hc : st.cnt ≤ 1000) (h1 : s.T.length ≤ 10000) (h2 : s.C.length ≤ 10000) : ∃ t', l3b__law_effect_k06 (lsl x s st.d t) = .ok (lsl x (Ls.rep st st.cnt.toNat s) st.d t', .nx) := by
  obtain ⟨t', e, hp⟩ := sFor_fold (g := gN 5) (b := l2b__law_effect_k06) (it := sItA rng1 (sCons (sPub (sBin ixG (sName 4) (sPub (sUn negG (sC (.int 1)))))) sNil)) (Γ := lsl x s st.d t) (fun (s : Ls) (t : Sl) => lsl x s st.d t) (fun i : Nat => PyData.int (0 + i)) (fun s _ => s.one st)
    (fun i s => s.T.length ≤ 10000 + i ∧ s.C.length ≤ 10000 + i) (xs := List.range st.cnt.toNat) (s := s) t (by
      have i0 : ixG st.d (.int (-1)) = .ok (.d (.int st.cnt)) := by
        have : atI (match st with | .push n c => [.str "push", .int n, .int c] | .pop c => [.str "pop", .int c] : List D) (-1) = some (.int st.cnt) := at_last (by cases st <;> rfl)
        cases st <;> simp only [Stp.d, z_ixt] <;> simp only [this]
      have r := z_rng1 (k := st.cnt)
      simp [lsl, i0, show -4611686018427387904 ≤ st.cnt by omega, show st.cnt < 4611686018427387904 by omega, rangeD]) ⟨by omega, by omega⟩ (fun i s t k hk hi hp => by
      rw [List.length_range] at hi
      obtain ⟨a, b⟩ := one_len s st
      exact ⟨⟨lsl x s st.d (.d (.int (0 + k))), .d (.int (0 + k)), rfl, ls_one_ok x s st _ (by omega) (by omega)⟩, by omega, by omega⟩)
  refine ⟨t', ?_⟩
  rw [fold_rep, List.length_range] at e
  exact e
theorem rep_push (n c : Int) : ∀ (k : Nat) (T : List Int) (C : List PP) (d : Int), Ls.rep (.push n c) k ⟨n :: T, C, d⟩ = ⟨List.replicate k n ++ n :: T, C, d⟩
  | 0, T, C, d => rfl
  | k + 1, T, C, d => by
    rw [Ls.rep]
    have e : (⟨n :: T, C, d⟩ : Ls).one (.push n c) = ⟨n :: n :: T, C, d⟩ := by
      have : ¬ n < n := by omega
      simp [Ls.one, this]
    rw [e, rep_push n c k (n :: T) C d]
    congr 1
    rw [List.replicate_succ']
    simp
theorem many_push (n c : Int) (s : Ls) (h : 1 ≤ c) : Ls.rep (.push n c) c.toNat s = ⟨push s.T n c.toNat, if s.T.dropWhile (fun m => decide (m < n)) = [] then s.C ++ [(n, s.d)] else s.C, s.d⟩ := by
  obtain ⟨k, hk⟩ : ∃ k, c.toNat = k + 1 := ⟨c.toNat - 1, by omega⟩
  rw [hk, Ls.rep]
  show Ls.rep _ k ⟨n :: _, _, _⟩ = _
  rw [rep_push]
  congr 1
  unfold push
  rw [List.replicate_succ']
  simp
theorem many_pop (c : Int) : ∀ (k : Nat) (s : Ls), Ls.rep (.pop c) k s = ⟨s.T.drop k, s.C, s.d + max 0 ((k : Int) - s.T.length)⟩
  | 0, ⟨T, C, d⟩ => by
    have : max (0 : Int) (-(T.length : Int)) = 0 := by omega
    simp [Ls.rep, this]
  | k + 1, ⟨[], C, d⟩ => by
    rw [Ls.rep]
    have e : (⟨[], C, d⟩ : Ls).one (.pop c) = ⟨[], C, d + 1⟩ := rfl
    rw [e, many_pop c k]
    simp
    omega
  | k + 1, ⟨m :: T, C, d⟩ => by
    rw [Ls.rep]
    have e : (⟨m :: T, C, d⟩ : Ls).one (.pop c) = ⟨T, C, d⟩ := rfl
    rw [e, many_pop c k]
    simp
    omega
/-- what single steps lead to -/
def lsAll (ss : List Stp) (s : Ls) : Ls := ss.foldl (fun s st => Ls.rep st st.cnt.toNat s) s
def Ls.pairs (s : Ls) : List PP := s.C.map fun p => (p.1, s.d - p.2)
theorem shift_zero (P : List PP) : P.map (shift 0) = P := by
  have : shift 0 = id := by
    funext p
    simp [shift]
  rw [this, List.map_id]
theorem drop_all : ∀ (N : List Int) (n : Int), N.dropWhile (fun m => decide (m < n)) = [] ↔ ∀ x ∈ N, x < n
  | [], n => by simp
  | m :: N, n => by
    by_cases h : m < n
    · rw [List.dropWhile_cons_of_pos (by simpa using h), drop_all N n]
      simp [h]
    · rw [List.dropWhile_cons_of_neg (by simpa using h)]
      simp [h]
theorem ls_step {e : Ef} {s : Ls} {st : Stp} (hc : 1 ≤ st.cnt) (hN : Never s.T) (h : Top s.pairs e.1 ∧ e.2.1 = s.d ∧ e.2.2 = s.T) :
    Top (Ls.rep st st.cnt.toNat s).pairs (jo e (stepE st)).1 ∧ (jo e (stepE st)).2.1 = (Ls.rep st st.cnt.toNat s).d ∧ (jo e (stepE st)).2.2 = (Ls.rep st st.cnt.toNat s).T := by
  obtain ⟨P, d, N⟩ := e
  obtain ⟨T, C, d'⟩ := s
  obtain ⟨h1, h2, h3⟩ := h
  dsimp only at h1 h2 h3 hN
  subst h2 h3
  cases st with
  | push n c =>
    have hc : 1 ≤ c := hc
    obtain ⟨c0, c1⟩ := cb_le N n
    have ht : tk [(n, 0)] 0 N = cb N n := tk_eq c0 (fun p hp => by rw [List.mem_singleton.mp hp]; simp) (.inr ⟨(n, 0), List.mem_singleton.mpr rfl, by simp⟩)
    have hb : max 0 (cb N n - N.length) = 0 := by omega
    have hm : (min (N.length : Int) (cb N n)).toNat = (cb N n).toNat := by omega
    rw [show (Stp.push n c).cnt = c from rfl, many_push n c _ hc]
    show Top (Ls.pairs _) (und _) ∧ _ ∧ _
    simp only [jo, stepE, ht, hb, hm, shift_zero, cb_drop n hN]
    refine ⟨?_, by simp, rfl⟩
    have all : N.dropWhile (fun m => decide (m < n)) = [] ↔ ∀ x ∈ N, x < n := by
      exact drop_all N n
    by_cases q : ∀ x ∈ N, x < n
    · have tt : thr N (n, 0) = true := decide_eq_true q
      have f : [(n, (0 : Int))].filter (thr N) = [(n, 0)] := by simp [tt]
      rw [f, if_pos (all.mpr q)]
      have := Top.join h1 (und_top (P ++ [(n, 0)]))
      simpa [Ls.pairs] using this
    · have tt : thr N (n, 0) = false := decide_eq_false q
      have f : [(n, (0 : Int))].filter (thr N) = [] := by simp [tt]
      rw [f, if_neg fun z => q (all.mp z)]
      have := Top.join h1 (und_top (P ++ []))
      simpa [Ls.pairs] using this
  | pop c =>
    have hc : 1 ≤ c := hc
    have ht : tk [] c N = c := rfl
    rw [show (Stp.pop c).cnt = c from rfl, many_pop]
    simp only [jo, stepE, ht, List.filter_nil, List.append_nil, List.nil_append]
    have e1 : ((c.toNat : Nat) : Int) = c := by omega
    have e2 : N.drop (min (N.length : Int) c).toNat = N.drop c.toNat := by
      by_cases q : c ≤ N.length
      · rw [show (min (N.length : Int) c) = c by omega]
      · rw [List.drop_eq_nil_of_le (by omega), List.drop_eq_nil_of_le (by omega)]
    refine ⟨?_, by rw [e1], e2⟩
    have hs := Top.shift (max 0 (c - N.length)) h1
    have := Top.join hs (und_top (P.map (shift (max 0 (c - N.length))) ++ []))
    simp only [List.append_nil] at this
    refine this.perm fun p => ?_
    unfold Ls.pairs
    rw [e1]
    simp only [List.map_map]
    have : (shift (max 0 (c - (N.length : Int))) ∘ fun p : PP => (p.1, d - p.2)) = fun p : PP => (p.1, d + max 0 (c - (N.length : Int)) - p.2) := by
      funext p
      simp [shift]
      omega
    rw [this]
theorem lsAll_top : ∀ (ss : List Stp) (e : Ef) (s : Ls), (∀ t ∈ ss, 1 ≤ t.cnt) → Valid e → Top s.pairs e.1 ∧ e.2.1 = s.d ∧ e.2.2 = s.T →
    Top (lsAll ss s).pairs (ss.foldl (fun e s => jo e (stepE s)) e).1 ∧ (ss.foldl (fun e s => jo e (stepE s)) e).2.1 = (lsAll ss s).d ∧ (ss.foldl (fun e s => jo e (stepE s)) e).2.2 = (lsAll ss s).T
  | [], e, s, _, _, h => h
  | t :: ss, e, s, hc, v, h => by
    have h1 := hc t List.mem_cons_self
    exact lsAll_top ss (jo e (stepE t)) (Ls.rep t t.cnt.toNat s) (fun u hu => hc u (List.mem_cons_of_mem _ hu)) (jo_valid v (stepE_valid h1)) (ls_step h1 (h.2.2 ▸ v.nev) h)
/-- the effect is what single steps lead to -/
theorem effL_ls {ss : List Stp} (hc : ∀ t ∈ ss, 1 ≤ t.cnt) : effL ss = (und (lsAll ss ⟨[], [], 0⟩).pairs, (lsAll ss ⟨[], [], 0⟩).d, (lsAll ss ⟨[], [], 0⟩).T) := by
  obtain ⟨h1, h2, h3⟩ := lsAll_top ss ([], 0, []) ⟨[], [], 0⟩ hc id_valid ⟨Top.nil, rfl, rfl⟩
  have e : und (lsAll ss ⟨[], [], 0⟩).pairs = (effL ss).1 := (und_top _).unique h1
  rw [e, ← h2, ← h3]
  rfl
theorem und_turn6 (a b c d e f g h : Sl) (acc : List PP) (p : PP) (hl : acc.length ≤ 100000) : l5b__law_effect_k06 [a, b, c, d, e, f, .own false (acc.reverse.map tw), .d (.int p.1), .d (.int p.2), g, h] = .ok ([a, b, c, d, e, f, .own false ((put p acc).reverse.map tw), .d (.int p.1), .d (.int p.2), g, h], .nx) := by
  cases acc with
  | nil =>
    have : eqS (.list []) (.list []) = .ok (.d (.bool true)) := eqS_same (by simp)
    simp [l5b__law_effect_k06, put, this, tw]
  | cons q r =>
    have e1 : eqS (.list (((q :: r).reverse).map tw)) (.list []) = .ok (.d (.bool false)) := by
      refine (eqS_fl (p := False) ?_ (by simp) (by simp)).trans (by simp)
      rw [fl_lst]
      exact flAll_map fun p _ => fl_tw
    have e2 : atI ((q :: r).reverse.map tw) (-1) = some (tw q) := at_last (by simp)
    have e3 : ixG (tw q) (.int 1) = .ok (.d (.int q.2)) := by simp [tw]
    have hl' : ((q :: r).reverse.map tw).length < 16777216 := by simp at hl ⊢; omega
    have e4 : (put p (q :: r)).reverse.map tw = if q.2 < p.2 then (q :: r).reverse.map tw ++ [tw p] else (q :: r).reverse.map tw := by
      simp only [put]
      split <;> simp
    rw [e4]
    generalize (q :: r).reverse.map tw = L at e1 e2 hl'
    by_cases h : q.2 < p.2 <;> simp [l5b__law_effect_k06, e1, e2, e3, h, hl', tw]
theorem lsAll_len : ∀ (ss : List Stp) (s : Ls), (∀ t ∈ ss, t.cnt ≤ 100) → (lsAll ss s).T.length ≤ s.T.length + 100 * ss.length ∧ (lsAll ss s).C.length ≤ s.C.length + 100 * ss.length
  | [], s, _ => ⟨Nat.le_refl _, Nat.le_refl _⟩
  | t :: ss, s, hc => by
    have rl : ∀ (k : Nat) (s : Ls), (Ls.rep t k s).T.length ≤ s.T.length + k ∧ (Ls.rep t k s).C.length ≤ s.C.length + k := fun k => by
      induction k with
      | zero => intro s; exact ⟨Nat.le_refl _, Nat.le_refl _⟩
      | succ k ih =>
        intro s
        obtain ⟨a, b⟩ := ih (s.one t)
        obtain ⟨c, d⟩ := one_len s t
        rw [Ls.rep]
        omega
    obtain ⟨a, b⟩ := rl t.cnt.toNat s
    obtain ⟨c, d⟩ := lsAll_len ss (Ls.rep t t.cnt.toNat s) fun u hu => hc u (List.mem_cons_of_mem _ hu)
    have := hc t List.mem_cons_self
    show (lsAll ss (Ls.rep t t.cnt.toNat s)).T.length ≤ _ ∧ (lsAll ss (Ls.rep t t.cnt.toNat s)).C.length ≤ _
    rw [List.length_cons]
    omega
theorem law_effect_ok {x : D} {ss : List Stp} (h : Sq x (ss.map Stp.d)) (hc : ∀ t ∈ ss, 1 ≤ t.cnt ∧ t.cnt ≤ 100) (hl : ss.length ≤ 90) : m__law_effect_k06 [.d x] = .ok ([.d x], .d (effE (effL ss))) := by
  obtain ⟨t, e, hp⟩ := sFor_fold (g := gN 4) (b := l3b__law_effect_k06) (it := sIt iterA (sName 0)) (Γ := [.d x, .own false (il []), .own false ([].map tw), .d (.int 0), .un, .un, .un, .un, .un, .un, .un])
    (fun (s : Ls) (t : Sl × Sl) => [.d x, .own false (il s.T), .own false (s.C.map tw), .d (.int s.d), t.1, t.2, .un, .un, .un, .un, .un]) Stp.d (fun s st => Ls.rep st st.cnt.toNat s) (fun i s => s.T.length ≤ 100 * i ∧ s.C.length ≤ 100 * i) (xs := ss) (s := ⟨[], [], 0⟩) (.un, .un)
    (by simp [h.it]) ⟨Nat.zero_le _, Nat.zero_le _⟩ (fun i s t st hs hi hp => by
      obtain ⟨c1, c2⟩ := hc st hs
      obtain ⟨t', e⟩ := turns_ok x s st t.2 (by omega) (by omega) (by omega) (by omega)
      have := lsAll_len [st] s (fun u hu => by rw [List.mem_singleton.mp hu]; exact c2)
      rw [show lsAll [st] s = Ls.rep st st.cnt.toNat s from rfl] at this
      simp only [List.length_singleton] at this
      exact ⟨⟨lsl x s st.d t.2, (.d st.d, t'), rfl, e⟩, by omega, by omega⟩)
  have e : l3__law_effect_k06 [.d x, .own false (il []), .own false ([].map tw), .d (.int 0), .un, .un, .un, .un, .un, .un, .un] = _ := e
  have e0 : ss.foldl (fun s st => Ls.rep st st.cnt.toNat s) ⟨[], [], 0⟩ = lsAll ss ⟨[], [], 0⟩ := rfl
  rw [e0] at e hp
  rw [effL_ls fun t ht => (hc t ht).1]
  generalize lsAll ss ⟨[], [], 0⟩ = s at e hp
  obtain ⟨T, C, d⟩ := s
  obtain ⟨t1, t2⟩ := t
  dsimp only at e hp
  have hpl : (Ls.pairs ⟨T, C, d⟩).length ≤ 10000 := by simp [Ls.pairs]; omega
  -- the pairs
  have k4 : l4__law_effect_k06 [.d x, .own false (il T), .own false (C.map tw), .d (.int d), t1, t2, .own false [], .un, .un, .un, .un] = .ok ([.d x, .own false (il T), .d (.list (C.map tw)), .d (.int d), t1, t2, .own false [], .un, .un, .un, .un], .f ((Ls.pairs ⟨T, C, d⟩).map tw)) := by
    have := sLc_map (it := sIt iterA (sName 2)) (g := gTup' (gCons' (gN 9) (gCons' (gN 10) gNil')) 2) (te := sPub (sTup (sCons (sName 9) (sCons (sPub (sBin subG (sName 3) (sName 10))) sNil)))) (vs := [9, 10]) tw (fun p => tw (p.1, d - p.2)) (Γ := [.d x, .own false (il T), .d (.list (C.map tw)), .d (.int d), t1, t2, .own false [], .un, .un, .un, .un]) (xs := C) (by simp) rfl
      (fun p _ => ⟨[.d x, .own false (il T), .d (.list (C.map tw)), .d (.int d), t1, t2, .own false [], .un, .un, .d (.int p.1), .d (.int p.2)], by simp [tw], by simp [tw], rfl⟩) (by omega)
    have e2 : C.map (fun p => tw (p.1, d - p.2)) = (Ls.pairs ⟨T, C, d⟩).map tw := by simp [Ls.pairs]
    rw [e2] at this
    rw [← this]
    unfold l4__law_effect_k06 sLc
    simp
  have hs := sort_tw (Ls.pairs ⟨T, C, d⟩) (by omega) (x := .list ((Ls.pairs ⟨T, C, d⟩).map tw)) (.inl rfl)
  have hsl : ((Ls.pairs ⟨T, C, d⟩).mergeSort lexB).reverse.length ≤ 10000 := by simpa using hpl
  obtain ⟨u, e5, _⟩ := sFor_fold (g := gTup' (gCons' (gN 7) (gCons' (gN 8) gNil')) 2) (b := l5b__law_effect_k06) (it := sIt iterA (sPub (sRev (sPub (sUn sortedA (sPub l4__law_effect_k06)))))) (Γ := [.d x, .own false (il T), .own false (C.map tw), .d (.int d), t1, t2, .own false [], .un, .un, .un, .un])
    (fun (acc : List PP) (t : Sl × Sl) => [.d x, .own false (il T), .d (.list (C.map tw)), .d (.int d), t1, t2, .own false (acc.reverse.map tw), t.1, t.2, .un, .un]) tw (fun a p => put p a)
    (fun i acc => acc.length ≤ i) (xs := ((Ls.pairs ⟨T, C, d⟩).mergeSort lexB).reverse) (s := []) (.un, .un) (by simp [k4, hs]) (Nat.le_refl _) (fun i acc t p hm hi hp => ⟨⟨[.d x, .own false (il T), .d (.list (C.map tw)), .d (.int d), t1, t2, .own false (acc.reverse.map tw), .d (.int p.1), .d (.int p.2), .un, .un], (.d (.int p.1), .d (.int p.2)), by simp [tw], und_turn6 _ _ _ _ _ _ _ _ acc p (by omega)⟩,
      Nat.le_trans (put_len p acc) (by omega)⟩)
  rw [← scan_fold] at e5
  have e5 : l5__law_effect_k06 [.d x, .own false (il T), .own false (C.map tw), .d (.int d), t1, t2, .own false [], .un, .un, .un, .un] = _ := e5
  rw [show Pu.scan [] ((Ls.pairs ⟨T, C, d⟩).mergeSort lexB).reverse = und (Ls.pairs ⟨T, C, d⟩) from rfl] at e5
  obtain ⟨u1, u2⟩ := u
  dsimp only at e5
  have hr := runs_ok (x := .list (il T)) (L := T.reverse) (.inl rfl) (by simp; omega)
  rw [List.reverse_reverse] at hr
  have n0 : il [] = [] := rfl
  rw [n0] at e
  have e6 : PyData.tuple ((und (Ls.pairs ⟨T, C, d⟩)).map tw) = rt (und (Ls.pairs ⟨T, C, d⟩)) := rfl
  have e7 : ((und (Ls.pairs ⟨T, C, d⟩)).reverse.map tw).reverse = (und (Ls.pairs ⟨T, C, d⟩)).map tw := by simp
  show _ = Res.ok (_, R.d (.tuple [rt _, .int d, stk T]))
  generalize (und (Ls.pairs ⟨T, C, d⟩)).reverse.map tw = A at e5 e7
  generalize (und (Ls.pairs ⟨T, C, d⟩)).map tw = A' at e6 e7
  generalize C.map tw = C' at e e5
  simp only [List.map_nil] at e
  simp [m__law_effect_k06, b__law_effect_k06, e, e5, e6, e7, hr]
end Qa
namespace Qa
open PySem PySem.Spec PyProof.Rows L2 Evl Mi Pg Pu
/-! ### repr of data with small numbers -/
mutual
def sm : D → Bool
  | .none => true
  | .bool _ => true
  | .int i => decide (i.natAbs < 10 ^ 60)
  | .str s => PyData.strOk s
  | .list xs => smAll xs
  | .tuple xs => smAll xs
  | .dict _ => false
def smAll : List D → Bool
  | [] => true
  | x :: xs => sm x && smAll xs
end
mutual
def nodes : D → Nat
  | .none => 0
  | .bool _ => 0
  | .int _ => 210
  | .str s => s.cps.size
  | .list xs => nodesAll xs
  | .tuple xs => nodesAll xs
  | .dict _ => 0
def nodesAll : List D → Nat
  | [] => 0
  | x :: xs => nodes x + 1 + nodesAll xs
end
@[simp] theorem sm_none : sm .none = true := rfl
@[simp] theorem sm_bool {b : Bool} : sm (.bool b) = true := rfl
@[simp] theorem sm_int {i : Int} : sm (.int i) = decide (i.natAbs < 10 ^ 60) := by simp [sm]
@[simp] theorem sm_str {s : Str} : sm (.str s) = PyData.strOk s := by simp [sm]
@[simp] theorem sm_list {xs : List D} : sm (.list xs) = smAll xs := by simp [sm]
@[simp] theorem sm_tuple {xs : List D} : sm (.tuple xs) = smAll xs := by simp [sm]
@[simp] theorem smAll_nil : smAll [] = true := by simp [smAll]
@[simp] theorem smAll_cons {x : D} {xs : List D} : smAll (x :: xs) = (sm x && smAll xs) := by simp [smAll]
theorem smAll_map {α : Type} {f : α → D} : ∀ {xs : List α}, (∀ x ∈ xs, sm (f x) = true) → smAll (xs.map f) = true
  | [], _ => smAll_nil
  | x :: xs, h => by rw [List.map_cons, smAll_cons, h x List.mem_cons_self, smAll_map fun y hy => h y (List.mem_cons_of_mem _ hy)]; rfl
@[simp] theorem nodes_none : nodes .none = 0 := by simp [nodes]
@[simp] theorem nodes_bool {b : Bool} : nodes (.bool b) = 0 := by simp [nodes]
@[simp] theorem nodes_int {i : Int} : nodes (.int i) = 210 := by simp [nodes]
@[simp] theorem nodes_str {s : Str} : nodes (.str s) = s.cps.size := by simp [nodes]
@[simp] theorem nodes_list {xs : List D} : nodes (.list xs) = nodesAll xs := by simp [nodes]
@[simp] theorem nodes_tuple {xs : List D} : nodes (.tuple xs) = nodesAll xs := by simp [nodes]
@[simp] theorem nodesAll_nil : nodesAll [] = 0 := by simp [nodesAll]
@[simp] theorem nodesAll_cons {x : D} {xs : List D} : nodesAll (x :: xs) = nodes x + 1 + nodesAll xs := by simp [nodesAll]
theorem nodesAll_map {α : Type} {f : α → D} {k : Nat} : ∀ {xs : List α}, (∀ x ∈ xs, nodes (f x) ≤ k) → nodesAll (xs.map f) ≤ (k + 1) * xs.length
  | [], _ => by simp
  | x :: xs, h => by
    have h1 := h x List.mem_cons_self
    have h2 := nodesAll_map fun y hy => h y (List.mem_cons_of_mem _ hy)
    rw [List.map_cons, nodesAll_cons, List.length_cons, Nat.mul_succ]
    omega
theorem log2_60 {i : Int} (h : i.natAbs < 10 ^ 60) : i.natAbs.log2 < 209 := by
  by_cases h0 : i.natAbs = 0
  · rw [h0]; decide +kernel
  · refine (Nat.log2_lt h0).mpr (Nat.lt_trans h ?_)
    decide +kernel
theorem str_sm {s : Str} (h : PyData.strOk s = true) : (s.cps.toList.all fun c => decide (c < 16 ^ 8)) = true := by
  have h0 : s.cps.all (· < 0x110000) = true := h
  rw [List.all_eq_true]
  intro c hc
  rw [Array.all_eq_true'] at h0
  have h1 := h0 c (Array.mem_def.mpr hc)
  rw [decide_eq_true_eq] at h1 ⊢
  have e : (16 : Nat) ^ 8 = 4294967296 := by decide
  omega
mutual
theorem sm_ok : ∀ x : D, sm x = true → x.showable = true ∧ x.hasDict = false ∧ x.leavesShort 62 = true ∧ x.weight ≤ nodes x
  | .none, _ => ⟨rfl, rfl, rfl, by simp [PyData.weight]⟩
  | .bool b, _ => ⟨rfl, rfl, rfl, by simp [PyData.weight]⟩
  | .int i, h => by
    rw [sm_int, decide_eq_true_eq] at h
    have hl := log2_60 h
    refine ⟨?_, rfl, ?_, ?_⟩
    · simp only [PyData.showable, decide_eq_true_eq]; omega
    · have e := int_text_length_le10 (k := 60) (by decide) h
      simp only [PyData.leavesShort, decide_eq_true_eq]
      show (Str.ofString (toString i)).length ≤ 62
      rw [PySem.ofString_length]
      omega
    · rw [nodes_int]
      simp only [PyData.weight]
      split <;> omega
  | .str s, h => by
    rw [sm_str] at h
    exact ⟨rfl, rfl, by simpa only [PyData.leavesShort] using str_sm h, by simp [PyData.weight]⟩
  | .list xs, h => by
    obtain ⟨h1, h2, h3, h4⟩ := smAll_ok xs (by simpa using h)
    simp only [PyData.showable, PyData.hasDict, PyData.leavesShort, PyData.weight, nodes_list]
    exact ⟨h1, h2, h3, h4⟩
  | .tuple xs, h => by
    obtain ⟨h1, h2, h3, h4⟩ := smAll_ok xs (by simpa using h)
    simp only [PyData.showable, PyData.hasDict, PyData.leavesShort, PyData.weight, nodes_tuple]
    exact ⟨h1, h2, h3, h4⟩
  | .dict _, h => by simp [sm] at h
theorem smAll_ok : ∀ xs : List D, smAll xs = true → PyData.showableAll xs = true ∧ PyData.hasDictAll xs = false ∧ PyData.leavesShortAll 62 xs = true ∧ PyData.weightAll xs ≤ nodesAll xs
  | [], _ => ⟨rfl, rfl, rfl, by simp [PyData.weightAll]⟩
  | x :: xs, h => by
    rw [smAll_cons, Bool.and_eq_true] at h
    obtain ⟨h1, h2, h3, h4⟩ := sm_ok x h.1
    obtain ⟨g1, g2, g3, g4⟩ := smAll_ok xs h.2
    simp only [PyData.showableAll, PyData.hasDictAll, PyData.leavesShortAll, PyData.weightAll, nodesAll_cons, h1, h2, h3, g1, g2, g3]
    exact ⟨rfl, rfl, rfl, by omega⟩
end
theorem reprG_sm {x : D} (h : sm x = true) (hd : x.depth ≤ 40) (hn : nodes x ≤ 250000) : reprG x = .ok (.d (.str x.shown)) := by
  obtain ⟨h1, h2, h3, h4⟩ := sm_ok x h
  have h5 := PyData.shown_le 62 (by decide) x h3
  have : reprP x := ⟨h1, h2, hd, by rw [z_szle]; omega⟩
  simp [reprG, this]
theorem sm_rt {L : List PP} (h : ∀ p ∈ L, p.1.natAbs < 10 ^ 60 ∧ p.2.natAbs < 10 ^ 60) : sm (rt L) = true := by
  rw [rt, sm_tuple]
  refine smAll_map fun p hp => ?_
  obtain ⟨a, b⟩ := h p hp
  simp [tw, a, b]
theorem nodes_rt (L : List PP) : nodes (rt L) ≤ 423 * L.length := by
  rw [rt, nodes_tuple]
  exact nodesAll_map fun p _ => by simp [tw]
theorem depth_rt (L : List PP) : (rt L).depth ≤ 2 := (fl_lay 2 (rt L) fl_rt).2
theorem reprG_eff {e : Ef} (h1 : ∀ p ∈ e.1, p.1.natAbs < 10 ^ 60 ∧ p.2.natAbs < 10 ^ 60) (h2 : e.2.1.natAbs < 10 ^ 60) (h3 : ∀ p ∈ runsT e.2.2, p.1.natAbs < 10 ^ 60 ∧ p.2.natAbs < 10 ^ 60) (hl : e.1.length ≤ 200) (hr : (runsT e.2.2).length ≤ 200) :
    reprG (effE e) = .ok (.d (.str (effE e).shown)) := by
  have s1 := sm_rt h1
  have s2 : sm (stk e.2.2) = true := sm_rt fun p hp => h3 p (List.mem_reverse.mp hp)
  have n1 := nodes_rt e.1
  have n2 := nodes_rt (runsT e.2.2).reverse
  rw [List.length_reverse] at n2
  refine reprG_sm (by simp [eff, s1, s2, h2]) ?_ ?_
  · have := depth_rt e.1
    have := depth_rt (runsT e.2.2).reverse
    simp only [eff, stk, PyData.depth, PyData.depthAll]
    omega
  · simp only [eff, stk, nodes_tuple, nodesAll_cons, nodes_int, nodesAll_nil]
    omega
/-! sizes of what steps lead to -/
structure LsB (Q : Int → Prop) (k : Nat) (s : Ls) : Prop where
  c : ∀ p ∈ s.C, Q p.1 ∧ 0 ≤ p.2 ∧ p.2 ≤ s.d
  t : ∀ x ∈ s.T, Q x
  d0 : 0 ≤ s.d
  dk : s.d ≤ k
  tk : s.T.length ≤ k
  ck : s.C.length ≤ k
theorem LsB.one {Q : Int → Prop} {k : Nat} {s : Ls} {st : Stp} (h : LsB Q k s) (hq : ∀ n c, st = .push n c → Q n) : LsB Q (k + 1) (s.one st) := by
  obtain ⟨T, C, d⟩ := s
  obtain ⟨h1, h2, h3, h4, h5, h6⟩ := h
  dsimp only at h1 h2 h3 h4 h5 h6
  cases st with
  | push n c =>
    obtain ⟨j, ej⟩ := drop_while_eq T fun m => decide (m < n)
    refine ⟨fun p hp => ?_, fun x hx => ?_, h3, ?_, ?_, ?_⟩
    · simp only [Ls.one] at hp ⊢
      split at hp
      · rcases List.mem_append.mp hp with hp | hp
        · exact h1 p hp
        · rw [List.mem_singleton.mp hp]; exact ⟨hq n c rfl, h3, Int.le_refl _⟩
      · exact h1 p hp
    · simp only [Ls.one] at hx
      rcases List.mem_cons.mp hx with rfl | hx
      · exact hq _ c rfl
      · rw [ej] at hx; exact h2 x (List.mem_of_mem_drop hx)
    · simp only [Ls.one]; omega
    · simp only [Ls.one]; rw [List.length_cons, ej, List.length_drop]; omega
    · simp only [Ls.one]
      split
      · rw [List.length_append]; simp; omega
      · omega
  | pop c =>
    cases T with
    | nil =>
      refine ⟨fun p hp => ?_, (fun x hx => nomatch hx), ?_, ?_, ?_, ?_⟩
      · have := h1 p hp
        exact ⟨this.1, this.2.1, by show p.2 ≤ d + 1; omega⟩
      · show 0 ≤ d + 1; omega
      · show d + 1 ≤ _; omega
      · exact Nat.zero_le _
      · show C.length ≤ _; omega
    | cons m T =>
      refine ⟨h1, fun x hx => h2 x (List.mem_cons_of_mem _ hx), h3, ?_, ?_, ?_⟩
      · show d ≤ _; omega
      · show T.length ≤ _; simp at h5; omega
      · show C.length ≤ _; omega
theorem LsB.rep {Q : Int → Prop} {st : Stp} (hq : ∀ n c, st = .push n c → Q n) : ∀ (j k : Nat) (s : Ls), LsB Q k s → LsB Q (k + j) (Ls.rep st j s)
  | 0, k, s, h => h
  | j + 1, k, s, h => by
    have := LsB.rep hq j (k + 1) (s.one st) (h.one hq)
    rw [show k + (j + 1) = k + 1 + j by omega]
    exact this
theorem LsB.up {Q : Int → Prop} {k j : Nat} {s : Ls} (h : LsB Q k s) (hk : k ≤ j) : LsB Q j s := ⟨h.c, h.t, h.d0, Int.le_trans h.dk (by omega), Nat.le_trans h.tk hk, Nat.le_trans h.ck hk⟩
theorem LsB.all {Q : Int → Prop} {m : Nat} : ∀ (ss : List Stp) (k : Nat) (s : Ls), (∀ n c, .push n c ∈ ss → Q n) → (∀ t ∈ ss, t.cnt ≤ m) → LsB Q k s → LsB Q (k + m * ss.length) (lsAll ss s)
  | [], k, s, _, _, h => h
  | t :: ss, k, s, hq, hm, h => by
    have h1 := LsB.rep (st := t) (fun n c e => hq n c (by rw [e]; exact List.mem_cons_self)) t.cnt.toNat k s h
    have hc := hm t List.mem_cons_self
    have h2 := h1.up (j := k + m) (by omega)
    have h3 := LsB.all ss (k + m) (Ls.rep t t.cnt.toNat s) (fun n c hn => hq n c (List.mem_cons_of_mem _ hn)) (fun u hu => hm u (List.mem_cons_of_mem _ hu)) h2
    rw [List.length_cons, Nat.mul_succ, show k + (m * ss.length + m) = k + m + m * ss.length by omega]
    exact h3
theorem addR_cnt {n : Int} {R : List PP} {k : Int} (hk : 0 ≤ k) (h : ∀ p ∈ R, p.2 ≤ k) : ∀ p ∈ addR n R, p.2 ≤ k + 1 := by
  intro p hp
  cases R with
  | nil => rw [addR, List.mem_singleton] at hp; rw [hp]; show (1 : Int) ≤ k + 1; omega
  | cons q r =>
    obtain ⟨m, c⟩ := q
    have hc : c ≤ k := h (m, c) List.mem_cons_self
    simp only [addR] at hp
    split at hp
    · rcases List.mem_cons.mp hp with e | hp
      · rw [e]; show c + 1 ≤ k + 1; omega
      · have := h p (List.mem_cons_of_mem _ hp); omega
    · rcases List.mem_cons.mp hp with e | hp
      · rw [e]; show (1 : Int) ≤ k + 1; omega
      · have := h p hp; omega
theorem runs_cnt : ∀ T : List Int, ∀ p ∈ runsT T, p.2 ≤ T.length
  | [], p, hp => by cases hp
  | n :: T, p, hp => by
    have := addR_cnt (by omega) (runs_cnt T) p hp
    rw [List.length_cons]
    omega
/-- the effect of few steps: all its numbers are small -/
structure EfB (Q : Int → Prop) (k : Nat) (e : Ef) : Prop where
  p : ∀ p ∈ e.1, Q p.1 ∧ 0 ≤ p.2 ∧ p.2 ≤ k
  d : 0 ≤ e.2.1 ∧ e.2.1 ≤ k
  n : ∀ x ∈ e.2.2, Q x
  l : e.2.2.length ≤ k
  pl : e.1.length ≤ k
theorem effL_small {Q : Int → Prop} {m : Nat} {ss : List Stp} (hq : ∀ n c, Stp.push n c ∈ ss → Q n) (hc : ∀ t ∈ ss, 1 ≤ t.cnt ∧ t.cnt ≤ m) : EfB Q (m * ss.length) (effL ss) := by
  have h := LsB.all (Q := Q) (m := m) ss 0 ⟨[], [], 0⟩ hq (fun t ht => (hc t ht).2) ⟨(fun p hp => nomatch hp), (fun x hx => nomatch hx), Int.le_refl _, by simp, Nat.le_refl _, Nat.le_refl _⟩
  rw [Nat.zero_add] at h
  rw [effL_ls fun t ht => (hc t ht).1]
  refine ⟨fun p hp => ?_, ⟨h.d0, h.dk⟩, h.t, h.tk, ?_⟩
  · have := mem_und hp
    obtain ⟨q, hq, rfl⟩ := List.mem_map.mp this
    have := h.c q hq
    have := h.dk
    exact ⟨(h.c q hq).1, by show 0 ≤ _ - _; omega, by show _ - q.2 ≤ _; omega⟩
  · refine Nat.le_trans (und_len _) ?_
    simp only [Ls.pairs, List.length_map]
    exact h.ck
theorem Drawn.small {ss : List Stp} {most : Nat} {lo hi c : Int} (h : Drawn ss most lo hi c) (hc : 0 ≤ c) : EfB (fun n => lo ≤ n ∧ n < hi) (c.toNat * most) (effL ss) := by
  have := effL_small (m := c.toNat) h.num fun t ht => ⟨(h.cnt t ht).1, by have := (h.cnt t ht).2; omega⟩
  have hl := Nat.mul_le_mul_left c.toNat h.len
  exact ⟨fun p hp => ⟨(this.p p hp).1, (this.p p hp).2.1, Int.le_trans (this.p p hp).2.2 (by omega)⟩, ⟨this.d.1, Int.le_trans this.d.2 (by omega)⟩, this.n, Nat.le_trans this.l hl, Nat.le_trans this.pl hl⟩
theorem EfB.repr {Q : Int → Prop} {k : Nat} {e : Ef} (h : EfB Q k e) (hk : k ≤ 200) (hq : ∀ n, Q n → n.natAbs < 10 ^ 60) : reprG (effE e) = .ok (.d (.str (effE e).shown)) := by
  have big : (1000 : Nat) < 10 ^ 60 := by decide +kernel
  refine reprG_eff (fun p hp => ?_) ?_ (fun p hp => ?_) (Nat.le_trans h.pl hk) (Nat.le_trans (runs_len_le _) (Nat.le_trans h.l hk))
  · have := h.p p hp
    exact ⟨hq _ this.1, by omega⟩
  · have := h.d
    omega
  · have h1 := runs_cnt _ p hp
    have h2 := runsT_pos _ p hp
    have := h.l
    exact ⟨hq _ (h.n _ (mem_runs hp)), by omega⟩
end Qa
namespace Qa
open PySem PySem.Spec PyProof.Rows L2 Evl Mi Pg Pu
/-! ### what an effect does to a stack -/
def act (e : Ef) (S : List Int) : Option (List Int) := if tk e.1 e.2.1 S ≤ S.length then some (e.2.2 ++ S.drop (tk e.1 e.2.1 S).toNat) else none
theorem cb_mono {T : List Int} {t u : Int} (h : t ≤ u) : cb T t ≤ cb T u := by
  induction T with
  | nil => exact Int.le_refl _
  | cons x T ih =>
    rw [cb_cons, cb_cons]
    split <;> split <;> omega
theorem tk_und (L : List PP) (d : Int) (S : List Int) : tk (und L) d S = tk L d S := by
  have top := und_top L
  obtain ⟨h1, h2⟩ := tk_ge L d S
  refine tk_eq h1 (fun p hp => h2 p (top.sub p hp)) ?_
  rcases tk_mem L d S with e | ⟨p, hp, e⟩
  · exact .inl e
  · obtain ⟨q, hq, dm⟩ := top.dom p hp
    have a := h2 q (top.sub q hq)
    have b := cb_mono (T := S) dm.1
    have c := dm.2
    exact .inr ⟨q, hq, by omega⟩
theorem act_never {e : Ef} (he : Valid e) {S S1 : List Int} (hS : Never S) (h : act e S = some S1) : Never S1 := by
  unfold act at h
  split at h
  · cases h
    refine never_app he.nev (never_drop _ hS) fun x hx y hy => ?_
    obtain ⟨p, hp, hx'⟩ := he.cov x hx
    have := (tk_ge e.1 e.2.1 S).2 p hp
    have := he.nn p hp
    have c := cb_le S p.1
    have := drop_ge (t := p.1) (k := (tk e.1 e.2.1 S).toNat) hS (by omega) y hy
    omega
  · cases h
/-- one effect behind another -/
theorem act_jo {e f : Ef} (he : Valid e) (hf : Valid f) {S : List Int} (hS : Never S) : act (jo e f) S = (act e S).bind (act f) := by
  have hcov : ∀ S1, act e S = some S1 → Never S1 := fun S1 h => act_never he hS h
  obtain ⟨P, d, N⟩ := e
  obtain ⟨P2, d2, N2⟩ := f
  obtain ⟨o1, o2⟩ := tk_ge P2 d2 N
  have o3 := tk_mem P2 d2 N
  obtain ⟨r1, r2⟩ := tk_ge P d S
  have r3 := tk_mem P d S
  have hd := he.d0
  have hd2 := hf.d0
  dsimp only at hd hd2
  -- the sum's pairs
  have R : tk (jo (P, d, N) (P2, d2, N2)).1 (jo (P, d, N) (P2, d2, N2)).2.1 S = tk (P.map (shift (max 0 (tk P2 d2 N - N.length))) ++ P2.filter (thr N)) (d + max 0 (tk P2 d2 N - N.length)) S := tk_und _ _ _
  obtain ⟨a1, a2⟩ := tk_ge (P.map (shift (max 0 (tk P2 d2 N - N.length))) ++ P2.filter (thr N)) (d + max 0 (tk P2 d2 N - N.length)) S
  have a3 := tk_mem (P.map (shift (max 0 (tk P2 d2 N - N.length))) ++ P2.filter (thr N)) (d + max 0 (tk P2 d2 N - N.length)) S
  have b1 : tk P d S + max 0 (tk P2 d2 N - N.length) ≤ tk (P.map (shift (max 0 (tk P2 d2 N - N.length))) ++ P2.filter (thr N)) (d + max 0 (tk P2 d2 N - N.length)) S := by
    rcases r3 with e | ⟨p, hp, e⟩
    · rw [e]; exact a1
    · have := a2 (shift (max 0 (tk P2 d2 N - N.length)) p) (List.mem_append_left _ (List.mem_map_of_mem hp))
      simp only [shift] at this
      rw [e]; omega
  have b2 : ∀ p ∈ P2, thr N p = true → cb S p.1 + p.2 ≤ tk (P.map (shift (max 0 (tk P2 d2 N - N.length))) ++ P2.filter (thr N)) (d + max 0 (tk P2 d2 N - N.length)) S := fun p hp ht => a2 p (List.mem_append_right _ (List.mem_filter.mpr ⟨hp, ht⟩))
  have b3 : tk (P.map (shift (max 0 (tk P2 d2 N - N.length))) ++ P2.filter (thr N)) (d + max 0 (tk P2 d2 N - N.length)) S ≤ tk P d S + max 0 (tk P2 d2 N - N.length) ∨ ∃ p ∈ P2, thr N p = true ∧ tk (P.map (shift (max 0 (tk P2 d2 N - N.length))) ++ P2.filter (thr N)) (d + max 0 (tk P2 d2 N - N.length)) S = cb S p.1 + p.2 := by
    rcases a3 with e | ⟨p, hp, e⟩
    · left; rw [e]; omega
    · rcases List.mem_append.mp hp with hp | hp
      · obtain ⟨q, hq, rfl⟩ := List.mem_map.mp hp
        have := r2 q hq
        simp only [shift] at e
        left; rw [e]; omega
      · obtain ⟨hp, ht⟩ := List.mem_filter.mp hp
        exact .inr ⟨p, hp, ht, e⟩
  clear a3 a2 a1
  have len : ∀ T : List Int, act (jo (P, d, N) (P2, d2, N2)) T = if tk (jo (P, d, N) (P2, d2, N2)).1 (jo (P, d, N) (P2, d2, N2)).2.1 T ≤ T.length then some ((N2 ++ N.drop (min (N.length : Int) (tk P2 d2 N)).toNat) ++ T.drop (tk (jo (P, d, N) (P2, d2, N2)).1 (jo (P, d, N) (P2, d2, N2)).2.1 T).toNat) else none := fun T => rfl
  rw [len S, R]
  generalize tk (P.map (shift (max 0 (tk P2 d2 N - N.length))) ++ P2.filter (thr N)) (d + max 0 (tk P2 d2 N - N.length)) S = W at *
  have hact : act (P, d, N) S = if tk P d S ≤ S.length then some (N ++ S.drop (tk P d S).toNat) else none := rfl
  rw [hact] at hcov ⊢
  generalize hv : tk P d S = v at *
  clear r3
  have v0 : 0 ≤ v := by clear b3 o3; omega
  by_cases hs : v ≤ S.length
  · rw [if_pos hs] at hcov ⊢
    rw [Option.bind_some]
    have nev := hcov _ rfl
    have ev : ((v.toNat : Nat) : Int) = v := by omega
    have cbS : ∀ p ∈ P2, (thr N p = true → cb (N ++ S.drop v.toNat) p.1 = N.length + max 0 (cb S p.1 - v)) ∧ (thr N p = false → cb (N ++ S.drop v.toNat) p.1 = cb N p.1) := fun p hp => by
      refine ⟨fun ht => ?_, fun ht => ?_⟩
      · rw [cb_app, cb_all (of_decide_eq_true ht), cb_drop_sub hS, ev]
      · have : ∃ y ∈ N, p.1 ≤ y := by
          simp only [thr, decide_eq_false_iff_not] at ht
          simpa using ht
        obtain ⟨y, hy, hpy⟩ := this
        rw [cb_app, cb_none (T := S.drop v.toNat) fun z hz => Int.le_trans hpy ((List.pairwise_append.mp nev).2.2 y hy z hz)]
        omega
    have hact2 : act (P2, d2, N2) (N ++ S.drop v.toNat) = if tk P2 d2 (N ++ S.drop v.toNat) ≤ (N ++ S.drop v.toNat).length then some (N2 ++ (N ++ S.drop v.toNat).drop (tk P2 d2 (N ++ S.drop v.toNat)).toNat) else none := rfl
    rw [hact2]
    obtain ⟨u1, u2⟩ := tk_ge P2 d2 (N ++ S.drop v.toNat)
    have u3 := tk_mem P2 d2 (N ++ S.drop v.toNat)
    generalize tk P2 d2 (N ++ S.drop v.toNat) = r at *
    generalize hover : tk P2 d2 N = over at *
    have sz : ((N ++ S.drop v.toNat).length : Int) = N.length + S.length - v := by
      rw [List.length_append, List.length_drop]; omega
    have over_r : over ≤ r := by
      clear u3 b3
      rcases o3 with e | ⟨p, hp, e⟩
      · omega
      · have := u2 p hp
        have c := cbS p hp
        cases ht : thr N p with
        | true =>
          have c1 := c.1 ht
          have c2 := cb_all (of_decide_eq_true ht)
          omega
        | false => have := c.2 ht; omega
    clear o3
    have hW : W = v + max 0 (r - N.length) := by
      refine Int.le_antisymm ?_ ?_
      · clear u3
        rcases b3 with e | ⟨p, hp, ht, e⟩
        · omega
        · have := u2 p hp
          have := (cbS p hp).1 ht
          omega
      · clear b3
        rcases u3 with e | ⟨p, hp, e⟩
        · omega
        · have c := cbS p hp
          cases ht : thr N p with
          | true =>
            have c1 := c.1 ht
            have c2 := cb_all (of_decide_eq_true ht)
            have := b2 p hp ht
            have := o2 p hp
            omega
          | false =>
            have := c.2 ht
            have := o2 p hp
            omega
    clear b3
    have hmin : min (N.length : Int) over = min (N.length : Int) r := by
      rcases u3 with e | ⟨p, hp, e⟩
      · omega
      · have c := cbS p hp
        cases ht : thr N p with
        | true =>
          have c2 := cb_all (of_decide_eq_true ht)
          have := o2 p hp
          have := hf.nn p hp
          omega
        | false =>
          have := c.2 ht
          have := o2 p hp
          omega
    clear u3
    by_cases hr : r ≤ N.length + S.length - v
    · rw [if_pos (by omega), if_pos (by rw [sz]; exact hr)]
      congr 1
      rw [List.append_assoc]
      congr 1
      rw [hmin, List.drop_append, List.drop_drop]
      have e1 : N.drop (min (N.length : Int) r).toNat = N.drop r.toNat := by
        by_cases q : r ≤ N.length
        · rw [show min (N.length : Int) r = r by omega]
        · rw [List.drop_eq_nil_of_le (by omega), List.drop_eq_nil_of_le (by omega)]
      rw [e1]
      congr 2
      omega
    · rw [if_neg (by omega), if_neg (by rw [sz]; exact hr)]
  · clear b3 o3
    rw [if_neg hs, if_neg (by omega)]
    rfl
/-! ### effects that do the same are equal -/
theorem act_some {e : Ef} {S : List Int} (h : tk e.1 e.2.1 S ≤ S.length) : act e S = some (e.2.2 ++ S.drop (tk e.1 e.2.1 S).toNat) := if_pos h
theorem cb_rep (n : Nat) (x t : Int) : cb (List.replicate n x) t = if x < t then (n : Int) else 0 := by
  split
  · rw [cb_all fun y hy => by rw [List.eq_of_mem_replicate hy]; assumption, List.length_replicate]
  · rw [cb_none fun y hy => by rw [List.eq_of_mem_replicate hy]; omega]
/-- above all numbers of an effect -/
def Above (G : Int) (e : Ef) : Prop := ∀ p ∈ e.1, p.1 ≤ G
theorem tk_great {e : Ef} (he : Valid e) {G : Int} (hG : Above G e) (n : Nat) : tk e.1 e.2.1 (List.replicate n G) = e.2.1 :=
  tk_eq (Int.le_refl _) (fun p hp => by
    have := hG p hp
    have := he.le p hp
    rw [cb_rep, if_neg (by omega)]
    omega) (.inl rfl)
theorem same_drops {e f : Ef} (he : Valid e) (hf : Valid f) {G : Int} (h1 : Above G e) (h2 : Above G f) (h : ∀ S, Never S → act e S = act f S) : e.2.1 = f.2.1 ∧ e.2.2 = f.2.2 := by
  have le : ∀ {e f : Ef}, Valid e → Valid f → Above G e → Above G f → (∀ S, Never S → act e S = act f S) → f.2.1 ≤ e.2.1 := fun {e f} he hf h1 h2 h => by
    have := h (List.replicate e.2.1.toNat G) (List.pairwise_replicate.mpr (.inr (Int.le_refl _)))
    have d0 := he.d0
    rw [act_some (by rw [tk_great he h1, List.length_replicate]; omega)] at this
    unfold act at this
    rw [tk_great hf h2, List.length_replicate] at this
    split at this
    · omega
    · cases this
  have e1 : e.2.1 = f.2.1 := Int.le_antisymm (le hf he h2 h1 fun S hS => (h S hS).symm) (le he hf h1 h2 h)
  refine ⟨e1, ?_⟩
  have := h (List.replicate e.2.1.toNat G) (List.pairwise_replicate.mpr (.inr (Int.le_refl _)))
  have d0 := he.d0
  rw [act_some (by rw [tk_great he h1, List.length_replicate]; omega), act_some (by rw [tk_great hf h2, List.length_replicate]; omega), tk_great he h1, tk_great hf h2] at this
  simp only [List.drop_replicate, ← e1, Nat.sub_self, List.replicate_zero, List.append_nil, Option.some.injEq] at this
  exact this
theorem act_inj {e f : Ef} (he : Valid e) (hf : Valid f) (h : ∀ S, Never S → act e S = act f S) : e = f := by
  obtain ⟨G, g1, g2⟩ : ∃ G : Int, Above G e ∧ Above G f := by
    refine ⟨max (maxL 0 (e.1.map (·.1))) (maxL 0 (f.1.map (·.1))), fun p hp => ?_, fun p hp => ?_⟩
    · have := (maxL_ge (e.1.map (·.1)) 0).2 p.1 (List.mem_map_of_mem hp)
      omega
    · have := (maxL_ge (f.1.map (·.1)) 0).2 p.1 (List.mem_map_of_mem hp)
      omega
  obtain ⟨hd, hn⟩ := same_drops he hf g1 g2 h
  have key : ∀ {e f : Ef}, Valid e → Valid f → Above G e → Above G f → e.2.1 = f.2.1 → e.2.2 = f.2.2 → (∀ S, Never S → act e S = act f S) → ∀ p ∈ e.1, ∃ q ∈ f.1, p.1 ≤ q.1 ∧ q.2 = p.2 := fun {e f} he hf g1 g2 hd hn h p hp => by
    have d0 := he.d0
    have nn := he.nn p hp
    have le := he.le p hp
    have pG := g1 p hp
    have nev : Never (List.replicate (e.2.1.toNat + 1) (p.1 - 1) ++ List.replicate e.2.1.toNat G) := never_app (List.pairwise_replicate.mpr (.inr (Int.le_refl _))) (List.pairwise_replicate.mpr (.inr (Int.le_refl _))) fun x hx y hy => by
      rw [List.eq_of_mem_replicate hx, List.eq_of_mem_replicate hy]; omega
    have cbS : ∀ t, t ≤ G → cb (List.replicate (e.2.1.toNat + 1) (p.1 - 1) ++ List.replicate e.2.1.toNat G) t = if p.1 - 1 < t then e.2.1 + 1 else 0 := fun t ht => by
      rw [cb_app, cb_rep, cb_rep, if_neg (show ¬ G < t by omega)]
      split <;> omega
    have te : tk e.1 e.2.1 (List.replicate (e.2.1.toNat + 1) (p.1 - 1) ++ List.replicate e.2.1.toNat G) = e.2.1 + 1 + p.2 := by
      refine tk_eq (by omega) (fun q hq => ?_) (.inr ⟨p, hp, ?_⟩)
      · rw [cbS q.1 (g1 q hq)]
        have := he.le q hq
        split
        · rename_i hlt
          have : q.2 ≤ p.2 := by
            by_cases e : p = q
            · rw [e]; exact Int.le_refl _
            · have hc := he.chain
              obtain ⟨A, B, eAB⟩ := List.mem_iff_append.mp hp
              rw [eAB] at hc hq
              obtain ⟨_, hB, hAB⟩ := List.pairwise_append.mp hc
              rcases List.mem_append.mp hq with hq | hq
              · have := hAB q hq p List.mem_cons_self
                omega
              · rcases List.mem_cons.mp hq with hq | hq
                · exact absurd hq.symm e
                · have := (List.pairwise_cons.mp hB).1 q hq
                  omega
          omega
        · omega
      · rw [cbS p.1 pG, if_pos (by omega)]
    have sz : ((List.replicate (e.2.1.toNat + 1) (p.1 - 1) ++ List.replicate e.2.1.toNat G).length : Int) = 2 * e.2.1 + 1 := by
      rw [List.length_append, List.length_replicate, List.length_replicate]; omega
    have := h _ nev
    rw [act_some (by rw [te, sz]; omega)] at this
    unfold act at this
    split at this
    · rename_i hle
      have hlen := congrArg List.length (Option.some.inj this)
      rw [List.length_append, List.length_append, List.length_drop, List.length_drop, hn, te] at hlen
      have t0 := (tk_ge f.1 f.2.1 (List.replicate (e.2.1.toNat + 1) (p.1 - 1) ++ List.replicate e.2.1.toNat G)).1
      have heq : tk f.1 f.2.1 (List.replicate (e.2.1.toNat + 1) (p.1 - 1) ++ List.replicate e.2.1.toNat G) = e.2.1 + 1 + p.2 := by
        generalize tk f.1 f.2.1 (List.replicate (e.2.1.toNat + 1) (p.1 - 1) ++ List.replicate e.2.1.toNat G) = z at *
        omega
      rcases tk_mem f.1 f.2.1 (List.replicate (e.2.1.toNat + 1) (p.1 - 1) ++ List.replicate e.2.1.toNat G) with e1 | ⟨q, hq, e1⟩
      · omega
      · rw [heq, cbS q.1 (g2 q hq)] at e1
        have := hf.le q hq
        split at e1
        · exact ⟨q, hq, by omega, by omega⟩
        · omega
    · cases this
  have sub : ∀ {e f : Ef}, Valid e → Valid f → Above G e → Above G f → e.2.1 = f.2.1 → e.2.2 = f.2.2 → (∀ S, Never S → act e S = act f S) → ∀ p ∈ e.1, p ∈ f.1 := fun {e f} he hf g1 g2 hd hn h p hp => by
    obtain ⟨q, hq, a, b⟩ := key he hf g1 g2 hd hn h p hp
    obtain ⟨r, hr, c, d⟩ := key hf he g2 g1 hd.symm hn.symm (fun S hS => (h S hS).symm) q hq
    have e1 : p = r := chain_eq he.chain hp hr ⟨by omega, by omega⟩
    have : q = p := Prod.ext (by rw [← e1] at c; omega) b
    rw [← this]; exact hq
  have hp : e.1 = f.1 := sorted_ext (he.chain.imp fun h => h.1) (hf.chain.imp fun h => h.1) fun p => ⟨sub he hf g1 g2 hd hn h p, sub hf he g2 g1 hd.symm hn.symm (fun S hS => (h S hS).symm) p⟩
  exact Prod.ext hp (Prod.ext hd hn)
theorem jo_assoc {a b c : Ef} (ha : Valid a) (hb : Valid b) (hc : Valid c) : jo (jo a b) c = jo a (jo b c) := by
  refine act_inj (jo_valid (jo_valid ha hb) hc) (jo_valid ha (jo_valid hb hc)) fun S hS => ?_
  rw [act_jo (jo_valid ha hb) hc hS, act_jo ha hb hS, act_jo ha (jo_valid hb hc) hS]
  cases h : act a S with
  | none => rfl
  | some T => exact (act_jo hb hc (act_never ha hS h)).symm
theorem act_id (S : List Int) : act ([], 0, []) S = some S := by
  have : tk [] 0 S = 0 := rfl
  unfold act
  simp only [this]
  rw [if_pos (by omega)]
  simp
theorem jo_id_left {e : Ef} (he : Valid e) : jo ([], 0, []) e = e := act_inj (jo_valid id_valid he) he fun S hS => by rw [act_jo id_valid he hS, act_id]; rfl
theorem jo_id_right {e : Ef} (he : Valid e) : jo e ([], 0, []) = e := act_inj (jo_valid he id_valid) he fun S hS => by
  rw [act_jo he id_valid hS]
  cases act e S with
  | none => rfl
  | some T => exact act_id T
theorem effL_app : ∀ {b a : List Stp}, (∀ t ∈ a, 1 ≤ t.cnt) → (∀ t ∈ b, 1 ≤ t.cnt) → effL (a ++ b) = jo (effL a) (effL b) := by
  have key : ∀ (b : List Stp) (x : Ef), Valid x → (∀ t ∈ b, 1 ≤ t.cnt) → b.foldl (fun e s => jo e (stepE s)) x = jo x (effL b) := by
    intro b
    induction b with
    | nil => intro x hx _; exact (jo_id_right hx).symm
    | cons s b ih =>
      intro x hx hb
      have h1 := stepE_valid (hb s List.mem_cons_self)
      have hb' := fun t ht => hb t (List.mem_cons_of_mem s ht)
      rw [List.foldl_cons, ih _ (jo_valid hx h1) hb']
      have : effL (s :: b) = jo (stepE s) (effL b) := by
        unfold effL
        rw [List.foldl_cons, jo_id_left h1]
        exact ih _ h1 hb'
      rw [this, jo_assoc hx h1 (effL_valid hb')]
  intro b a ha hb
  have : effL (a ++ b) = b.foldl (fun e s => jo e (stepE s)) (effL a) := by
    unfold effL
    rw [List.foldl_append]
  rw [this]
  exact key b _ (effL_valid ha) hb
end Qa
namespace Qa
open PySem PySem.Spec PyProof.Rows L2 Evl Mi Pg Pu
/-! ### calls with a star parameter -/
@[simp] theorem z_callV {m : Ga → Res (Ga × R)} {n : Nat} {s : Ga → Res (Ga × List D)} {Γ : Ga} : callV m n s Γ = callS m (List.replicate (n + 1) none) (packS n s) Γ := rfl
@[simp] theorem z_packS {n : Nat} {s : Ga → Res (Ga × List D)} {Γ : Ga} : packS n s Γ = (s Γ).bind fun p => if n ≤ p.2.length ∧ p.2.length ≤ sizeLine then .ok (p.1, p.2.take n ++ [.tuple (p.2.drop n)]) else .stuck := rfl
/-! ### comprehensions whose parts change the state -/
theorem lcL_inv {g : D → Ga → Option Ga} {te : Ga → Res (Ga × D)} {vs : List Nat} (St : Ga → Prop) (P : D → Prop) : ∀ (xs : List D) (Γ : Ga), St Γ → (∀ x ∈ xs, ∀ Γ, St Γ → ∃ Γ1 Γ2 y, g x Γ = some Γ1 ∧ te Γ1 = .ok (Γ2, y) ∧ St (wipeG Γ2 vs) ∧ P y) →
    ∃ Γ' ys, lcL g sYes te vs xs Γ = .ok (Γ', ys) ∧ St Γ' ∧ ys.length = xs.length ∧ ∀ y ∈ ys, P y
  | [], Γ, h, _ => ⟨Γ, [], rfl, h, rfl, fun y hy => nomatch hy⟩
  | x :: xs, Γ, h, hs => by
    obtain ⟨Γ1, Γ2, y, e1, e2, h2, py⟩ := hs x List.mem_cons_self Γ h
    obtain ⟨Γ', ys, e3, h3, l3, p3⟩ := lcL_inv St P xs (wipeG Γ2 vs) h2 fun z hz => hs z (List.mem_cons_of_mem _ hz)
    refine ⟨Γ', y :: ys, ?_, h3, by simp [l3], fun z hz => ?_⟩
    · rw [lcL]
      simp only [e1, sYes, noX, bind_ok, if_true, e2, e3]
    · rcases List.mem_cons.mp hz with rfl | hz
      · exact py
      · exact p3 z hz
theorem sLc_inv {it : Ga → Res (Ga × List D)} {g : D → Ga → Option Ga} {te : Ga → Res (Ga × D)} {vs : List Nat} {Γ Γ1 : Ga} {xs : List D} (St : Ga → Prop) (P : D → Prop) (hit : it Γ = .ok (Γ1, xs)) (hw : wipeG Γ1 vs = Γ1) (h0 : St Γ1) (hl : xs.length ≤ 16777216)
    (hs : ∀ x ∈ xs, ∀ Γ, St Γ → ∃ Γ1 Γ2 y, g x Γ = some Γ1 ∧ te Γ1 = .ok (Γ2, y) ∧ St (wipeG Γ2 vs) ∧ P y) : ∃ Γ' ys, sLc it g sYes te vs Γ = .ok (unwipe Γ1 Γ' vs, .f ys) ∧ St Γ' ∧ ys.length = xs.length ∧ ∀ y ∈ ys, P y := by
  obtain ⟨Γ', ys, e, a, b, c⟩ := lcL_inv St P xs Γ1 h0 hs
  refine ⟨Γ', ys, ?_, a, b, c⟩
  unfold sLc
  rw [hit]
  simp only [bind_ok, hw, e, z_szle, b, if_pos hl]
/-- the comprehension's name has a value outside -/
theorem sLc_mapW {α : Type} (f F : α → D) {it : Ga → Res (Ga × List D)} {g : D → Ga → Option Ga} {te : Ga → Res (Ga × D)} {vs : List Nat} {Γ Γ1 Γw : Ga} {xs : List α} (hit : it Γ = .ok (Γ1, xs.map f)) (hw : wipeG Γ1 vs = Γw) (hu : unwipe Γ1 Γw vs = Γ1)
    (h : ∀ x ∈ xs, ∃ Γ2, g (f x) Γw = some Γ2 ∧ te Γ2 = .ok (Γ2, F x) ∧ wipeG Γ2 vs = Γw) (hl : xs.length ≤ 16777216) : sLc it g sYes te vs Γ = .ok (Γ1, .f (xs.map F)) := by
  unfold sLc
  rw [hit]
  simp only [bind_ok, hw, lcL_mapM xs h, List.length_map, z_szle, if_pos hl, hu]
theorem sLc_filtW {α : Type} (f F : α → D) (P : α → Bool) {it : Ga → Res (Ga × List D)} {g : D → Ga → Option Ga} {tt : Ga → Res (Ga × Bool)} {te : Ga → Res (Ga × D)} {vs : List Nat} {Γ Γ1 Γw : Ga} {xs : List α} (hit : it Γ = .ok (Γ1, xs.map f)) (hw : wipeG Γ1 vs = Γw) (hu : unwipe Γ1 Γw vs = Γ1)
    (h : ∀ x ∈ xs, ∃ Γ2, g (f x) Γw = some Γ2 ∧ tt Γ2 = .ok (Γ2, P x) ∧ te Γ2 = .ok (Γ2, F x) ∧ wipeG Γ2 vs = Γw) (hl : xs.length ≤ 16777216) : sLc it g tt te vs Γ = .ok (Γ1, .f ((xs.filter P).map F)) := by
  unfold sLc
  rw [hit]
  have hl' : ((xs.filter P).map F).length ≤ 16777216 := by
    rw [List.length_map]
    exact Nat.le_trans (List.length_filter_le _ _) hl
  simp only [bind_ok, hw, lcL_filterM xs h, z_szle, if_pos hl', hu]
theorem pick {α : Type} {f : α → D} {P : α → Prop} : ∀ {ys : List D}, (∀ y ∈ ys, ∃ a, y = f a ∧ P a) → ∃ L : List α, ys = L.map f ∧ ∀ a ∈ L, P a
  | [], _ => ⟨[], rfl, fun a ha => nomatch ha⟩
  | y :: ys, h => by
    obtain ⟨a, rfl, pa⟩ := h y List.mem_cons_self
    obtain ⟨L, rfl, pL⟩ := pick fun z hz => h z (List.mem_cons_of_mem _ hz)
    exact ⟨a :: L, rfl, fun b hb => by
      rcases List.mem_cons.mp hb with rfl | hb
      · exact pa
      · exact pL b hb⟩
/-! ### composed -/
@[simp] theorem fl_eff {n : Nat} {P : List PP} {d : Int} {N : List Int} : fl (n + 3) (eff P d N) = true := by simp [eff]
theorem eff_inj {e f : Ef} : effE e = effE f ↔ e = f := by
  obtain ⟨P, d, N⟩ := e
  obtain ⟨P2, d2, N2⟩ := f
  simp [eff, rt_inj, stk_inj]
theorem eqS_eff {e f : Ef} [Decidable (e = f)] : eqS (effE e) (effE f) = .ok (.d (.bool (decide (e = f)))) := eqS_fl (by simp) (by simp) eff_inj
theorem neS_eff {e f : Ef} [Decidable (e = f)] : neS (effE e) (effE f) = .ok (.d (.bool (!decide (e = f)))) := neS_fl (by simp) (by simp) eff_inj
def compL (es : List Ef) : Ef := es.foldl jo ([], 0, [])
/-- small enough to be reckoned with -/
structure Small (k : Nat) (e : Ef) : Prop where
  v : Valid e
  p : e.1.length ≤ k
  r : (runsT e.2.2).length ≤ k
theorem Small.up {k j : Nat} {e : Ef} (h : Small k e) (hk : k ≤ j) : Small j e := ⟨h.v, Nat.le_trans h.p hk, Nat.le_trans h.r hk⟩
theorem Small.jo {k j : Nat} {e f : Ef} (he : Small k e) (hf : Small j f) : Small (k + j) (jo e f) := ⟨jo_valid he.v hf.v, Nat.le_trans (jo_len _ _) (Nat.add_le_add he.p hf.p), Nat.le_trans (jo_few _ _) (Nat.add_le_add he.r hf.r)⟩
theorem small_id : Small 0 ([], 0, []) := ⟨id_valid, Nat.le_refl _, Nat.le_refl _⟩
theorem joined_small {k : Nat} {e f : Ef} (he : Small k e) (hf : Small k f) (hk : k ≤ 1000) : m_joined [.d (effE e), .d (effE f)] = .ok ([.d (effE e), .d (effE f)], .d (effE (jo e f))) :=
  joined_ok e f (Nat.le_trans he.p hk) (Nat.le_trans hf.p hk) (Nat.le_trans he.r hk) (Nat.le_trans hf.r hk) he.v.nev hf.v.d0
theorem check_small {k : Nat} {e : Ef} (he : Small k e) (hk : k ≤ 1000) : m_check_effect [.d (effE e)] = .ok ([.d (effE e)], .d .none) := check_effect_ok he.v (Nat.le_trans he.p hk) (Nat.le_trans he.r hk)
theorem composed_ok {es : List Ef} {k : Nat} (h : ∀ e ∈ es, Small k e) (hk : k * (es.length + 1) ≤ 1000) : m_composed [.d (.tuple (es.map effE))] = .ok ([.d (.tuple (es.map effE))], .d (effE (compL es))) := by
  have hk1 : k ≤ 1000 := by
    rw [Nat.mul_succ] at hk
    omega
  obtain ⟨t, e1⟩ := forL_same (g := gN 1) (b := l1b_composed) (fun t => [.d (.tuple (es.map effE)), t, .un]) (es.map effE) .un fun x hx t => by
    obtain ⟨e, he, rfl⟩ := List.mem_map.mp hx
    exact ⟨_, .d (effE e), rfl, by simp [l1b_composed, check_small (h e he) hk1]⟩
  have e1 : l1_composed [.d (.tuple (es.map effE)), .un, .un] = .ok ([.d (.tuple (es.map effE)), t, .un], .nx) := by
    unfold l1_composed sFor
    simp
    exact e1
  obtain ⟨u, e2, _⟩ := sFor_fold (g := gN 1) (b := l2b_composed) (it := sIt iterA (sName 0)) (Γ := [.d (.tuple (es.map effE)), t, .d (effE ([], 0, []))]) (fun (e : Ef) (t : Sl) => [.d (.tuple (es.map effE)), t, .d (effE e)]) effE jo
    (fun i e => Small (k * i) e) (xs := es) (s := ([], 0, [])) t (by simp) small_id (fun i e t f hf hi hp => by
      have hm : k * (i + 1) ≤ 1000 := Nat.le_trans (Nat.mul_le_mul_left k (by omega)) hk
      rw [Nat.mul_succ] at hm ⊢
      refine ⟨⟨_, .d (effE f), rfl, ?_⟩, hp.jo (h f hf)⟩
      have := joined_small (hp.up (j := k * i + k) (by omega)) ((h f hf).up (j := k * i + k) (by omega)) hm
      simp [l2b_composed, this])
  have e2 : l2_composed [.d (.tuple (es.map effE)), t, .d (effE ([], 0, []))] = _ := e2
  have e3 : PyData.tuple [.tuple [], .int 0, .tuple []] = effE ([], 0, []) := rfl
  have e4 : es.foldl jo ([], 0, []) = compL es := rfl
  rw [e4] at e2
  simp [m_composed, b_composed, e1, e3, e2]
theorem compL_valid {es : List Ef} (h : ∀ e ∈ es, Valid e) : Valid (compL es) := by
  have : ∀ (es : List Ef) (x : Ef), Valid x → (∀ e ∈ es, Valid e) → Valid (es.foldl jo x) := fun es => by
    induction es with
    | nil => intro x hx _; exact hx
    | cons e es ih => intro x hx he; exact ih _ (jo_valid hx (he e List.mem_cons_self)) fun f hf => he f (List.mem_cons_of_mem _ hf)
  exact this es _ id_valid h
theorem compL_effL : ∀ {L : List (List Stp)}, (∀ ss ∈ L, ∀ t ∈ ss, 1 ≤ t.cnt) → compL (L.map effL) = effL L.flatten := by
  have key : ∀ (L : List (List Stp)) (a : List Stp), (∀ t ∈ a, 1 ≤ t.cnt) → (∀ ss ∈ L, ∀ t ∈ ss, 1 ≤ t.cnt) → (L.map effL).foldl jo (effL a) = effL (a ++ L.flatten) := fun L => by
    induction L with
    | nil => intro a _ _; simp
    | cons ss L ih =>
      intro a ha h
      have h1 := h ss List.mem_cons_self
      rw [List.map_cons, List.foldl_cons, ← effL_app ha h1, ih (a ++ ss) (fun t ht => by
        rcases List.mem_append.mp ht with ht | ht
        · exact ha t ht
        · exact h1 t ht) fun s hs => h s (List.mem_cons_of_mem _ hs)]
      simp
  intro L h
  exact key L [] (fun t ht => nomatch ht) h
theorem compL_cons {e : Ef} {es : List Ef} (he : Valid e) (hs : ∀ f ∈ es, Valid f) : compL (e :: es) = jo e (compL es) := by
  have key : ∀ (es : List Ef) (x : Ef), Valid x → (∀ f ∈ es, Valid f) → es.foldl jo x = jo x (compL es) := fun es => by
    induction es with
    | nil => intro x hx _; exact (jo_id_right hx).symm
    | cons f es ih =>
      intro x hx h
      have h1 := h f List.mem_cons_self
      have h2 := fun g hg => h g (List.mem_cons_of_mem f hg)
      have : compL (f :: es) = jo f (compL es) := by
        unfold compL
        rw [List.foldl_cons, jo_id_left h1]
        exact ih f h1 h2
      rw [List.foldl_cons, ih _ (jo_valid hx h1) h2, this, jo_assoc hx h1 (compL_valid h2)]
  unfold compL
  rw [List.foldl_cons, jo_id_left he]
  exact key es e he hs
theorem Drawn.sm {ss : List Stp} {most : Nat} {lo hi c : Int} (h : Drawn ss most lo hi c) (hc : 0 ≤ c) : Small (c.toNat * most) (effL ss) := by
  have b := h.small hc
  exact ⟨effL_valid h.ok, b.pl, Nat.le_trans (runs_len_le _) b.l⟩
end Qa
namespace Qa
open PySem PySem.Spec PyProof.Rows L2 Evl Mi Pg Pu
/-! ### powers of effects -/
/-- how much deeper each further turn cuts -/
def byE (e : Ef) : Int := tk e.1 e.2.1 e.2.2 - e.2.2.length
def botE (e : Ef) : Int := e.2.2.getLast?.getD 0
def pw (e : Ef) (n : Nat) : Ef :=
  if n = 0 then ([], 0, [])
  else if byE e < 0 then (e.1, e.2.1, e.2.2 ++ List.replicate (-byE e * ((n : Int) - 1)).toNat (botE e))
  else (e.1.map (shift (byE e * ((n : Int) - 1))), e.2.1 + byE e * ((n : Int) - 1), e.2.2)
def jpow (e : Ef) : Nat → Ef
  | 0 => ([], 0, [])
  | n + 1 => jo (jpow e n) e
theorem jpow_valid {e : Ef} (he : Valid e) : ∀ n, Valid (jpow e n)
  | 0 => id_valid
  | n + 1 => jo_valid (jpow_valid he n) he
theorem jpow_one {e : Ef} (he : Valid e) : jpow e 1 = e := jo_id_left he
theorem jpow_add {e : Ef} (he : Valid e) (m : Nat) : ∀ n, jpow e (m + n) = jo (jpow e m) (jpow e n)
  | 0 => (jo_id_right (jpow_valid he m)).symm
  | n + 1 => by
    show jo (jpow e (m + n)) e = jo (jpow e m) (jo (jpow e n) e)
    rw [jpow_add he m n, jo_assoc (jpow_valid he m) (jpow_valid he n) he]
theorem jpow_mul {e : Ef} (he : Valid e) (m : Nat) : ∀ n, jpow (jpow e m) n = jpow e (m * n)
  | 0 => rfl
  | n + 1 => by
    show jo (jpow (jpow e m) n) (jpow e m) = _
    rw [jpow_mul he m n, Nat.mul_succ, jpow_add he]
theorem map_shift_zero (P : List PP) : P.map (shift 0) = P := by
  have : (shift 0 : PP → PP) = id := by funext p; simp [shift]
  rw [this, List.map_id]
theorem map_shift_add (P : List PP) (a b : Int) : (P.map (shift a)).map (shift b) = P.map (shift (a + b)) := by
  rw [List.map_map]
  congr 1
  funext p
  simp [shift, Int.add_assoc]
theorem und_app {P M : List PP} (hP : P.Pairwise fun p q => p.1 < q.1 ∧ q.2 < p.2) (h : ∀ p ∈ M, ∃ q ∈ P, dom p q) : und (P ++ M) = P :=
  (und_top _).unique ⟨hP, fun p hp => List.mem_append_left _ hp, fun p hp => by
    rcases List.mem_append.mp hp with h1 | h1
    · exact ⟨p, h1, dom.refl p⟩
    · exact h p h1⟩
theorem shift_chain {P : List PP} (k : Int) (hP : P.Pairwise fun p q => p.1 < q.1 ∧ q.2 < p.2) : (P.map (shift k)).Pairwise fun p q => p.1 < q.1 ∧ q.2 < p.2 := by
  rw [List.pairwise_map]
  exact hP.imp fun h => ⟨h.1, by have := h.2; simp only [Pu.shift]; omega⟩
theorem neg_parts {e : Ef} (he : Valid e) (h : byE e < 0) : ∃ b, e.2.2.getLast? = some b ∧ botE e = b ∧ (∀ p ∈ e.1, p.1 ≤ b) ∧ ∃ p ∈ e.1, p.1 = b := by
  obtain ⟨P, d, N⟩ := e
  simp only [byE] at h
  have hd : d ≤ tk P d N := (tk_ge P d N).1
  have h0 : 0 ≤ d := he.d0
  obtain ⟨b, hb⟩ : ∃ b, N.getLast? = some b := by
    cases hN : N.getLast? with
    | none =>
      have hN := List.getLast?_eq_none_iff.mp hN
      subst hN
      simp only [List.length_nil] at h
      omega
    | some b => exact ⟨b, rfl⟩
  have hm := last_max he.nev hb
  have ha : ∀ p ∈ P, p.1 ≤ b := fun p hp => by
    apply Int.not_lt.mp
    intro hlt
    have h1 := (tk_ge P d N).2 p hp
    rw [cb_all fun x hx => by have := hm x hx; omega] at h1
    have := he.nn p hp
    omega
  have hbN : b ∈ N := List.mem_of_getLast? hb
  obtain ⟨p, hp, hbp⟩ := he.cov b hbN
  exact ⟨b, hb, by simp [botE, hb], ha, p, hp, Int.le_antisymm (ha p hp) hbp⟩
theorem tk_rep {P : List PP} {d b : Int} {N : List Int} {k : Nat} (ha : ∀ p ∈ P, p.1 ≤ b) : tk P d (N ++ List.replicate k b) = tk P d N := by
  unfold tk
  congr 1
  apply List.map_congr_left
  intro p hp
  have := ha p hp
  rw [cb_app, cb_rep, if_neg (by omega)]
  omega
theorem pw_succ {e : Ef} (he : Valid e) {n : Nat} (hn : 1 ≤ n) : jo (pw e n) e = pw e (n + 1) := by
  have h0 : n ≠ 0 := by omega
  have hn1 : (0 : Int) ≤ (n : Int) - 1 := by omega
  by_cases h : byE e < 0
  · obtain ⟨b, hb, hbb, ha, p, hp, hpb⟩ := neg_parts he h
    have e1 : pw e n = (e.1, e.2.1, e.2.2 ++ List.replicate (-byE e * ((n : Int) - 1)).toNat b) := by simp only [pw, if_neg h0, if_pos h, hbb]
    have e2 : pw e (n + 1) = (e.1, e.2.1, e.2.2 ++ List.replicate (-byE e * (((n + 1 : Nat) : Int) - 1)).toNat b) := by simp only [pw, if_neg (Nat.succ_ne_zero n), if_pos h, hbb]
    rw [e1, e2]
    have hB : (-byE e * (((n + 1 : Nat) : Int) - 1)).toNat = (-byE e).toNat + (-byE e * ((n : Int) - 1)).toNat := by
      have a1 : (((n + 1 : Nat) : Int) - 1) = ((n : Int) - 1) + 1 := by omega
      rw [a1, Int.mul_add, Int.mul_one]
      have := Int.mul_nonneg (a := -byE e) (b := (n : Int) - 1) (by omega) hn1
      omega
    rw [hB]
    generalize (-byE e * ((n : Int) - 1)).toNat = k
    have hlt : tk e.1 e.2.1 e.2.2 < e.2.2.length := by simp only [byE] at h; omega
    have ht0 : 0 ≤ tk e.1 e.2.1 e.2.2 := Int.le_trans he.d0 (tk_ge _ _ _).1
    have hbe : (-byE e).toNat = e.2.2.length - (tk e.1 e.2.1 e.2.2).toNat := by simp only [byE]; omega
    have hbN : b ∈ e.2.2 := List.mem_of_getLast? hb
    have hdr : e.2.2.drop (tk e.1 e.2.1 e.2.2).toNat = List.replicate (-byE e).toNat b := by
      rw [List.eq_replicate_iff, List.length_drop, hbe]
      refine ⟨rfl, fun x hx => Int.le_antisymm (last_max he.nev hb x (List.mem_of_mem_drop hx)) ?_⟩
      refine drop_ge (t := b) he.nev ?_ x hx
      have h1 := (tk_ge e.1 e.2.1 e.2.2).2 p hp
      have := he.nn p hp
      rw [hpb] at h1
      omega
    simp only [jo, tk_rep ha]
    have l1 : ((e.2.2 ++ List.replicate k b).length : Int) = e.2.2.length + k := by simp
    rw [l1]
    have m1 : max 0 (tk e.1 e.2.1 e.2.2 - ((e.2.2.length : Int) + k)) = 0 := by omega
    have m2 : min ((e.2.2.length : Int) + k) (tk e.1 e.2.1 e.2.2) = tk e.1 e.2.1 e.2.2 := by omega
    rw [m1, m2, map_shift_zero, Int.add_zero, List.drop_append_of_le_length (by omega), hdr, List.replicate_append_replicate]
    have f0 : e.1.filter (thr (e.2.2 ++ List.replicate k b)) = [] := by
      rw [List.filter_eq_nil_iff]
      intro q hq
      have := ha q hq
      simp only [thr, decide_eq_true_eq]
      intro hall
      have := hall b (List.mem_append_left _ hbN)
      omega
    rw [f0, und_app he.chain (fun p hp => absurd hp List.not_mem_nil)]
  · have e1 : pw e n = (e.1.map (shift (byE e * ((n : Int) - 1))), e.2.1 + byE e * ((n : Int) - 1), e.2.2) := by simp only [pw, if_neg h0, if_neg h]
    have e2 : pw e (n + 1) = (e.1.map (shift (byE e * (((n + 1 : Nat) : Int) - 1))), e.2.1 + byE e * (((n + 1 : Nat) : Int) - 1), e.2.2) := by simp only [pw, if_neg (Nat.succ_ne_zero n), if_neg h]
    have hB : byE e * (((n + 1 : Nat) : Int) - 1) = byE e * ((n : Int) - 1) + byE e := by
      have a1 : (((n + 1 : Nat) : Int) - 1) = ((n : Int) - 1) + 1 := by omega
      rw [a1, Int.mul_add, Int.mul_one]
    rw [e1, e2, hB]
    have hK := Int.mul_nonneg (a := byE e) (b := (n : Int) - 1) (by omega) hn1
    generalize byE e * ((n : Int) - 1) = K at *
    have hby : byE e = tk e.1 e.2.1 e.2.2 - e.2.2.length := rfl
    simp only [jo, ← hby]
    have m1 : max 0 (byE e) = byE e := by omega
    have m2 : min (e.2.2.length : Int) (tk e.1 e.2.1 e.2.2) = e.2.2.length := by omega
    rw [m1, m2, map_shift_add, Int.add_assoc, Int.toNat_natCast, List.drop_length, List.append_nil, und_app (shift_chain _ he.chain)]
    intro q hq
    obtain ⟨hq, hthr⟩ := List.mem_filter.mp hq
    simp only [thr, decide_eq_true_eq] at hthr
    refine ⟨shift (K + byE e) q, List.mem_map_of_mem hq, Int.le_refl _, ?_⟩
    have h1 := (tk_ge e.1 e.2.1 e.2.2).2 q hq
    show q.2 ≤ q.2 + (K + byE e)
    omega
theorem pw_one {e : Ef} (he : Valid e) : pw e 1 = e := by
  by_cases h : byE e < 0
  · have : (-byE e * (((1 : Nat) : Int) - 1)).toNat = 0 := by simp
    simp only [pw, if_neg Nat.one_ne_zero, if_pos h, this, List.replicate_zero, List.append_nil]
  · have : byE e * (((1 : Nat) : Int) - 1) = 0 := by simp
    simp only [pw, if_neg Nat.one_ne_zero, if_neg h, this, map_shift_zero, Int.add_zero]
theorem pw_jpow {e : Ef} (he : Valid e) (n : Nat) : pw e n = jpow e n := by
  induction n with
  | zero => rfl
  | succ n ih =>
    by_cases h : n = 0
    · subst h
      rw [pw_one he, jpow_one he]
    · rw [← pw_succ he (by omega), ih]
      rfl
/-- the bottom run grows -/
theorem runs_grow : ∀ {T : List Int} {n : Int}, T.getLast? = some n → ∃ c Q, runsT T = Q ++ [(n, c)] ∧ ∀ j : Nat, runsT (T ++ List.replicate j n) = Q ++ [(n, c + (j : Int))]
  | [], n, h => by cases h
  | [m], n, h => by
    simp at h; subst h
    refine ⟨1, [], rfl, fun j => ?_⟩
    have := runs_one m (j + 1) (Nat.succ_pos j)
    rw [List.replicate_succ] at this
    rw [List.singleton_append, this]
    simp
    omega
  | m :: k :: T, n, h => by
    obtain ⟨c, Q, e, hj⟩ := runs_grow (T := k :: T) (n := n) (by simpa [List.getLast?_cons_cons] using h)
    have e1 : runsT (m :: k :: T) = addR m (runsT (k :: T)) := rfl
    have e2 : ∀ j : Nat, runsT (m :: k :: T ++ List.replicate j n) = addR m (runsT (k :: T ++ List.replicate j n)) := fun j => rfl
    cases Q with
    | nil =>
      by_cases a : m = n
      · refine ⟨c + 1, [], by rw [e1, e]; simp [addR, a], fun j => ?_⟩
        rw [e2, hj]
        simp [addR, a]
        omega
      · have a' : ¬ n = m := fun h => a h.symm
        exact ⟨c, [(m, 1)], by rw [e1, e]; simp [addR, a, a'], fun j => by rw [e2, hj]; simp [addR, a, a']⟩
    | cons q Q =>
      obtain ⟨u, v⟩ := q
      by_cases a : m = u
      · exact ⟨c, (u, v + 1) :: Q, by rw [e1, e]; simp [addR, a], fun j => by rw [e2, hj]; simp [addR, a]⟩
      · have a' : ¬ u = m := fun h => a h.symm
        exact ⟨c, (m, 1) :: (u, v) :: Q, by rw [e1, e]; simp [addR, a, a'], fun j => by rw [e2, hj]; simp [addR, a, a']⟩
theorem with_bottom_ok {N : List Int} {b : Int} (h : N.getLast? = some b) (hf : Few N) (j : Nat) : m_with_bottom [.d (stk N), .d (.int j)] = .ok ([.d (stk N), .d (.int j)], .d (stk (N ++ List.replicate j b))) := by
  obtain ⟨c, Q, e, hj⟩ := runs_grow h
  have e1 : stk N = .tuple (tw (b, c) :: Q.reverse.map tw) := by simp [stk, rt, e]
  have e2 : stk (N ++ List.replicate j b) = .tuple (tw (b, c + (j : Int)) :: Q.reverse.map tw) := by simp [stk, rt, hj]
  have hs : slG (.tuple (tw (b, c) :: Q.reverse.map tw)) (some 1) none = .ok (.d (.tuple (Q.reverse.map tw))) := by rw [q_slGt, cut_drop1]; rfl
  have hl : 1 + Q.length ≤ 16777216 := by
    have : (runsT N).length ≤ 1000 := hf
    rw [e, List.length_append] at this
    omega
  rw [e1, e2]
  have i1 : atI [PyData.int b, .int c] 0 = some (.int b) := by simp
  have i2 : atI [PyData.int b, .int c] 1 = some (.int c) := atI_nat (j := 1) rfl
  generalize hQ : Q.reverse.map tw = R at *
  have hR : R.length = Q.length := by rw [← hQ]; simp
  have hc : Mi.cutD (PyData.tuple [PyData.int b, .int c] :: R) (some 1) none = R := cut_drop1 _
  have hl : R.length ≤ 16777215 := by omega
  simp [m_with_bottom, b_with_bottom, tw, hc, hl]
theorem pw_small {e : Ef} {k : Nat} (he : Small k e) (n : Nat) : Small k (pw e n) := by
  refine ⟨by rw [pw_jpow he.v]; exact jpow_valid he.v n, ?_, ?_⟩
  · unfold pw
    split
    · exact Nat.zero_le _
    · split
      · exact he.p
      · rw [List.length_map]; exact he.p
  · unfold pw
    split
    · exact Nat.zero_le _
    · split
      · rename_i h
        obtain ⟨b, hb, hbb, -⟩ := neg_parts he.v h
        obtain ⟨c, Q, e1, hj⟩ := runs_grow hb
        have := he.r
        simp only [hbb, hj]
        rw [e1] at this
        simpa using this
      · exact he.r
/-- numbers that may be reckoned with -/
structure Numb (e : Ef) (k : Int) : Prop where
  d : e.2.1 ≤ k
  l : (e.2.2.length : Int) ≤ k
theorem tk_le {e : Ef} (he : Valid e) (T : List Int) : tk e.1 e.2.1 T ≤ e.2.1 + T.length := by
  rcases tk_mem e.1 e.2.1 T with h | ⟨p, hp, h⟩
  · omega
  · have := he.le p hp
    have h2 : cb T p.1 ≤ T.length := by
      unfold cb
      have := List.length_filter_le (fun m => decide (m < p.1)) T
      omega
    omega
theorem by_le {e : Ef} {k : Int} (he : Valid e) (h : Numb e k) : -k ≤ byE e ∧ byE e ≤ k := by
  have h1 := tk_le he e.2.2
  have h2 := (tk_ge e.1 e.2.1 e.2.2).1
  have := he.d0
  have := h.d
  have := h.l
  simp only [byE]
  omega
theorem pw_numb {e : Ef} {k : Int} (he : Valid e) (h : Numb e k) (n : Nat) : Numb (pw e n) (k + k * n) := by
  have hb := by_le he h
  have hd := h.d
  have hl := h.l
  have h0 := he.d0
  by_cases hn : n = 0
  · subst hn
    exact ⟨by simp [pw]; omega, by simp [pw]; omega⟩
  · have hn1 : (0 : Int) ≤ (n : Int) - 1 := by omega
    have hk : k * (n : Int) = k * ((n : Int) - 1) + k := by
      have : (n : Int) = (n : Int) - 1 + 1 := by omega
      rw [this, Int.mul_add, Int.mul_one]
      simp
    have hk0 := Int.mul_nonneg (a := k) (b := (n : Int) - 1) (by omega) hn1
    unfold pw
    rw [if_neg hn]
    split
    · rename_i hneg
      have := Int.mul_le_mul_of_nonneg_right (a := -byE e) (b := k) (c := (n : Int) - 1) (by omega) hn1
      exact ⟨by show e.2.1 ≤ _; omega, by simp only [List.length_append, List.length_replicate]; omega⟩
    · have := Int.mul_le_mul_of_nonneg_right (a := byE e) (b := k) (c := (n : Int) - 1) (by omega) hn1
      exact ⟨by show e.2.1 + _ ≤ _; omega, by show (e.2.2.length : Int) ≤ _; omega⟩
theorem mulOk_60 {i j : Int} (h1 : i.natAbs < 10 ^ 60) (h2 : j.natAbs < 10 ^ 60) : mulOk i j = true := okB_of (.inr (.inr (by have := log2_60 h1; have := log2_60 h2; omega)))
theorem check_from_ok {n : Int} {k : Int} (h : k ≤ n) : m_check_from [.d (.int n), .d (.int k)] = .ok ([.d (.int n), .d (.int k)], .d .none) := by
  have h' : ¬ n < k := by omega
  simp [m_check_from, b_check_from, is_integer_int, h']
theorem power_of_ok {e : Ef} {k : Nat} {m : Int} (he : Small k e) (hk : k ≤ 1000) (hm : Numb e m) (hm2 : m < 10 ^ 60) (n : Nat) (hn0 : n ≠ 0) (hn : (n : Int) < 10 ^ 60) : m_power_of [.d (effE e), .d (.int n)] = .ok ([.d (effE e), .d (.int n)], .d (effE (pw e n))) := by
  have few : Few e.2.2 := Nat.le_trans he.r hk
  have c3 := taken_ok e.1 e.2.1 e.2.2 (T := e.2.2) (Nat.le_trans he.p (by omega)) few
  have c4 := size_of_stk few
  have hb := by_le he.v hm
  have hd := hm.d
  have h0 := he.v.d0
  have big : (10 : Int) ^ 60 = ((10 ^ 60 : Nat) : Int) := by decide +kernel
  have g0 : gTup' (gCons' (gN 2) (gCons' (gN 3) (gCons' (gN 4) gNil'))) 3 (effE e) [.d (effE e), .d (.int n), .un, .un, .un, .un] = some [.d (effE e), .d (.int n), .d (rt e.1), .d (.int e.2.1), .d (stk e.2.2), .un] := by simp [eff]
  have hby : byE e = tk e.1 e.2.1 e.2.2 - e.2.2.length := rfl
  have mo : ∀ i : Int, -m ≤ i → i ≤ m → mulOk i ((n : Int) - 1) = true := fun i h1 h2 => mulOk_60 (by omega) (by omega)
  have hn1 : (0 : Int) ≤ (n : Int) - 1 := by omega
  by_cases h : byE e < 0
  · obtain ⟨b, hb1, hbb, -⟩ := neg_parts he.v h
    have hK := Int.mul_nonneg (a := -byE e) (b := (n : Int) - 1) (by omega) hn1
    have c6 := with_bottom_ok hb1 few (-byE e * ((n : Int) - 1)).toNat
    have mo1 := mo (-byE e) (by omega) (by omega)
    have e2 : effE (pw e n) = .tuple [rt e.1, .int e.2.1, stk (e.2.2 ++ List.replicate (-byE e * ((n : Int) - 1)).toNat b)] := by
      simp only [pw, if_neg hn0, if_pos h, hbb]; rfl
    rw [Int.toNat_of_nonneg hK] at c6
    rw [e2]
    simp [m_power_of, b_power_of, g0, c3, c4, c6, ← hby, h, mo1]
  · have c6 := shifted_ok e.1 (byE e * ((n : Int) - 1)) (Nat.le_trans he.p (by omega))
    have mo1 := mo (byE e) (by omega) (by omega)
    have e2 : effE (pw e n) = .tuple [rt (e.1.map (shift (byE e * ((n : Int) - 1)))), .int (e.2.1 + byE e * ((n : Int) - 1)), stk e.2.2] := by
      simp only [pw, if_neg hn0, if_neg h]; rfl
    have m1 : max 0 (byE e) = byE e := by omega
    rw [e2]
    simp [m_power_of, b_power_of, g0, c3, c4, c6, ← hby, h, mo1, m1]
theorem power_ok {e : Ef} {k : Nat} {m : Int} (he : Small k e) (hk : k ≤ 1000) (hm : Numb e m) (hm2 : m < 10 ^ 60) (n : Nat) (hn : (n : Int) < 10 ^ 60) : m_power [.d (effE e), .d (.int n)] = .ok ([.d (effE e), .d (.int n)], .d (effE (pw e n))) := by
  have c1 := check_small he hk
  have c2 := check_from_ok (n := n) (k := 0) (by omega)
  by_cases hn0 : n = 0
  · subst hn0
    have c2 : m_check_from [.d (.int 0), .d (.int 0)] = .ok ([.d (.int 0), .d (.int 0)], .d .none) := c2
    have : effE (pw e 0) = .tuple [.tuple [], .int 0, .tuple []] := rfl
    rw [this]
    simp [m_power, b_power, c1, c2]
  · have c5 := power_of_ok he hk hm hm2 n hn0 hn
    have hpos := Nat.pos_of_ne_zero hn0
    simp [m_power, b_power, c1, c2, c5, hpos]
end Qa
namespace Qa
open PySem PySem.Spec PyProof.Rows L2 Evl Mi Pg Pu
/-! ### roots of effects -/
theorem z_divmod {i j : Int} (h1 : 0 < j) (h2 : j.natAbs.log2 < 9000) : divmodW [.int i, .int j] = .ok (.d (.tuple [.int (i / j), .int (i % j)])) := if_pos (okB_of ⟨h1, h2⟩)
/-- what is taken off -/
def lessE (e : Ef) (n : Nat) : Int := (byE e).natAbs / n * ((n : Int) - 1)
def lowE (e : Ef) (n : Nat) : Bool := match e.1.getLast? with
  | some p => decide (p.2 < lessE e n)
  | none => false
def cand (e : Ef) (n : Nat) : Option Ef :=
  if ((byE e).natAbs : Int) % n ≠ 0 then none
  else if byE e < 0 then some (e.1, e.2.1, e.2.2.take (e.2.2.length - (lessE e n).toNat))
  else if lowE e n then none
  else some (e.1.map (shift (-lessE e n)), e.2.1 - lessE e n, e.2.2)
open Classical in
noncomputable def rootE (e : Ef) (n : Nat) : Option Ef := match cand e n with
  | some f => if pw f n = e then some f else none
  | none => none
def optE : Option Ef → D
  | some f => effE f
  | none => .none
theorem tk_shift (P : List PP) (d K : Int) (T : List Int) : tk (P.map (shift K)) (d + K) T = tk P d T + K := by
  apply tk_eq
  · have := (tk_ge P d T).1; omega
  · intro p hp
    obtain ⟨q, hq, rfl⟩ := List.mem_map.mp hp
    have := (tk_ge P d T).2 q hq
    show cb T q.1 + (q.2 + K) ≤ _
    omega
  · rcases tk_mem P d T with h | ⟨q, hq, h⟩
    · exact .inl (by omega)
    · exact .inr ⟨shift K q, List.mem_map_of_mem hq, by show _ = cb T q.1 + (q.2 + K); omega⟩
theorem by_pw {f : Ef} (hf : Valid f) {n : Nat} (hn : 1 ≤ n) : byE (pw f n) = n * byE f := by
  have h0 : n ≠ 0 := by omega
  have hn1 : (0 : Int) ≤ (n : Int) - 1 := by omega
  have hm : (n : Int) * byE f = byE f * ((n : Int) - 1) + byE f := by
    rw [Int.mul_sub, Int.mul_one, Int.mul_comm]; omega
  by_cases h : byE f < 0
  · obtain ⟨b, hb, hbb, ha, -⟩ := neg_parts hf h
    have e1 : pw f n = (f.1, f.2.1, f.2.2 ++ List.replicate (-byE f * ((n : Int) - 1)).toNat b) := by simp only [pw, if_neg h0, if_pos h, hbb]
    have hK := Int.mul_nonneg (a := -byE f) (b := (n : Int) - 1) (by omega) hn1
    have hK2 : -byE f * ((n : Int) - 1) = -(byE f * ((n : Int) - 1)) := Int.neg_mul _ _
    have hby : byE f = tk f.1 f.2.1 f.2.2 - f.2.2.length := rfl
    rw [e1]
    simp only [byE, tk_rep ha]
    rw [← hby, List.length_append, List.length_replicate]
    omega
  · have e1 : pw f n = (f.1.map (shift (byE f * ((n : Int) - 1))), f.2.1 + byE f * ((n : Int) - 1), f.2.2) := by simp only [pw, if_neg h0, if_neg h]
    have hby : byE f = tk f.1 f.2.1 f.2.2 - f.2.2.length := rfl
    rw [e1]
    simp only [byE, tk_shift]
    rw [← hby]
    omega
theorem less_pw {f : Ef} (hf : Valid f) {n : Nat} (hn : 1 ≤ n) : ((byE (pw f n)).natAbs : Int) % n = 0 ∧ lessE (pw f n) n = (byE f).natAbs * ((n : Int) - 1) := by
  have e : ((byE (pw f n)).natAbs : Int) = n * (byE f).natAbs := by rw [by_pw hf hn, Int.natAbs_mul, Int.natAbs_natCast, Int.natCast_mul]
  refine ⟨by rw [e]; exact Int.mul_emod_right _ _, ?_⟩
  unfold lessE
  rw [e, Int.mul_ediv_cancel_left _ (by omega)]
theorem cand_pw {f : Ef} (hf : Valid f) {n : Nat} (hn : 1 ≤ n) : cand (pw f n) n = some f := by
  obtain ⟨h1, h2⟩ := less_pw hf hn
  have hb := by_pw hf hn
  have h0 : n ≠ 0 := by omega
  have hn1 : (0 : Int) ≤ (n : Int) - 1 := by omega
  unfold cand
  rw [if_neg (by simp [h1]), h2]
  by_cases h : byE f < 0
  · obtain ⟨b, hb1, hbb, ha, -⟩ := neg_parts hf h
    have hneg : byE (pw f n) < 0 := by rw [hb]; exact Int.mul_neg_of_pos_of_neg (by omega) h
    have e1 : pw f n = (f.1, f.2.1, f.2.2 ++ List.replicate (-byE f * ((n : Int) - 1)).toNat b) := by simp only [pw, if_neg h0, if_pos h, hbb]
    rw [if_pos hneg]
    have ha : ((byE f).natAbs : Int) = -byE f := by omega
    rw [ha]
    generalize (-byE f * ((n : Int) - 1)).toNat = k at *
    rw [e1]
    simp
  · have hpos : ¬ byE (pw f n) < 0 := by
      rw [hb]
      have := Int.mul_nonneg (a := (n : Int)) (b := byE f) (by omega) (by omega)
      omega
    have e1 : pw f n = (f.1.map (shift (byE f * ((n : Int) - 1))), f.2.1 + byE f * ((n : Int) - 1), f.2.2) := by simp only [pw, if_neg h0, if_neg h]
    have ha : ((byE f).natAbs : Int) = byE f := by omega
    have hlow : lowE (pw f n) n = false := by
      unfold lowE
      rw [h2, ha]
      cases hl : (pw f n).1.getLast? with
      | none => rfl
      | some p =>
        have := List.mem_of_getLast? hl
        rw [e1] at this
        obtain ⟨q, hq, rfl⟩ := List.mem_map.mp this
        have := hf.nn q hq
        show decide (q.2 + _ < _) = false
        rw [decide_eq_false_iff_not]
        omega
    rw [if_neg hpos, hlow, ha]
    generalize byE f * ((n : Int) - 1) = K at *
    rw [e1]
    simp only [map_shift_add, Int.add_right_neg, map_shift_zero, Bool.false_eq_true, if_false]
    rw [show f.2.1 + K - K = f.2.1 by omega]
theorem last_low {P : List PP} (h : P.Pairwise fun p q => p.1 < q.1 ∧ q.2 < p.2) {p : PP} (hl : P.getLast? = some p) : ∀ q ∈ P, p.2 ≤ q.2 := by
  obtain ⟨ys, rfl⟩ := List.getLast?_eq_some_iff.mp hl
  intro q hq
  rcases List.mem_append.mp hq with h1 | h1
  · have := (List.pairwise_append.mp h).2.2 q h1 p (by simp)
    omega
  · rw [List.mem_singleton.mp h1]
    exact Int.le_refl _
/-- the tail below what is taken consists of the bottom number -/
theorem neg_tail {e : Ef} (he : Valid e) (h : byE e < 0) {b : Int} (hb : e.2.2.getLast? = some b) : e.2.2.drop (tk e.1 e.2.1 e.2.2).toNat = List.replicate (-byE e).toNat b := by
  obtain ⟨b', hb', -, ha, p, hp, hpb⟩ := neg_parts he h
  obtain rfl : b' = b := by rw [hb] at hb'; exact (Option.some.inj hb').symm
  have hby : byE e = tk e.1 e.2.1 e.2.2 - e.2.2.length := rfl
  have ht0 : 0 ≤ tk e.1 e.2.1 e.2.2 := Int.le_trans he.d0 (tk_ge _ _ _).1
  rw [List.eq_replicate_iff, List.length_drop]
  refine ⟨by omega, fun x hx => Int.le_antisymm (last_max he.nev hb x (List.mem_of_mem_drop hx)) ?_⟩
  refine drop_ge (t := b') he.nev ?_ x hx
  have h1 := (tk_ge e.1 e.2.1 e.2.2).2 p hp
  have := he.nn p hp
  rw [hpb] at h1
  omega
/-- less is taken off than stands there -/
theorem less_lt {e : Ef} {n : Nat} (hn : 1 ≤ n) (h : ((byE e).natAbs : Int) % n = 0) : ∃ q : Int, 0 ≤ q ∧ q ≤ (byE e).natAbs ∧ lessE e n = (byE e).natAbs - q ∧ ((byE e).natAbs : Int) / n = q ∧ (byE e ≠ 0 → 1 ≤ q) := by
  have e1 := Int.mul_ediv_add_emod ((byE e).natAbs : Int) n
  rw [h, Int.add_zero] at e1
  have q0 : 0 ≤ ((byE e).natAbs : Int) / n := Int.ediv_nonneg (by omega) (by omega)
  have q1 : ((byE e).natAbs : Int) / n ≤ (byE e).natAbs := Int.ediv_le_self _ (by omega)
  refine ⟨((byE e).natAbs : Int) / n, q0, q1, ?_, rfl, fun hz => ?_⟩
  · unfold lessE
    generalize ((byE e).natAbs : Int) / n = q at *
    rw [Int.mul_sub, Int.mul_one, Int.mul_comm, e1]
  · apply Int.not_lt.mp
    intro hlt
    have : ((byE e).natAbs : Int) / n = 0 := by omega
    rw [this, Int.mul_zero] at e1
    omega
/-- what is left of a bottom run -/
theorem neg_take {e : Ef} (he : Valid e) (h : byE e < 0) {b : Int} (hb : e.2.2.getLast? = some b) {j : Nat} (hj : (j : Int) < -byE e) : ∃ N, e.2.2 = N ++ List.replicate j b ∧ N.getLast? = some b ∧ e.2.2.take (e.2.2.length - j) = N := by
  have ht := neg_tail he h hb
  have hby : byE e = tk e.1 e.2.1 e.2.2 - e.2.2.length := rfl
  have ht0 : 0 ≤ tk e.1 e.2.1 e.2.2 := Int.le_trans he.d0 (tk_ge _ _ _).1
  generalize tk e.1 e.2.1 e.2.2 = T at *
  have e1 : e.2.2 = e.2.2.take T.toNat ++ List.replicate (-byE e).toNat b := by rw [← ht, List.take_append_drop]
  obtain ⟨m, hm⟩ : ∃ m : Nat, (-byE e).toNat = (m + 1) + j := ⟨(-byE e).toNat - j - 1, by omega⟩
  have e2 : e.2.2 = (e.2.2.take T.toNat ++ List.replicate (m + 1) b) ++ List.replicate j b := by
    rw [List.append_assoc, List.replicate_append_replicate, ← hm]; exact e1
  have hl : (e.2.2.take T.toNat ++ List.replicate (m + 1) b).getLast? = some b := by
    rw [List.getLast?_append, List.getLast?_replicate]
    simp
  exact ⟨e.2.2.take T.toNat ++ List.replicate (m + 1) b, e2, hl, by
    generalize e.2.2.take T.toNat ++ List.replicate (m + 1) b = N at *
    rw [e2]
    simp⟩
theorem with_bottom_back {N : List Int} {b : Int} (h : N.getLast? = some b) (hf : Few N) (j : Nat) : m_with_bottom [.d (stk (N ++ List.replicate j b)), .d (.int (-(j : Int)))] = .ok ([.d (stk (N ++ List.replicate j b)), .d (.int (-(j : Int)))], .d (stk N)) := by
  obtain ⟨c, Q, e, hj⟩ := runs_grow h
  have e1 : stk N = .tuple (tw (b, c) :: Q.reverse.map tw) := by simp [stk, rt, e]
  have e2 : stk (N ++ List.replicate j b) = .tuple (tw (b, c + (j : Int)) :: Q.reverse.map tw) := by simp [stk, rt, hj]
  have hl : 1 + Q.length ≤ 16777216 := by
    have : (runsT N).length ≤ 1000 := hf
    rw [e, List.length_append] at this
    omega
  rw [e1, e2]
  generalize hQ : Q.reverse.map tw = R at *
  have hR : R.length = Q.length := by rw [← hQ]; simp
  have hc : Mi.cutD (PyData.tuple [PyData.int b, .int (c + (j : Int))] :: R) (some 1) none = R := cut_drop1 _
  have hl : R.length ≤ 16777215 := by omega
  have hz : c + (j : Int) + -(j : Int) = c := by omega
  simp [m_with_bottom, b_with_bottom, tw, hc, hl, hz]
theorem neS_rt_nil {P : List PP} : neS (rt P) (.tuple []) = .ok (.d (.bool (!decide (P = [])))) := neS_fl (by simp) (by simp) (by cases P <;> simp [rt])
theorem low_ix {P : List PP} {p : PP} (h : P.getLast? = some p) : ixG (rt P) (.int (-1)) = .ok (.d (tw p)) := by
  have : atI (P.map tw) (-1) = some (tw p) := at_last (by rw [List.getLast?_map, h]; rfl)
  simp [rt, this]
theorem cand_small {e : Ef} {k : Nat} (he : Small k e) {n : Nat} (hn : 1 ≤ n) {f : Ef} (h : cand e n = some f) : Small k f := by
  unfold cand at h
  split at h
  · cases h
  · rename_i hr
    simp only [ne_eq, Decidable.not_not] at hr
    obtain ⟨q, q0, q1, hl, -, hz⟩ := less_lt hn hr
    split at h
    · rename_i hneg
      cases h
      obtain ⟨b, hb, -, -⟩ := neg_parts he.v hneg
      have hz := hz (by omega)
      obtain ⟨N, h1, h2, h3⟩ := neg_take he.v hneg hb (j := (lessE e n).toNat) (by omega)
      rw [h3]
      have hv := he.v
      have hr := he.r
      obtain ⟨c, Q, g1, gj⟩ := runs_grow h2
      have hsub : ∀ x ∈ N, x ∈ e.2.2 := fun x hx => by rw [h1]; exact List.mem_append_left _ hx
      refine ⟨⟨hv.chain, hv.nn, hv.le, hv.d0, ?_, fun x hx => hv.cov x (hsub x hx)⟩, he.p, ?_⟩
      · have := hv.nev
        rw [h1] at this
        exact (List.pairwise_append.mp this).1
      · rw [h1, gj] at hr
        show (runsT N).length ≤ k
        rw [g1]
        simpa using hr
    · rename_i hpos
      split at h
      · cases h
      · rename_i hlow
        cases h
        have hv := he.v
        have hge : ∀ p ∈ e.1, lessE e n ≤ p.2 := fun p hp => by
          cases hl : e.1.getLast? with
          | none => rw [List.getLast?_eq_none_iff.mp hl] at hp; exact absurd hp List.not_mem_nil
          | some r =>
            have := last_low hv.chain hl p hp
            simp only [lowE, hl, decide_eq_true_eq] at hlow
            omega
        refine ⟨⟨shift_chain _ hv.chain, ?_, ?_, ?_, hv.nev, ?_⟩, by rw [List.length_map]; exact he.p, he.r⟩
        · intro p hp
          obtain ⟨q, hq, rfl⟩ := List.mem_map.mp hp
          have := hge q hq
          show 0 ≤ q.2 + -lessE e n
          omega
        · intro p hp
          obtain ⟨q, hq, rfl⟩ := List.mem_map.mp hp
          have := hv.le q hq
          show q.2 + -lessE e n ≤ e.2.1 - lessE e n
          omega
        · show 0 ≤ e.2.1 - lessE e n
          cases hP : e.1 with
          | cons p P =>
            have hp : p ∈ e.1 := by rw [hP]; exact List.mem_cons_self
            have := hge p hp
            have := hv.le p hp
            omega
          | nil =>
            have hN : e.2.2 = [] := by
              cases hN : e.2.2 with
              | nil => rfl
              | cons x N =>
                obtain ⟨p, hp, -⟩ := hv.cov x (by rw [hN]; exact List.mem_cons_self)
                rw [hP] at hp
                exact absurd hp List.not_mem_nil
            have hby : byE e = e.2.1 := by simp [byE, hP, hN, tk, maxL]
            omega
        · intro x hx
          obtain ⟨p, hp, hxp⟩ := hv.cov x hx
          exact ⟨_, List.mem_map_of_mem hp, hxp⟩
theorem cand_numb {e : Ef} {k : Int} (he : Valid e) (h : Numb e k) {n : Nat} (hn : 1 ≤ n) {f : Ef} (hc : cand e n = some f) : Numb f k := by
  have h1 := h.d
  have h2 := h.l
  unfold cand at hc
  split at hc
  · cases hc
  · rename_i hr
    simp only [ne_eq, Decidable.not_not] at hr
    obtain ⟨q, q0, q1, hl, -, hz⟩ := less_lt hn hr
    split at hc
    · cases hc
      refine ⟨h1, ?_⟩
      show ((e.2.2.take _).length : Int) ≤ k
      rw [List.length_take]
      omega
    · split at hc
      · cases hc
      · cases hc
        exact ⟨by show e.2.1 - lessE e n ≤ k; omega, h2⟩
theorem root_spec {e : Ef} (he : Valid e) {n : Nat} (hn : 1 ≤ n) {f : Ef} : rootE e n = some f ↔ Valid f ∧ pw f n = e := by
  constructor
  · intro h
    unfold rootE at h
    split at h
    · rename_i g hg
      split at h
      · rename_i hp
        cases h
        exact ⟨(cand_small (k := e.1.length + (runsT e.2.2).length) ⟨he, by omega, by omega⟩ hn hg).v, hp⟩
      · cases h
    · cases h
  · rintro ⟨hf, rfl⟩
    unfold rootE
    rw [cand_pw hf hn]
    simp
theorem candidate_ok {e : Ef} {k : Nat} {m : Int} (he : Small k e) (hk : k ≤ 1000) (hm : Numb e m) (hm2 : m < 10 ^ 60) {n : Nat} (hn1 : 1 ≤ n) (hn : (n : Int) < 10 ^ 60) : m_candidate [.d (effE e), .d (.int n)] = .ok ([.d (effE e), .d (.int n)], .d (optE (cand e n))) := by
  have few : Few e.2.2 := Nat.le_trans he.r hk
  have c3 := taken_ok e.1 e.2.1 e.2.2 (T := e.2.2) (Nat.le_trans he.p (by omega)) few
  have c4 := size_of_stk few
  have hb := by_le he.v hm
  have hd := hm.d
  have h0 := he.v.d0
  have big : (10 : Int) ^ 60 = ((10 ^ 60 : Nat) : Int) := by decide +kernel
  have hln : (n : Int).natAbs.log2 < 9000 := by have := log2_60 (i := (n : Int)) (by omega); omega
  have hdm := z_divmod (i := ((byE e).natAbs : Int)) (j := (n : Int)) (by omega) hln
  have hab : (if byE e < 0 then -byE e else byE e) = ((byE e).natAbs : Int) := by split <;> omega
  have g0 : gTup' (gCons' (gN 2) (gCons' (gN 3) (gCons' (gN 4) gNil'))) 3 (effE e) [.d (effE e), .d (.int n), .un, .un, .un, .un, .un, .un, .un] = some [.d (effE e), .d (.int n), .d (rt e.1), .d (.int e.2.1), .d (stk e.2.2), .un, .un, .un, .un] := by simp [eff]
  have hby : byE e = tk e.1 e.2.1 e.2.2 - e.2.2.length := rfl
  have hn' : ¬ n = 0 := by omega
  by_cases hr : ((byE e).natAbs : Int) % n = 0
  · obtain ⟨q, q0, q1, hl, hq, hz⟩ := less_lt hn1 hr
    have mo : mulOk q ((n : Int) - 1) = true := mulOk_60 (by omega) (by omega)
    have hle : lessE e n = q * ((n : Int) - 1) := by unfold lessE; rw [hq]
    rw [hr, hq] at hdm
    by_cases h : byE e < 0
    · obtain ⟨b, hb1, hbb, -⟩ := neg_parts he.v h
      have hz := hz (by omega)
      obtain ⟨N, h1, h2, h3⟩ := neg_take he.v h hb1 (j := (lessE e n).toNat) (by omega)
      have fN : Few N := by
        obtain ⟨c, Q, g1, gj⟩ := runs_grow h2
        have : (runsT e.2.2).length ≤ 1000 := few
        rw [h1, gj] at this
        show (runsT N).length ≤ 1000
        rw [g1]
        simpa using this
      have c6 := with_bottom_back h2 fN (lessE e n).toNat
      rw [← h1, Int.toNat_of_nonneg (by omega), hle] at c6
      have e2 : cand e n = some (e.1, e.2.1, N) := by
        unfold cand
        rw [if_neg (by simp [hr]), if_pos h, h3]
      rw [show ((byE e).natAbs : Int) = -byE e by omega] at hdm
      have e3 : optE (some (e.1, e.2.1, N)) = .tuple [rt e.1, .int e.2.1, stk N] := rfl
      rw [e2, e3]
      simp [m_candidate, b_candidate, g0, c3, c4, c6, ← hby, h, mo, hdm]
    · have c6 := shifted_ok e.1 (-lessE e n) (Nat.le_trans he.p (by omega))
      rw [hle] at c6
      rw [show ((byE e).natAbs : Int) = byE e by omega] at hdm
      have nr := neS_rt_nil (P := e.1)
      have hc : cand e n = if lowE e n then none else some (e.1.map (shift (-lessE e n)), e.2.1 - lessE e n, e.2.2) := by
        unfold cand
        rw [if_neg (by simp [hr]), if_neg h]
      cases hl : e.1.getLast? with
      | none =>
        have hP := List.getLast?_eq_none_iff.mp hl
        have low : lowE e n = false := by simp [lowE, hl]
        have e3 : optE (some (e.1.map (shift (-lessE e n)), e.2.1 - lessE e n, e.2.2)) = .tuple [rt (e.1.map (shift (-lessE e n))), .int (e.2.1 - lessE e n), stk e.2.2] := rfl
        rw [hc, low, if_neg (by simp), e3, hle]
        simp only [hP, decide_true, Bool.not_true] at nr
        rw [← hP] at nr
        simp [m_candidate, b_candidate, g0, c3, c4, c6, ← hby, h, mo, hdm, nr]
      | some p =>
        have hP : e.1 ≠ [] := fun hh => by rw [hh] at hl; cases hl
        have ix := low_ix hl
        simp only [hP, decide_false, Bool.not_false] at nr
        by_cases hlow : p.2 < lessE e n
        · have low : lowE e n = true := by simp [lowE, hl, hlow]
          rw [hc, low, if_pos rfl]
          rw [hle] at hlow
          simp [m_candidate, b_candidate, g0, c3, c4, c6, ← hby, h, mo, hdm, nr, ix, tw, hlow, optE]
        · have low : lowE e n = false := by simp [lowE, hl]; omega
          have e3 : optE (some (e.1.map (shift (-lessE e n)), e.2.1 - lessE e n, e.2.2)) = .tuple [rt (e.1.map (shift (-lessE e n))), .int (e.2.1 - lessE e n), stk e.2.2] := rfl
          rw [hc, low, if_neg (by simp), e3]
          rw [hle] at hlow ⊢
          simp [m_candidate, b_candidate, g0, c3, c4, c6, ← hby, h, mo, hdm, nr, ix, tw, hlow]
  · have hc : cand e n = none := by unfold cand; rw [if_pos hr]
    rw [hc]
    simp [m_candidate, b_candidate, g0, c3, c4, ← hby, hab, hdm, hr, optE]
theorem isNonD_eff {e : Ef} : isNonD (effE e) = false := rfl
theorem isNonD_none : isNonD .none = true := rfl
theorem root_ok {e : Ef} {k : Nat} {m : Int} (he : Small k e) (hk : k ≤ 1000) (hm : Numb e m) (hm2 : m < 10 ^ 60) {n : Nat} (hn1 : 1 ≤ n) (hn : (n : Int) < 10 ^ 60) : m_root [.d (effE e), .d (.int n)] = .ok ([.d (effE e), .d (.int n)], .d (optE (rootE e n))) := by
  have c1 := check_small he hk
  have c2 := check_from_ok (n := n) (k := 1) (by omega)
  have c3 := candidate_ok he hk hm hm2 hn1 hn
  unfold rootE
  cases h : cand e n with
  | none =>
    rw [h] at c3
    have e1 : optE none = .none := rfl
    rw [e1] at c3
    simp [m_root, b_root, c1, c2, c3, isNonD_none, e1]
  | some f =>
    dsimp only
    rw [h] at c3
    have e1 : optE (some f) = effE f := rfl
    rw [e1] at c3
    have fs := cand_small he hn1 h
    have fn := cand_numb he.v hm hn1 h
    have c4 := power_of_ok fs hk fn hm2 n (by omega) hn
    have c5 := eqS_eff (e := pw f n) (f := e)
    by_cases hp : pw f n = e
    · rw [if_pos hp, e1]
      simp only [hp, decide_true] at c4 c5
      simp [m_root, b_root, c1, c2, c3, c4, c5, isNonD_eff]
    · rw [if_neg hp]
      simp only [hp, decide_false] at c5
      have e2 : optE none = .none := rfl
      simp [m_root, b_root, c1, c2, c3, c4, c5, isNonD_eff, e2]
end Qa
namespace Qa
open PySem PySem.Spec PyProof.Rows L2 Evl Mi Pg Pu
theorem any_eqv {α : Type} {f : α → D} {L : List α} {x : D} (hx : fl 60 x = true) (hf : ∀ a ∈ L, fl 60 (f a) = true) : ((L.map f).any fun z => PyData.eqv z x) = true ↔ x ∈ L.map f := by
  rw [List.any_eq_true]
  constructor
  · rintro ⟨z, hz, he⟩
    obtain ⟨a, ha, rfl⟩ := List.mem_map.mp hz
    rw [(eqv_fl 60 60 _ _ (hf a ha) hx).mp he] at hz
    exact hz
  · intro h
    obtain ⟨a, ha, rfl⟩ := List.mem_map.mp h
    exact ⟨f a, h, (eqv_fl 60 60 _ _ hx hx).mpr rfl⟩
theorem flAll_map' {α : Type} {n : Nat} {f : α → D} {L : List α} (hf : ∀ a ∈ L, fl n (f a) = true) : flAll n (L.map f) = true := flAll_map hf
theorem inG_effs {L : List Ef} {e : Ef} [Decidable (e ∈ L)] : inG (effE e) (.list (L.map effE)) = .ok (.d (.bool (decide (e ∈ L)))) := by
  have h1 : SeqAt.shaped (effE e) = true := fl_shaped (by simp)
  have h2 : SeqAt.shaped (.list (L.map effE)) = true := fl_shaped (by rw [fl_lst]; exact flAll_map fun e _ => fl_eff)
  have h3 := any_eqv (f := effE) (L := L) (x := effE e) (by simp) (fun a _ => by simp)
  have h4 : effE e ∈ L.map effE ↔ e ∈ L := ⟨fun h => by
    obtain ⟨a, ha, hh⟩ := List.mem_map.mp h
    rwa [← eff_inj.mp hh], fun h => List.mem_map_of_mem h⟩
  rw [h4] at h3
  show (if (SeqAt.shaped (effE e) && SeqAt.shaped (.list (L.map effE))) = true then _ else _) = _
  rw [h1, h2]
  simp only [Bool.and_self, if_true]
  congr 3
  by_cases q : e ∈ L
  · rw [h3.mpr q]; simp [q]
  · rw [Bool.eq_false_iff.mpr fun h => q (h3.mp h)]; simp [q]
theorem notinG_effs {L : List Ef} {e : Ef} [Decidable (e ∈ L)] : notinG (effE e) (.list (L.map effE)) = .ok (.d (.bool (!decide (e ∈ L)))) := by
  have h1 : SeqAt.shaped (effE e) = true := fl_shaped (by simp)
  have h2 : SeqAt.shaped (.list (L.map effE)) = true := fl_shaped (by rw [fl_lst]; exact flAll_map fun e _ => fl_eff)
  have h3 := any_eqv (f := effE) (L := L) (x := effE e) (by simp) (fun a _ => by simp)
  have h4 : effE e ∈ L.map effE ↔ e ∈ L := ⟨fun h => by
    obtain ⟨a, ha, hh⟩ := List.mem_map.mp h
    rwa [← eff_inj.mp hh], fun h => List.mem_map_of_mem h⟩
  rw [h4] at h3
  show (if (SeqAt.shaped (effE e) && SeqAt.shaped (.list (L.map effE))) = true then _ else _) = _
  rw [h1, h2]
  simp only [Bool.and_self, if_true]
  congr 4
  by_cases q : e ∈ L
  · rw [h3.mpr q]; simp [q]
  · rw [Bool.eq_false_iff.mpr fun h => q (h3.mp h)]; simp [q]
/-- integers sorted -/
def leI (a b : Int) : Bool := PySem.W.dataLe false id (.int a) (.int b)
theorem sort_ints (L : List Int) (h : L.length ≤ 100000) : sortedA (.list (L.map .int)) = .ok (.f ((L.mergeSort leI).map .int)) := by
  have hs : sortP (L.map PyData.int) := by
    refine ⟨fun a ha b hb => ?_, .inr fun a ha => ?_, fun a ha => ?_, ?_⟩
    · obtain ⟨p, _, rfl⟩ := List.mem_map.mp ha
      obtain ⟨q, _, rfl⟩ := List.mem_map.mp hb
      simp [PySem.W.alike]
    · obtain ⟨p, _, rfl⟩ := List.mem_map.mp ha
      refine ⟨?_, ?_⟩
      · intro h; cases h
      · intro xs h; cases h
    · obtain ⟨p, _, rfl⟩ := List.mem_map.mp ha
      simp [PyData.depth]
    · rw [List.length_map, z_szle]; omega
  have e : ((L.map PyData.int).mergeSort fun a b => PySem.W.dataLe false id a b) = (L.mergeSort leI).map .int :=
    (List.map_mergeSort (r := leI) (f := PyData.int) fun a _ b _ => rfl).symm
  simp [sortedA, hs, e]
noncomputable def f63 (k : Int) : Bool := okB (-(2 ^ 63) ≤ k ∧ k < 2 ^ 63)
@[simp] theorem z_popAt {i : Nat} {s : Ga → Res (Ga × D)} {Γ : Ga} : sPopAt i s Γ = match ownAt Γ i with
  | some _ => (s Γ).bind fun p => match ownAt p.1 i, p.2 with
    | some (b, xs), .int k => if f63 k = true then (match ixN xs.length k with
      | some j => (match xs[j]? with | some x => .ok (p.1.set i (.own b (xs.eraseIdx j)), x) | none => .stuck)
      | none => .stuck) else .stuck
    | _, _ => .stuck
  | none => .stuck := rfl
theorem erase_perm {α : Type} {L : List α} {j : Nat} (hj : j < L.length) : (L[j] :: L.eraseIdx j).Perm L := by
  rw [List.eraseIdx_eq_take_drop_succ]
  refine List.perm_middle.symm.trans ?_
  rw [← List.drop_eq_getElem_cons hj, List.take_append_drop]
theorem erase_map {α β : Type} (f : α → β) (L : List α) (j : Nat) : (L.map f).eraseIdx j = (L.eraseIdx j).map f := by
  rw [List.eraseIdx_eq_take_drop_succ, List.eraseIdx_eq_take_drop_succ, List.map_append, List.map_take, List.map_drop]
theorem shuffled_loop (s1 : Sl) : ∀ (n : Nat) (L A : List Int) (p : Pool), L.length = n → L.length + A.length ≤ 1000 → ∃ (q : Pool) (B : List Int), B.Perm L ∧ l1__law_shuffled [.own true (pl p), s1, .own false (L.map .int), .own false (A.map .int)] = .ok ([.own true (pl q), s1, .own false [], .own false ((A ++ B).map .int)], .nx) := by
  intro n
  induction n with
  | zero =>
    intro L A p hn _
    have hL := List.eq_nil_of_length_eq_zero hn
    subst hL
    have e1 : neS (.list []) (.list []) = .ok (.d (.bool false)) := neS_same (by simp)
    exact ⟨p, [], .nil, by
      rw [List.append_nil]
      exact sWhile_end (by simp [l1c__law_shuffled, e1])⟩
  | succ n ih =>
    intro L A p hn hs
    have hlen : (0 : Int) < (L.length : Int) := by omega
    have t1 := take_ok p (n := (L.length : Int)) hlen (by
      have h4000 : (1000 : Int) < 2 ^ 4000 := by decide +kernel
      omega)
    obtain ⟨a0, a1⟩ := tv_lt p (n := (L.length : Int)) hlen
    generalize tv p (L.length : Int) = v at *
    generalize nx p (L.length : Int) = q at *
    obtain ⟨j, rfl⟩ := Int.eq_ofNat_of_zero_le a0
    have hj : j < L.length := by omega
    obtain ⟨r, B, hp, e⟩ := ih (L.eraseIdx j) (A ++ [L[j]]) q (by rw [List.length_eraseIdx]; simp [hj]; omega) (by rw [List.length_eraseIdx, List.length_append]; simp [hj]; omega)
    have e1 : neS (.list (L.map .int)) (.list []) = .ok (.d (.bool true)) := by
      have := neS_fl (x := .list (L.map .int)) (y := .list []) (p := L = []) (by rw [fl_lst]; exact flAll_map fun e _ => by simp) (by simp) (by simp)
      have hne : L ≠ [] := fun h => by rw [h] at hn; cases hn
      simpa [hne] using this
    refine ⟨r, L[j] :: B, ?_, ?_⟩
    · exact (List.Perm.cons _ hp).trans (erase_perm hj)
    · have hk : f63 (j : Int) = true := okB_of ⟨by omega, by omega⟩
      have hi : ixN L.length (j : Int) = some j := by
        unfold ixN
        simp
        omega
      have hA : A.length < 16777216 := by omega
      rw [List.append_assoc] at e
      have e2 : (L.map PyData.int).eraseIdx j = (L.eraseIdx j).map .int := erase_map _ _ _
      have t1 : m__law_take [.own true (pl p), .d (.int (L.length : Int))] = .ok ([.own true (pl q), .d (.int (L.length : Int))], .d (.int (j : Int))) := t1
      refine sWhile_go (fl := .nx) (Γ1 := [.own true (pl p), s1, .own false (L.map .int), .own false (A.map .int)]) (Γ2 := [.own true (pl q), s1, .own false ((L.eraseIdx j).map .int), .own false ((A ++ [L[j]]).map .int)]) ?_ ?_ (.inl rfl) e (by simp)
      · simp [l1c__law_shuffled, e1]
      · simp [l1b__law_shuffled, t1, hi, hj, e2, hA, hk]
theorem shuffled_ok (L : List Int) (p : Pool) (h : L.length ≤ 1000) : ∃ (q : Pool) (B : List Int), B.Perm L ∧ m__law_shuffled [.own true (pl p), .d (.list (L.map .int))] = .ok ([.own true (pl q), .d (.list (L.map .int))], .f (B.map .int)) := by
  obtain ⟨q, B, hp, e⟩ := shuffled_loop (.d (.list (L.map .int))) L.length L [] p rfl (by simp; omega)
  refine ⟨q, B, hp, ?_⟩
  have hl : L.length ≤ 16777216 := by omega
  have hl2 : B.length ≤ 16777216 := by rw [hp.length_eq]; omega
  have e : l1__law_shuffled [.own true (pl p), .d (.list (L.map .int)), .own false (L.map .int), .own false []] = .ok ([.own true (pl q), .d (.list (L.map .int)), .own false [], .own false (B.map .int)], .nx) := e
  simp [m__law_shuffled, b__law_shuffled, e, hl]
end Qa
namespace Qa
open PySem PySem.Spec PyProof.Rows L2 Evl Mi Pg Pu
/-! ### effects on stacks; stacks that tell effects apart -/
theorem act_if {e : Ef} {S : List Int} : act e S = if tk e.1 e.2.1 S ≤ S.length then some (e.2.2 ++ S.drop (tk e.1 e.2.1 S).toNat) else none := rfl
def optI : Option Int → D
  | some i => .int i
  | none => .none
def remE (e : Ef) (S : List Int) : Option Int := if tk e.1 e.2.1 S ≤ S.length then some (tk e.1 e.2.1 S) else none
theorem removed_by_ok {e : Ef} {k : Nat} (he : Small k e) (hk : k ≤ 1000) {S : List Int} (hf : Few S) : m_removed_by [.d (effE e), .d (stk S)] = .ok ([.d (effE e), .d (stk S)], .d (optI (remE e S))) := by
  have c3 := taken_ok e.1 e.2.1 e.2.2 (T := S) (Nat.le_trans he.p (by omega)) hf
  have c4 := size_of_stk hf
  unfold remE
  by_cases h : tk e.1 e.2.1 S ≤ S.length
  · simp [m_removed_by, b_removed_by, c3, c4, h, optI]
  · simp [m_removed_by, b_removed_by, c3, c4, h, optI]
theorem removed_ok {e : Ef} {k : Nat} (he : Small k e) (hk : k ≤ 1000) {S : List Int} (hf : Few S) (hN : Never S) : m_removed [.d (effE e), .d (stk S)] = .ok ([.d (effE e), .d (stk S)], .d (optI (remE e S))) := by
  have c1 := check_small he hk
  have c2 := check_stack_stk hf hN
  have c3 := removed_by_ok he hk hf
  simp [m_removed, b_removed, c1, c2, c3]
theorem applied_ok {e : Ef} {k : Nat} (he : Small k e) (hk : k ≤ 1000) {S S' : List Int} (hf : Few S) (hN : Never S) (h : act e S = some S') : m_applied [.d (effE e), .d (stk S)] = .ok ([.d (effE e), .d (stk S)], .d (stk S')) := by
  have c1 := removed_ok he hk hf hN
  unfold act at h
  split at h
  · rename_i hl
    cases h
    have h0 : 0 ≤ tk e.1 e.2.1 S := Int.le_trans he.v.d0 (tk_ge _ _ _).1
    have c2 := popped_stk hf h0 hl
    have c3 := joined_runs_stk (T := S.drop (tk e.1 e.2.1 S).toNat) (U := e.2.2) (by unfold Few at hf ⊢; exact Nat.le_trans (runs_drop_len _ _) hf) (Nat.le_trans he.r hk)
    have c4 : remE e S = some (tk e.1 e.2.1 S) := if_pos hl
    rw [c4] at c1
    have i2 : ixG (effE e) (.int 2) = .ok (.d (stk e.2.2)) := by
      have : atI [rt e.1, .int e.2.1, stk e.2.2] 2 = some (stk e.2.2) := atI_nat (j := 2) rfl
      simp [eff, this]
    have c1 : m_removed [.d (effE e), .d (stk S)] = .ok ([.d (effE e), .d (stk S)], .d (.int (tk e.1 e.2.1 S))) := c1
    have i0 : ∀ i, isNonD (.int i) = false := fun _ => rfl
    generalize effE e = E at *
    simp [m_applied, b_applied, c1, c2, c3, i0, i2]
  · cases h
/-! ### a number above all -/
def thrs (e : Ef) : List Int := e.1.map (·.1)
def nums (e : Ef) : List Int := (runsT e.2.2).reverse.map (·.1)
theorem greater_ok {e f : Ef} {k : Nat} (he : Small k e) (hf : Small k f) (hk : k ≤ 1000) : ∃ G : Int, m_greater_than_all [.d (effE e), .d (effE f)] = .ok ([.d (effE e), .d (effE f)], .d (.int G)) ∧ 1 ≤ G ∧ (∀ p ∈ e.1 ++ f.1, p.1 < G) ∧ ∀ x ∈ e.2.2 ++ f.2.2, x < G := by
  have c1 : ∀ (g : Ef), Small k g → ∀ (A : List D) (u : Sl), l2_greater_than_all [.d (effE e), .d (effE f), .own false A, .d (rt g.1), u, .d (stk g.2.2), .un, .un] = .ok ([.d (effE e), .d (effE f), .own false A, .d (rt g.1), u, .d (stk g.2.2), .un, .un], .f ((thrs g).map .int)) := fun g hg A u => by
    have := sLc_map (it := sIt iterA (sName 3)) (g := gN 6) (te := sPub (sBin ixG (sName 6) (sC (.int 0)))) (vs := [6]) tw (fun p => .int p.1) (Γ := [.d (effE e), .d (effE f), .own false A, .d (rt g.1), u, .d (stk g.2.2), .un, .un]) (xs := g.1) (by simp [rt]) rfl (fun p _ => ⟨[.d (effE e), .d (effE f), .own false A, .d (rt g.1), u, .d (stk g.2.2), .d (tw p), .un], rfl, by simp [tw], rfl⟩) (Nat.le_trans hg.p (by omega))
    rw [thrs, List.map_map]
    exact this
  have c2 : ∀ (g : Ef), Small k g → ∀ (A : List D) (u : Sl), l1_greater_than_all [.d (effE e), .d (effE f), .own false A, .d (rt g.1), u, .d (stk g.2.2), .un, .un] = .ok ([.d (effE e), .d (effE f), .own false A, .d (rt g.1), u, .d (stk g.2.2), .un, .un], .f ((nums g).map .int)) := fun g hg A u => by
    have := sLc_map (it := sIt iterA (sName 5)) (g := gN 7) (te := sPub (sBin ixG (sName 7) (sC (.int 0)))) (vs := [7]) tw (fun p => .int p.1) (Γ := [.d (effE e), .d (effE f), .own false A, .d (rt g.1), u, .d (stk g.2.2), .un, .un]) (xs := (runsT g.2.2).reverse) (by simp [stk, rt]) rfl (fun p _ => ⟨[.d (effE e), .d (effE f), .own false A, .d (rt g.1), u, .d (stk g.2.2), .un, .d (tw p)], rfl, by simp [tw], rfl⟩) (by rw [List.length_reverse]; exact Nat.le_trans hg.r (by omega))
    rw [nums, List.map_map]
    exact this
  have hn : ∀ g : Ef, Small k g → (thrs g).length ≤ 1000 ∧ (nums g).length ≤ 1000 := fun g hg => by
    have := hg.p
    have := hg.r
    refine ⟨?_, ?_⟩
    · rw [thrs, List.length_map]; omega
    · rw [nums, List.length_map, List.length_reverse]; omega
  obtain ⟨h1, h2⟩ := hn e he
  obtain ⟨h3, h4⟩ := hn f hf
  have turn : ∀ (g : Ef), Small k g → ∀ (A : List Int) (u3 u4 u5 : Sl), A.length ≤ 5000 → gTup' (gCons' (gN 3) (gCons' (gN 4) (gCons' (gN 5) gNil'))) 3 (effE g) [.d (effE e), .d (effE f), .own false (A.map .int), u3, u4, u5, .un, .un] = some [.d (effE e), .d (effE f), .own false (A.map .int), .d (rt g.1), .d (.int g.2.1), .d (stk g.2.2), .un, .un] ∧
      l3b_greater_than_all [.d (effE e), .d (effE f), .own false (A.map .int), .d (rt g.1), .d (.int g.2.1), .d (stk g.2.2), .un, .un] = .ok ([.d (effE e), .d (effE f), .own false ((A ++ thrs g ++ nums g).map .int), .d (rt g.1), .d (.int g.2.1), .d (stk g.2.2), .un, .un], .nx) := fun g hg A u3 u4 u5 hA => by
    obtain ⟨a1, a2⟩ := hn g hg
    have l1 : (thrs g).length + (nums g).length ≤ 16777216 := by omega
    have l2 : A.length + ((thrs g).length + (nums g).length) ≤ 16777216 := by omega
    refine ⟨by simp [eff], ?_⟩
    simp [l3b_greater_than_all, c1 g hg, c2 g hg, l1, l2]
  obtain ⟨t1, t2⟩ := turn e he [0] .un .un .un (by simp)
  obtain ⟨t3, t4⟩ := turn f hf ([0] ++ thrs e ++ nums e) (.d (rt e.1)) (.d (.int e.2.1)) (.d (stk e.2.2)) (by simp; omega)
  have hl : l3_greater_than_all [.d (effE e), .d (effE f), .own false ([0].map .int), .un, .un, .un, .un, .un] = .ok ([.d (effE e), .d (effE f), .own false (([0] ++ thrs e ++ nums e ++ thrs f ++ nums f).map .int), .d (rt f.1), .d (.int f.2.1), .d (stk f.2.2), .un, .un], .nx) := by
    unfold l3_greater_than_all sFor
    have it : sIt iterA (sPub (sTup (sCons (sName 0) (sCons (sName 1) sNil)))) [.d (effE e), .d (effE f), .own false ([0].map .int), .un, .un, .un, .un, .un] = .ok ([.d (effE e), .d (effE f), .own false ([0].map .int), .un, .un, .un, .un, .un], [effE e, effE f]) := by simp
    rw [it]
    simp only [bind_ok]
    rw [forL_nx t1 t2, forL_nx t3 t4]
    rfl
  have hm : maxG (.list (([0] ++ thrs e ++ nums e ++ thrs f ++ nums f).map .int)) = .ok (.d (.int (maxL 0 (thrs e ++ nums e ++ thrs f ++ nums f)))) := by
    have : intsOf (([0] ++ thrs e ++ nums e ++ thrs f ++ nums f).map PyData.int) = some ([0] ++ thrs e ++ nums e ++ thrs f ++ nums f) := by
      have := intsOf_map (fun i : Int => i) ([0] ++ thrs e ++ nums e ++ thrs f ++ nums f)
      rw [List.map_id'] at this
      exact this
    simp only [maxG, this]
    simp
  have hge := maxL_ge (thrs e ++ nums e ++ thrs f ++ nums f) 0
  generalize maxL 0 (thrs e ++ nums e ++ thrs f ++ nums f) = m at *
  refine ⟨m + 1, ?_, by omega, ?_, ?_⟩
  · generalize hL : ([0] ++ thrs e ++ nums e ++ thrs f ++ nums f).map PyData.int = L at *
    have hl : l3_greater_than_all [.d (effE e), .d (effE f), .own false [.int 0], .un, .un, .un, .un, .un] = .ok ([.d (effE e), .d (effE f), .own false L, .d (rt f.1), .d (.int f.2.1), .d (stk f.2.2), .un, .un], .nx) := hl
    simp [m_greater_than_all, b_greater_than_all, hl, hm]
  · intro p hp
    have : p.1 ∈ thrs e ++ nums e ++ thrs f ++ nums f := by
      rcases List.mem_append.mp hp with h | h
      · simp [thrs]; exact .inl ⟨_, h⟩
      · simp [thrs]; exact .inr (.inr (.inl ⟨_, h⟩))
    have := hge.2 _ this
    omega
  · intro x hx
    have key : ∀ {T : List Int} {x : Int}, x ∈ T → x ∈ (runsT T).reverse.map (·.1) := fun {T x} hx => by
      rw [← flat_runs T] at hx
      have : ∀ {R : List PP}, x ∈ flatT R → ∃ p ∈ R, p.1 = x := fun {R} h => by
        induction R with
        | nil => exact absurd h List.not_mem_nil
        | cons q R ih =>
          obtain ⟨n, c⟩ := q
          rcases List.mem_append.mp h with h1 | h1
          · exact ⟨(n, c), List.mem_cons_self, (List.eq_of_mem_replicate h1).symm⟩
          · obtain ⟨p, hp, e⟩ := ih h1
            exact ⟨p, List.mem_cons_of_mem _ hp, e⟩
      obtain ⟨p, hp, e⟩ := this hx
      exact List.mem_map.mpr ⟨p, List.mem_reverse.mpr hp, e⟩
    have : x ∈ thrs e ++ nums e ++ thrs f ++ nums f := by
      rcases List.mem_append.mp hx with h | h
      · exact List.mem_append_left _ (List.mem_append_left _ (List.mem_append_right _ (key h)))
      · exact List.mem_append_right _ (key h)
    have := hge.2 _ this
    omega
end Qa
namespace Qa
open PySem PySem.Spec PyProof.Rows L2 Evl Mi Pg Pu
theorem leI_le (a b : Int) : leI a b = decide (a ≤ b) := by
  simp only [leI, PySem.W.dataLe, PySem.W.sortLe, cond_false, id]
  simp [PySem.W.keyToks, PyProof.Rows.lexLt, itemLt]
  by_cases h : a ≤ b
  · have : ¬ b < a := by omega
    simp [h, this]
  · have : b < a := by omega
    simp [h, this]
theorem sort2 (a b : Int) : [a, b].mergeSort leI = [min a b, max a b] := by
  have hp := List.mergeSort_perm [a, b] leI
  have hs := List.pairwise_mergeSort (le := leI) (fun x y z h1 h2 => by simp only [leI_le, decide_eq_true_eq] at *; omega) (fun x y => by simp only [leI_le, Bool.or_eq_true, decide_eq_true_eq]; omega) [a, b]
  have hl : ([a, b].mergeSort leI).length = 2 := by rw [List.length_mergeSort]; rfl
  obtain ⟨x, y, hxy⟩ : ∃ x y, [a, b].mergeSort leI = [x, y] := by
    match [a, b].mergeSort leI, hl with
    | [x, y], _ => exact ⟨x, y, rfl⟩
  rw [hxy] at hp hs ⊢
  have h1 : x ≤ y := by simpa [leI_le] using hs
  have m1 : x ∈ [a, b] := hp.mem_iff.mp (by simp)
  have m2 : y ∈ [a, b] := hp.mem_iff.mp (by simp)
  have m3 : a ∈ [x, y] := hp.mem_iff.mpr (by simp)
  have m4 : b ∈ [x, y] := hp.mem_iff.mpr (by simp)
  simp at m1 m2 m3 m4
  congr 1
  · omega
  · congr 1; omega
theorem ix_eff0 {e : Ef} : ixG (effE e) (.int 0) = .ok (.d (rt e.1)) := by simp [eff]
theorem ix_eff1 {e : Ef} : ixG (effE e) (.int 1) = .ok (.d (.int e.2.1)) := by
  have : atI [rt e.1, .int e.2.1, stk e.2.2] 1 = some (.int e.2.1) := atI_nat (j := 1) rfl
  simp [eff, this]
theorem ix_eff2 {e : Ef} : ixG (effE e) (.int 2) = .ok (.d (stk e.2.2)) := by
  have : atI [rt e.1, .int e.2.1, stk e.2.2] 2 = some (stk e.2.2) := atI_nat (j := 2) rfl
  simp [eff, this]
/-! ### how much is reached above a threshold -/
def abv (e : Ef) (t : Int) : List Int := (e.1.filter fun p => decide (t ≤ p.1)).map (·.2)
def rc (e : Ef) (t : Int) : Int := maxL (-1) (abv e t)
theorem mem_abv {e : Ef} {t x : Int} : x ∈ abv e t ↔ ∃ p ∈ e.1, t ≤ p.1 ∧ p.2 = x := by
  unfold abv
  rw [List.mem_map]
  constructor
  · rintro ⟨p, hp, h⟩
    obtain ⟨h1, h2⟩ := List.mem_filter.mp hp
    exact ⟨p, h1, by simpa using h2, h⟩
  · rintro ⟨p, hp, h1, h2⟩
    exact ⟨p, List.mem_filter.mpr ⟨hp, by simpa using h1⟩, h2⟩
theorem rc_ge (e : Ef) (t : Int) : -1 ≤ rc e t ∧ ∀ p ∈ e.1, t ≤ p.1 → p.2 ≤ rc e t := by
  have h := maxL_ge (abv e t) (-1)
  exact ⟨h.1, fun p hp ht => h.2 _ (mem_abv.mpr ⟨p, hp, ht, rfl⟩)⟩
theorem rc_mem (e : Ef) (t : Int) : rc e t = -1 ∨ ∃ p ∈ e.1, t ≤ p.1 ∧ rc e t = p.2 := by
  rcases maxL_mem (abv e t) (-1) with h | h
  · exact .inl h
  · obtain ⟨p, hp, h1, h2⟩ := mem_abv.mp h
    exact .inr ⟨p, hp, h1, h2.symm⟩
theorem rc_le {e : Ef} (he : Valid e) (t : Int) : rc e t ≤ e.2.1 := by
  rcases rc_mem e t with h | ⟨p, hp, -, h⟩
  · have := he.d0; omega
  · have := he.le p hp; omega
theorem maxDf_rc {e : Ef} (he : Valid e) (t : Int) : maxDf (-1) (abv e t) = rc e t := by
  unfold rc
  have h : ∀ x ∈ abv e t, 0 ≤ x := fun x hx => by
    obtain ⟨p, hp, -, rfl⟩ := mem_abv.mp hx
    exact he.nn p hp
  cases hl : abv e t with
  | nil => rfl
  | cons x r =>
    rw [hl] at h
    have := h x List.mem_cons_self
    show maxL x r = maxL (if -1 < x then x else -1) r
    rw [if_pos (by omega)]
theorem reach_ok {e : Ef} {k : Nat} (he : Small k e) (hk : k ≤ 1000) (t : Int) : m_reach [.d (effE e), .d (.int t)] = .ok ([.d (effE e), .d (.int t)], .d (.int (rc e t))) := by
  have i0 := ix_eff0 (e := e)
  have h1 : l1_reach [.d (effE e), .d (.int t), .un, .un] = .ok ([.d (effE e), .d (.int t), .un, .un], .f ((abv e t).map .int)) := by
    have := sLc_filt (it := sIt iterA (sPub (sBin ixG (sName 0) (sC (.int 0))))) (g := gTup' (gCons' (gN 2) (gCons' (gN 3) gNil')) 2) (tt := sTst (sBin geG (sName 2) (sName 1))) (te := sName 3) (vs := [2, 3]) tw (fun p => .int p.2) (fun p => decide (t ≤ p.1)) (Γ := [.d (effE e), .d (.int t), .un, .un]) (xs := e.1) (by simp [i0, rt]) rfl (fun p _ => ⟨[.d (effE e), .d (.int t), .d (.int p.1), .d (.int p.2)], by simp [tw], by simp, rfl, rfl⟩) (Nat.le_trans he.p (by omega))
    rw [abv, List.map_map]
    exact this
  have h2 : maxDG (.list ((abv e t).map .int)) (.int (-1)) = .ok (.d (.int (rc e t))) := by
    have := intsOf_map (fun i : Int => i) (abv e t)
    rw [List.map_id'] at this
    have : intsOf ((abv e t).map PyData.int) = some (abv e t) := this
    simp only [maxDG, this, maxDf_rc he.v]
  have hl : (abv e t).length ≤ 16777216 := by
    unfold abv
    rw [List.length_map]
    exact Nat.le_trans (List.length_filter_le _ _) (Nat.le_trans he.p (by omega))
  simp [m_reach, b_reach, h1, h2, hl]
theorem runs_of_ok (L : List PP) (hl : L.length ≤ 1000) : m_runs_of_k07 [.d (.tuple (L.map tw))] = .ok ([.d (.tuple (L.map tw))], .d (rt (L.filter fun p => decide (0 < p.2)))) := by
  have h1 : l1_runs_of_k07 [.d (.tuple (L.map tw)), .un] = .ok ([.d (.tuple (L.map tw)), .un], .f ((L.filter fun p => decide (0 < p.2)).map tw)) :=
    sLc_filt (it := sIt iterA (sName 0)) (g := gN 1) (tt := sTst (sBin gtG (sPub (sBin ixG (sName 1) (sC (.int 1)))) (sC (.int 0)))) (te := sName 1) (vs := [1]) tw tw (fun p => decide (0 < p.2)) (Γ := [.d (.tuple (L.map tw)), .un]) (xs := L) (by simp) rfl (fun p _ => ⟨[.d (.tuple (L.map tw)), .d (tw p)], rfl, by
      have : atI [PyData.int p.1, .int p.2] 1 = some (.int p.2) := atI_nat (j := 1) rfl
      simp [tw, this], rfl, rfl⟩) (by omega)
  have hl2 : (L.filter fun p => decide (0 < p.2)).length ≤ 16777216 := Nat.le_trans (List.length_filter_le _ _) (by omega)
  simp [m_runs_of_k07, b_runs_of_k07, h1, hl2, rt]
/-! ### stacks of two numbers -/
def two2 (a b : Int) (m n : Nat) : List Int := List.replicate m a ++ List.replicate n b
theorem rep_never (n : Nat) (x : Int) : Never (List.replicate n x) := List.pairwise_replicate.mpr (.inr (Int.le_refl _))
theorem two2_never {a b : Int} (h : a ≤ b) (m n : Nat) : Never (two2 a b m n) := never_app (rep_never _ _) (rep_never _ _) fun x hx y hy => by
  rw [List.eq_of_mem_replicate hx, List.eq_of_mem_replicate hy]
  exact h
theorem rep_runs (n : Nat) (x : Int) : (runsT (List.replicate n x)).length ≤ 1 := by
  cases n with
  | zero => exact Nat.zero_le _
  | succ n => rw [runs_one x (n + 1) (Nat.succ_pos n)]; exact Nat.le_refl _
theorem two2_few (a b : Int) (m n : Nat) : Few (two2 a b m n) := by
  have := runs_app_len (List.replicate m a) (List.replicate n b)
  have := rep_runs m a
  have := rep_runs n b
  unfold Few two2
  omega
theorem stk_two {a b : Int} (h : a ≠ b) (m n : Nat) : stk (two2 a b m n) = rt ([(b, (n : Int)), (a, (m : Int))].filter fun p => decide (0 < p.2)) := by
  unfold stk two2
  cases m with
  | zero =>
    cases n with
    | zero => rfl
    | succ n =>
      rw [List.replicate_zero, List.nil_append, runs_one b (n + 1) (Nat.succ_pos n)]
      have : (0 : Int) < ((n + 1 : Nat) : Int) := by omega
      simp
  | succ m =>
    cases n with
    | zero =>
      rw [List.replicate_zero, List.append_nil, runs_one a (m + 1) (Nat.succ_pos m)]
      simp
    | succ n =>
      rw [runs_rep a (m + 1) _ (Nat.succ_pos m) (by
        rw [runs_one b (n + 1) (Nat.succ_pos n)]
        intro c r hh
        cases hh
        exact h rfl), runs_one b (n + 1) (Nat.succ_pos n)]
      have h1 : (0 : Int) < ((n + 1 : Nat) : Int) := by omega
      have h2 : (0 : Int) < ((m + 1 : Nat) : Int) := by omega
      generalize ((n + 1 : Nat) : Int) = x at *
      generalize ((m + 1 : Nat) : Int) = y at *
      simp [h1, h2]
theorem cb_two (a b q : Int) (m n : Nat) : cb (two2 a b m n) q = (if a < q then (m : Int) else 0) + (if b < q then (n : Int) else 0) := by
  unfold two2
  rw [cb_app, cb_rep, cb_rep]
theorem tk_two {e : Ef} (he : Valid e) {G t : Int} (hG : ∀ p ∈ e.1, p.1 < G) (m n : Nat) (hm : (m : Int) ≤ e.2.1 + 1) : tk e.1 e.2.1 (two2 (t - 1) G m n) = max e.2.1 (m + rc e t) := by
  have hr := rc_ge e t
  apply tk_eq
  · omega
  · intro p hp
    have h1 := hG p hp
    have h2 := he.le p hp
    rw [cb_two, if_neg (show ¬ G < p.1 by omega)]
    by_cases h : t ≤ p.1
    · have := hr.2 p hp h
      rw [if_pos (by omega)]
      omega
    · rw [if_neg (by omega)]
      omega
  · rcases rc_mem e t with h | ⟨p, hp, h1, h2⟩
    · left; omega
    · by_cases q : (m : Int) + rc e t ≤ e.2.1
      · left; omega
      · right
        refine ⟨p, hp, ?_⟩
        have := hG p hp
        rw [cb_two, if_neg (show ¬ G < p.1 by omega), if_pos (by omega)]
        omega
theorem two2_len (a b : Int) (m n : Nat) : ((two2 a b m n).length : Int) = m + n := by
  unfold two2
  rw [List.length_append, List.length_replicate, List.length_replicate]
  omega
def dfE (e f : Ef) (t : Int) : Prop := rc e t ≠ rc f t
def cdE (e f : Ef) (t : Int) : Prop := rc e t ≠ rc f t ∧ 0 < max (rc e t) (rc f t)
def manyE (e f : Ef) (t : Int) : Int := min e.2.1 (e.2.1 - min (rc e t) (rc f t))
def sepB (G : Int) (e f : Ef) (t : Int) : List Int := two2 (t - 1) G (manyE e f t).toNat (e.2.1 - manyE e f t).toNat
theorem many_b {e f : Ef} (he : Valid e) (t : Int) : 0 ≤ manyE e f t ∧ manyE e f t ≤ e.2.1 := by
  unfold manyE
  have := rc_le he t
  have := he.d0
  omega
theorem sepB_len {G : Int} {e f : Ef} (he : Valid e) (t : Int) : ((sepB G e f t).length : Int) = e.2.1 := by
  have := many_b (f := f) he t
  unfold sepB
  rw [two2_len]
  omega
theorem sepB_differs {e f : Ef} (he : Valid e) (hf : Valid f) (hd : e.2.1 = f.2.1) {G t : Int} (h1 : ∀ p ∈ e.1, p.1 < G) (h2 : ∀ p ∈ f.1, p.1 < G) (hc : cdE e f t) : act e (sepB G e f t) ≠ act f (sepB G e f t) := by
  have hb := many_b (f := f) he t
  have hl := sepB_len (G := G) (f := f) he t
  have k1 := tk_two he h1 (t := t) (manyE e f t).toNat (e.2.1 - manyE e f t).toNat (by omega)
  have k2 := tk_two hf h2 (t := t) (manyE e f t).toNat (e.2.1 - manyE e f t).toNat (by omega)
  have g1 := (rc_ge e t).1
  have g2 := (rc_ge f t).1
  obtain ⟨c1, c2⟩ := hc
  have hm : manyE e f t = min e.2.1 (e.2.1 - min (rc e t) (rc f t)) := rfl
  have k1 : tk e.1 e.2.1 (sepB G e f t) = _ := k1
  have k2 : tk f.1 f.2.1 (sepB G e f t) = _ := k2
  unfold act
  generalize sepB G e f t = S at *
  generalize manyE e f t = M at *
  generalize tk e.1 e.2.1 S = x at *
  generalize tk f.1 f.2.1 S = y at *
  have d0 := he.d0
  by_cases q : rc e t < rc f t
  · rw [if_pos (by omega), if_neg (by omega)]
    simp
  · rw [if_neg (by omega), if_pos (by omega)]
    simp
theorem sepC_differs {e f : Ef} (he : Valid e) (hf : Valid f) (hd : e.2.1 = f.2.1) (hn : e.2.2 = f.2.2) {G t : Int} (h1 : ∀ p ∈ e.1, p.1 < G) (h2 : ∀ p ∈ f.1, p.1 < G) (hc : dfE e f t) (hc2 : ¬ cdE e f t) : act e (two2 (t - 1) G (e.2.1 + 1).toNat 0) ≠ act f (two2 (t - 1) G (e.2.1 + 1).toNat 0) := by
  have d0 := he.d0
  have k1 := tk_two he h1 (t := t) (e.2.1 + 1).toNat 0 (by omega)
  have k2 := tk_two hf h2 (t := t) (e.2.1 + 1).toNat 0 (by omega)
  have hl := two2_len (t - 1) G (e.2.1 + 1).toNat 0
  have g1 := (rc_ge e t).1
  have g2 := (rc_ge f t).1
  have c2 : ¬ 0 < max (rc e t) (rc f t) := fun h => hc2 ⟨hc, h⟩
  unfold dfE at hc
  unfold act
  generalize two2 (t - 1) G (e.2.1 + 1).toNat 0 = S at *
  generalize tk e.1 e.2.1 S = x at *
  generalize tk f.1 f.2.1 S = y at *
  rw [if_pos (by omega), if_pos (by omega), hn]
  intro h
  have h := congrArg List.length (Option.some.inj h)
  rw [List.length_append, List.length_append, List.length_drop, List.length_drop] at h
  omega
/-- different pairs reach differently somewhere -/
theorem pairs_df {e f : Ef} (he : Valid e) (hf : Valid f) (h : e.1 ≠ f.1) : ∃ p ∈ e.1 ++ f.1, dfE e f p.1 := by
  apply Classical.byContradiction
  intro hno
  have heq : ∀ p ∈ e.1 ++ f.1, rc e p.1 = rc f p.1 := fun p hp => Classical.byContradiction fun q => hno ⟨p, hp, q⟩
  have own : ∀ {g : Ef}, Valid g → ∀ p ∈ g.1, rc g p.1 = p.2 := fun {g} hg p hp => by
    have a := (rc_ge g p.1).2 p hp (Int.le_refl _)
    rcases rc_mem g p.1 with b | ⟨q, hq, b1, b2⟩
    · have := hg.nn p hp; omega
    · have := chain_eq hg.chain hp hq ⟨b1, by omega⟩
      rw [b2, ← this]
  have half : ∀ {g k : Ef}, Valid g → Valid k → (∀ p ∈ g.1 ++ k.1, rc g p.1 = rc k p.1) → ∀ p ∈ g.1, p ∈ k.1 := fun {g k} hg hk hh p hp => by
    have a := own hg p hp
    have b := hh p (List.mem_append_left _ hp)
    rcases rc_mem k p.1 with c | ⟨q, hq, c1, c2⟩
    · have := hg.nn p hp; omega
    · have d := own hk q hq
      have d2 := hh q (List.mem_append_right _ hq)
      rcases rc_mem g q.1 with c3 | ⟨r, hr, c3, c4⟩
      · have := hk.nn q hq; omega
      · have hpr := chain_eq hg.chain hp hr ⟨by omega, by omega⟩
        rw [← hpr] at c3
        have : p = q := Prod.ext (by omega) (by omega)
        rw [this]; exact hq
  refine h (sorted_ext (he.chain.imp fun h => h.1) (hf.chain.imp fun h => h.1) fun p => ⟨half he hf heq p, half hf he (fun q hq => (heq q ?_).symm) p⟩)
  rcases List.mem_append.mp hq with a | a
  · exact List.mem_append_right _ a
  · exact List.mem_append_left _ a
theorem forL_rt {g : D → Ga → Option Ga} {b : Ga → Res (Ga × Fl)} {x : D} {xs : List D} {Γ Γ1 Γ2 : Ga} {r : R} (h1 : g x Γ = some Γ1) (h2 : b Γ1 = .ok (Γ2, .rt r)) : forL g b (x :: xs) Γ = .ok (Γ2, .rt r) := by
  rw [forL]
  simp only [h1, h2, bind_ok]
theorem by_turn {e f : Ef} {k : Nat} (he : Small k e) (hf : Small k f) (hk : k ≤ 1000) {G : Int} {t : Int} (htG : t < G) (l : D) (u6 u7 u8 : Sl) :
    (cdE e f t → ∃ v6 v7 v8, l2b_by_pairs [.d (effE e), .d (effE f), .d (.int G), .d (.int e.2.1), .d l, .d (.int t), u6, u7, u8, .un] = .ok ([.d (effE e), .d (effE f), .d (.int G), .d (.int e.2.1), .d l, .d (.int t), v6, v7, v8, .un], .rt (.d (stk (sepB G e f t))))) ∧
    (¬ cdE e f t → ∃ v6 v7, l2b_by_pairs [.d (effE e), .d (effE f), .d (.int G), .d (.int e.2.1), .d l, .d (.int t), u6, u7, u8, .un] = .ok ([.d (effE e), .d (effE f), .d (.int G), .d (.int e.2.1), .d (@ite _ (dfE e f t) (Classical.propDecidable _) (.int t) l), .d (.int t), v6, v7, u8, .un], .nx)) := by
  have c1 := reach_ok he hk t
  have c2 := reach_ok hf hk t
  have so := sort_ints [rc e t, rc f t] (by simp)
  rw [sort2] at so
  simp only [List.map_cons, List.map_nil] at so
  have hb := many_b (f := f) he.v t
  have hm : manyE e f t = min e.2.1 (e.2.1 - min (rc e t) (rc f t)) := rfl
  have ro := runs_of_ok [(G, e.2.1 - manyE e f t), (t - 1, manyE e f t)] (by simp)
  have st := stk_two (a := t - 1) (b := G) (by omega) (manyE e f t).toNat (e.2.1 - manyE e f t).toNat
  rw [Int.toNat_of_nonneg hb.1, Int.toNat_of_nonneg (by omega)] at st
  rw [← st] at ro
  have ro : m_runs_of_k07 [.d (.tuple [.tuple [.int G, .int (e.2.1 - manyE e f t)], .tuple [.int (t - 1), .int (manyE e f t)]])] = .ok ([.d (.tuple [.tuple [.int G, .int (e.2.1 - manyE e f t)], .tuple [.int (t - 1), .int (manyE e f t)]])], .d (stk (sepB G e f t))) := ro
  have hcd : cdE e f t ↔ rc e t ≠ rc f t ∧ 0 < max (rc e t) (rc f t) := Iff.rfl
  have hdf : dfE e f t ↔ rc e t ≠ rc f t := Iff.rfl
  rw [hm] at ro
  generalize stk (sepB G e f t) = S at *
  generalize effE e = E at *
  generalize effE f = F at *
  have hmm : min (rc e t) (rc f t) = max (rc e t) (rc f t) ↔ rc e t = rc f t := by omega
  constructor
  · intro hc
    obtain ⟨q1, q2⟩ := hcd.mp hc
    have q1 : ¬ min (rc e t) (rc f t) = max (rc e t) (rc f t) := fun h => q1 (hmm.mp h)
    generalize min (rc e t) (rc f t) = lo at *
    generalize max (rc e t) (rc f t) = hi at *
    exact ⟨_, _, _, by simp [l2b_by_pairs, c1, c2, so, q1, q2, ro]; exact ⟨rfl, rfl, rfl⟩⟩
  · intro hc
    by_cases q : rc e t = rc f t
    · have q3 := hmm.mpr q
      have q4 : ¬ dfE e f t := fun h => hdf.mp h q
      rw [if_neg q4]
      generalize min (rc e t) (rc f t) = lo at *
      generalize max (rc e t) (rc f t) = hi at *
      exact ⟨_, _, by simp [l2b_by_pairs, c1, c2, so, q3]; exact ⟨rfl, rfl⟩⟩
    · have q1 : ¬ min (rc e t) (rc f t) = max (rc e t) (rc f t) := fun h => q (hmm.mp h)
      have q2 : ¬ 0 < max (rc e t) (rc f t) := fun h => hc (hcd.mpr ⟨q, h⟩)
      rw [if_pos (hdf.mpr q)]
      generalize min (rc e t) (rc f t) = lo at *
      generalize max (rc e t) (rc f t) = hi at *
      exact ⟨_, _, by simp [l2b_by_pairs, c1, c2, so, q1, q2]; exact ⟨rfl, rfl⟩⟩
end Qa
namespace Qa
open PySem PySem.Spec PyProof.Rows L2 Evl Mi Pg Pu
theorem by_loop {e f : Ef} {k : Nat} (he : Small k e) (hf : Small k f) (hk : k ≤ 1000) {G : Int} : ∀ (ts : List Int) (l : D) (u5 u6 u7 u8 : Sl), (∀ t ∈ ts, t < G) → ∃ l' v5 v6 v7 v8 fl, forL (gN 5) l2b_by_pairs (ts.map .int) [.d (effE e), .d (effE f), .d (.int G), .d (.int e.2.1), .d l, u5, u6, u7, u8, .un] = .ok ([.d (effE e), .d (effE f), .d (.int G), .d (.int e.2.1), .d l', v5, v6, v7, v8, .un], fl) ∧
    ((∃ t ∈ ts, cdE e f t ∧ fl = .rt (.d (stk (sepB G e f t)))) ∨ ((∀ t ∈ ts, ¬ cdE e f t) ∧ fl = .nx ∧ ((l' = l ∧ ∀ t ∈ ts, ¬ dfE e f t) ∨ ∃ t ∈ ts, dfE e f t ∧ l' = .int t))) := by
  intro ts
  induction ts with
  | nil =>
    intro l u5 u6 u7 u8 _
    exact ⟨l, u5, u6, u7, u8, .nx, rfl, .inr ⟨fun t ht => absurd ht List.not_mem_nil, rfl, .inl ⟨rfl, fun t ht => absurd ht List.not_mem_nil⟩⟩⟩
  | cons t ts ih =>
    intro l u5 u6 u7 u8 hG
    obtain ⟨y, n⟩ := by_turn he hf hk (G := G) (hG t List.mem_cons_self) l u6 u7 u8
    rw [List.map_cons]
    by_cases hc : cdE e f t
    · obtain ⟨v6, v7, v8, e1⟩ := y hc
      exact ⟨l, .d (.int t), v6, v7, v8, _, forL_rt rfl e1, .inl ⟨t, List.mem_cons_self, hc, rfl⟩⟩
    · obtain ⟨v6, v7, e1⟩ := n hc
      obtain ⟨l', w5, w6, w7, w8, fl, e2, h⟩ := ih (@ite _ (dfE e f t) (Classical.propDecidable _) (.int t) l) (.d (.int t)) v6 v7 u8 fun s hs => hG s (List.mem_cons_of_mem _ hs)
      refine ⟨l', w5, w6, w7, w8, fl, by rw [forL_nx (Γ1 := [.d (effE e), .d (effE f), .d (.int G), .d (.int e.2.1), .d l, .d (.int t), u6, u7, u8, .un]) rfl e1]; exact e2, ?_⟩
      rcases h with ⟨s, hs, h1, h2⟩ | ⟨h1, h2, h3⟩
      · exact .inl ⟨s, List.mem_cons_of_mem _ hs, h1, h2⟩
      · refine .inr ⟨fun s hs => ?_, h2, ?_⟩
        · rcases List.mem_cons.mp hs with rfl | hs
          · exact hc
          · exact h1 s hs
        · rcases h3 with ⟨a, b⟩ | ⟨s, hs, a, b⟩
          · by_cases hd : dfE e f t
            · rw [if_pos hd] at a
              exact .inr ⟨t, List.mem_cons_self, hd, a⟩
            · rw [if_neg hd] at a
              refine .inl ⟨a, fun s hs => ?_⟩
              rcases List.mem_cons.mp hs with rfl | hs
              · exact hd
              · exact b s hs
          · exact .inr ⟨s, List.mem_cons_of_mem _ hs, a, b⟩
/-- the stack that tells effects with like drops and like new numbers apart -/
inductive SepBy (G : Int) (e f : Ef) : List Int → Prop
  | b {p : PP} : p ∈ e.1 ++ f.1 → cdE e f p.1 → SepBy G e f (sepB G e f p.1)
  | c {p : PP} : (∀ q ∈ e.1 ++ f.1, ¬ cdE e f q.1) → p ∈ e.1 ++ f.1 → dfE e f p.1 → SepBy G e f (two2 (p.1 - 1) G (e.2.1 + 1).toNat 0)
theorem by_pairs_ok {e f : Ef} {k : Nat} (he : Small k e) (hf : Small k f) (hk : k ≤ 1000) {G : Int} (hG : ∀ p ∈ e.1 ++ f.1, p.1 < G) (hne : e.1 ≠ f.1) : ∃ S, SepBy G e f S ∧ m_by_pairs [.d (effE e), .d (effE f), .d (.int G)] = .ok ([.d (effE e), .d (effE f), .d (.int G)], .d (stk S)) := by
  have i0e := ix_eff0 (e := e)
  have i0f := ix_eff0 (e := f)
  have i1 := ix_eff1 (e := e)
  have hl : (e.1 ++ f.1).length ≤ 2000 := by rw [List.length_append]; have := he.p; have := hf.p; omega
  have ha : addG (rt e.1) (rt f.1) = .ok (.d (rt (e.1 ++ f.1))) := by
    have h0 : e.1.length + f.1.length ≤ 16777216 := by rw [List.length_append] at hl; omega
    simp [rt, h0]
  have l1 : l1_by_pairs [.d (effE e), .d (effE f), .d (.int G), .d (.int e.2.1), .d .none, .un, .un, .un, .un, .un] = .ok ([.d (effE e), .d (effE f), .d (.int G), .d (.int e.2.1), .d .none, .un, .un, .un, .un, .un], .f (((e.1 ++ f.1).map (·.1)).map .int)) := by
    have := sLc_map (it := sIt iterA (sPub (sBin addG (sPub (sBin ixG (sName 0) (sC (.int 0)))) (sPub (sBin ixG (sName 1) (sC (.int 0))))))) (g := gN 9) (te := sPub (sBin ixG (sName 9) (sC (.int 0)))) (vs := [9]) tw (fun p => .int p.1) (Γ := [.d (effE e), .d (effE f), .d (.int G), .d (.int e.2.1), .d .none, .un, .un, .un, .un, .un]) (xs := e.1 ++ f.1)
      (by
        have : iterA (rt (e.1 ++ f.1)) = .ok ((e.1 ++ f.1).map tw) := by simp [rt]
        simp [i0e, i0f, ha, this]) rfl (fun p _ => ⟨[.d (effE e), .d (effE f), .d (.int G), .d (.int e.2.1), .d .none, .un, .un, .un, .un, .d (tw p)], rfl, by simp [tw], rfl⟩) (by omega)
    rw [List.map_map]
    exact this
  have so := sort_ints ((e.1 ++ f.1).map (·.1)) (by rw [List.length_map]; omega)
  generalize hts : ((e.1 ++ f.1).map (·.1)).mergeSort leI = ts at so
  have hmem : ∀ t, t ∈ ts ↔ ∃ p ∈ e.1 ++ f.1, p.1 = t := fun t => by
    rw [← hts, List.mem_mergeSort, List.mem_map]
  obtain ⟨l', v5, v6, v7, v8, fl, e1, h⟩ := by_loop he hf hk (G := G) ts .none .un .un .un .un fun t ht => by
    obtain ⟨p, hp, rfl⟩ := (hmem t).mp ht
    exact hG p hp
  have hll : ((e.1 ++ f.1).map (·.1)).length ≤ 16777216 := by rw [List.length_map]; omega
  have htl : ts.length ≤ 16777216 := by rw [← hts, List.length_mergeSort]; exact hll
  have e2 : l2_by_pairs [.d (effE e), .d (effE f), .d (.int G), .d (.int e.2.1), .d .none, .un, .un, .un, .un, .un] = .ok ([.d (effE e), .d (effE f), .d (.int G), .d (.int e.2.1), .d l', v5, v6, v7, v8, .un], fl) := by
    unfold l2_by_pairs sFor
    generalize ((e.1 ++ f.1).map (·.1)) = Z at *
    simp [l1, hll, so, htl]
    exact e1
  rcases h with ⟨t, ht, hc, rfl⟩ | ⟨hno, rfl, h3⟩
  · obtain ⟨p, hp, rfl⟩ := (hmem t).mp ht
    refine ⟨_, .b hp hc, ?_⟩
    generalize stk (sepB G e f p.1) = S at *
    generalize effE e = E at *
    generalize effE f = F at *
    simp [m_by_pairs, b_by_pairs, i1, e2]
  · obtain ⟨p, hp, hd⟩ := pairs_df he.v hf.v hne
    rcases h3 with ⟨-, h4⟩ | ⟨t, ht, hdt, rfl⟩
    · exact absurd hd (h4 _ ((hmem _).mpr ⟨p, hp, rfl⟩))
    · obtain ⟨q, hq, rfl⟩ := (hmem t).mp ht
      refine ⟨_, .c (fun r hr => hno _ ((hmem _).mpr ⟨r, hr, rfl⟩)) hq hdt, ?_⟩
      have hs := stk_two (a := q.1 - 1) (b := G) (by have := hG q hq; omega) (e.2.1 + 1).toNat 0
      rw [Int.toNat_of_nonneg (by have := he.v.d0; omega)] at hs
      have hp1 : (0 : Int) < e.2.1 + 1 := by have := he.v.d0; omega
      have hs : stk (two2 (q.1 - 1) G (e.2.1 + 1).toNat 0) = .tuple [.tuple [.int (q.1 - 1), .int (e.2.1 + 1)]] := by
        rw [hs]
        simp [hp1, rt, tw]
      rw [hs]
      generalize effE e = E at *
      generalize effE f = F at *
      simp [m_by_pairs, b_by_pairs, i1, e2]
open Classical in
/-- the least size of a stack that tells them apart -/
noncomputable def lstE (e f : Ef) : Int := if e.2.1 ≠ f.2.1 then min e.2.1 f.2.1 else if e.2.2 ≠ f.2.2 then e.2.1 else if ∃ p ∈ e.1 ++ f.1, cdE e f p.1 then e.2.1 else e.2.1 + 1
theorem separating_ne {e f : Ef} {k : Nat} (he : Small k e) (hf : Small k f) (hk : k ≤ 1000) (hne : e ≠ f) : ∃ S, m_separating [.d (effE e), .d (effE f)] = .ok ([.d (effE e), .d (effE f)], .d (stk S)) ∧ Never S ∧ Few S ∧ act e S ≠ act f S ∧ (S.length : Int) = lstE e f := by
  have c1 := check_small he hk
  have c2 := check_small hf hk
  obtain ⟨G, c3, g1, g2, g3⟩ := greater_ok he hf hk
  have q0 := @eqS_eff e f (Classical.propDecidable _)
  have q0 : eqS (effE e) (effE f) = .ok (.d (.bool false)) := by simpa [hne] using q0
  have i1e := ix_eff1 (e := e)
  have i1f := ix_eff1 (e := f)
  have i2e := ix_eff2 (e := e)
  have i2f := ix_eff2 (e := f)
  have n2 : neS (stk e.2.2) (stk f.2.2) = .ok (.d (.bool (@decide (¬ e.2.2 = f.2.2) (Classical.propDecidable _)))) := by
    have := @neS_fl (stk e.2.2) (stk f.2.2) (e.2.2 = f.2.2) (Classical.propDecidable _) (by simp) (by simp) stk_inj
    rw [this]
    by_cases h : e.2.2 = f.2.2 <;> simp [h]
  have h1 : ∀ p ∈ e.1, p.1 < G := fun p hp => g2 p (List.mem_append_left _ hp)
  have h2 : ∀ p ∈ f.1, p.1 < G := fun p hp => g2 p (List.mem_append_right _ hp)
  by_cases hA : e.2.1 ≠ f.2.1 ∨ e.2.2 ≠ f.2.2
  · have d0 := he.v.d0
    have d1 := hf.v.d0
    have ro := runs_of_ok [(G, min e.2.1 f.2.1)] (by simp)
    refine ⟨List.replicate (min e.2.1 f.2.1).toNat G, ?_, rep_never _ _, ?_, ?_, ?_⟩
    · have st : stk (List.replicate (min e.2.1 f.2.1).toNat G) = rt ([(G, min e.2.1 f.2.1)].filter fun p => decide (0 < p.2)) := by
        have hm : (((min e.2.1 f.2.1).toNat : Nat) : Int) = min e.2.1 f.2.1 := by omega
        generalize (min e.2.1 f.2.1).toNat = j at *
        rw [← hm]
        cases j with
        | zero => rfl
        | succ j =>
          unfold stk
          rw [runs_one G (j + 1) (Nat.succ_pos j)]
          have : (0 : Int) < ((j + 1 : Nat) : Int) := by omega
          generalize ((j + 1 : Nat) : Int) = x at *
          simp [this]
      rw [← st] at ro
      have ro : m_runs_of_k07 [.d (.tuple [.tuple [.int G, .int (min e.2.1 f.2.1)]])] = .ok ([.d (.tuple [.tuple [.int G, .int (min e.2.1 f.2.1)]])], .d (stk (List.replicate (min e.2.1 f.2.1).toNat G))) := ro
      generalize stk (List.replicate (min e.2.1 f.2.1).toNat G) = S at *
      generalize effE e = E at *
      generalize effE f = F at *
      by_cases hd : e.2.1 = f.2.1
      · have hN : ¬ e.2.2 = f.2.2 := fun h => hA.elim (fun q => q hd) fun q => q h
        simp only [hN, not_false_eq_true, decide_true] at n2
        rw [hd] at ro i1e
        simp at ro
        simp [m_separating, b_separating, c1, c2, c3, q0, i1e, i1f, i2e, i2f, n2, ro]
      · simp [m_separating, b_separating, c1, c2, c3, q0, i1e, i1f, i2e, i2f, hd, ro]
    · exact Nat.le_trans (rep_runs _ _) (by decide)
    · have t1 := tk_great he.v (G := G) (fun p hp => by have := h1 p hp; omega) (min e.2.1 f.2.1).toNat
      have t2 := tk_great hf.v (G := G) (fun p hp => by have := h2 p hp; omega) (min e.2.1 f.2.1).toNat
      have hl : ((List.replicate (min e.2.1 f.2.1).toNat G).length : Int) = min e.2.1 f.2.1 := by rw [List.length_replicate]; omega
      unfold act
      rw [t1, t2]
      generalize hS : List.replicate (min e.2.1 f.2.1).toNat G = S at *
      by_cases hd : e.2.1 = f.2.1
      · have hN : ¬ e.2.2 = f.2.2 := fun h => hA.elim (fun q => q hd) fun q => q h
        rw [if_pos (by omega), if_pos (by omega), ← hd]
        have : S.drop e.2.1.toNat = [] := List.drop_eq_nil_of_le (by omega)
        rw [this, List.append_nil, List.append_nil]
        exact fun h => hN (Option.some.inj h)
      · by_cases q : e.2.1 < f.2.1
        · rw [if_pos (by omega), if_neg (by omega)]; simp
        · rw [if_neg (by omega), if_pos (by omega)]; simp
    · rw [List.length_replicate]
      unfold lstE
      by_cases hd : e.2.1 = f.2.1
      · have hN : ¬ e.2.2 = f.2.2 := fun h => hA.elim (fun q => q hd) fun q => q h
        rw [if_neg (by simp [hd]), if_pos hN]
        omega
      · rw [if_pos hd]
        omega
  · have hd : e.2.1 = f.2.1 := Classical.byContradiction fun h => hA (.inl h)
    have hN : e.2.2 = f.2.2 := Classical.byContradiction fun h => hA (.inr h)
    have hP : e.1 ≠ f.1 := fun h => hne (Prod.ext h (Prod.ext hd hN))
    obtain ⟨S, hS, e1⟩ := by_pairs_ok he hf hk g2 hP
    simp only [hN, not_true_eq_false, decide_false] at n2
    refine ⟨S, ?_, ?_⟩
    · generalize stk S = T at *
      generalize effE e = E at *
      generalize effE f = F at *
      rw [hd] at i1e
      rw [hN] at i2e
      simp [m_separating, b_separating, c1, c2, c3, q0, i1e, i1f, i2e, i2f, n2, e1]
    · unfold lstE
      rw [if_neg (by simp [hd]), if_neg (by simp [hN])]
      cases hS with
      | @b p hp hc =>
        have := g2 p hp
        exact ⟨two2_never (by omega) _ _, two2_few _ _ _ _, sepB_differs he.v hf.v hd h1 h2 hc, by rw [if_pos ⟨p, hp, hc⟩]; exact sepB_len he.v _⟩
      | @c p hno hp hdp =>
        have := g2 p hp
        exact ⟨two2_never (by omega) _ _, two2_few _ _ _ _, sepC_differs he.v hf.v hd hN h1 h2 hdp (hno p hp), by
          rw [if_neg (fun ⟨q, hq, h⟩ => hno q hq h), two2_len]
          have := he.v.d0
          omega⟩
theorem separating_same {e : Ef} {k : Nat} (he : Small k e) (hk : k ≤ 1000) : m_separating [.d (effE e), .d (effE e)] = .ok ([.d (effE e), .d (effE e)], .d .none) := by
  have c1 := check_small he hk
  have q0 := eqS_same (x := effE e) (by simp)
  generalize effE e = E at *
  simp [m_separating, b_separating, c1, q0]
end Qa
namespace Qa
open PySem PySem.Spec PyProof.Rows L2 Evl Mi Pg Pu
/-! ### plain lists beside stacks (from the proof of k09) -/
def fB (L : List PP) : List D := L.flatMap fun p => List.replicate p.2.toNat (.int p.1)
theorem fB_app (L M : List PP) : fB (L ++ M) = fB L ++ fB M := List.flatMap_append
theorem fB_runs (T : List Int) : fB (runsT T).reverse = il T := by
  have key : ∀ R : List PP, fB R.reverse = (flatT R).reverse.map .int := fun R => by
    induction R with
    | nil => rfl
    | cons q R ih =>
      obtain ⟨n, c⟩ := q
      rw [List.reverse_cons, fB_app, ih]
      show _ = ((List.replicate c.toNat n ++ flatT R).reverse).map PyData.int
      rw [List.reverse_append, List.map_append, List.reverse_replicate, List.map_replicate]
      simp [fB]
  rw [key, flat_runs]
  rfl
theorem fold_fB : ∀ (L : List PP) (s : List D), L.foldl (fun s p => s ++ List.replicate p.2.toNat (.int p.1)) s = s ++ fB L
  | [], s => by simp [fB]
  | p :: L, s => by
    rw [List.foldl_cons, fold_fB L, List.append_assoc]
    rfl
theorem flat_ok {T : List Int} (hT : T.length ≤ 1000) : m__law_flat [.d (stk T)] = .ok ([.d (stk T)], .f (il T)) := by
  have hR : (runsT T).reverse.length ≤ 1000 := by rw [List.length_reverse]; exact Nat.le_trans (runs_len_le T) hT
  obtain ⟨⟨t2, t3⟩, e, -⟩ := sFor_fold (it := sIt iterA (sName 0)) (g := gTup' (gCons' (gN 2) (gCons' (gN 3) gNil')) 2) (b := l1b__law_flat) (Γ := [.d (stk T), .own false [], .un, .un])
    (fun (s : List D) (t : Sl × Sl) => [.d (stk T), .own false s, t.1, t.2]) tw (fun s p => s ++ List.replicate p.2.toNat (.int p.1)) (fun i s => s.length ≤ 1000 * i) (xs := (runsT T).reverse) (s := []) (.un, .un) (by simp [stk, rt]) (Nat.zero_le _) (fun i s t p hp hi hs => by
      have hp' := List.mem_reverse.mp hp
      have h1 := runs_cnt _ p hp'
      have h0 := runsT_pos _ p hp'
      refine ⟨?_, by rw [List.length_append, List.length_replicate]; omega⟩
      have m0 : okB (([PyData.int p.1] : List D).length * p.2.toNat ≤ sizeLine ∧ -(2 ^ 63) ≤ p.2 ∧ p.2 < 2 ^ 63) = true := okB_of ⟨by simp [sizeLine]; omega, by omega, by omega⟩
      have em : mulG (.list [.int p.1]) (.int p.2) = .ok (.f (List.replicate p.2.toNat (.int p.1))) := by
        show (if okB (([PyData.int p.1] : List D).length * p.2.toNat ≤ sizeLine ∧ -(2 ^ 63) ≤ p.2 ∧ p.2 < 2 ^ 63) = true then _ else _) = _
        rw [if_pos m0]
        simp
      have hl : s.length + p.2.toNat ≤ 16777216 := by omega
      have hl2 : p.2.toNat ≤ 16777216 := by omega
      have hl3 : s.length ≤ 16777216 := by omega
      exact ⟨[.d (stk T), .own false s, .d (.int p.1), .d (.int p.2)], (.d (.int p.1), .d (.int p.2)), by simp [tw], by simp [l1b__law_flat, em, hl, hl2, hl3]⟩)
  rw [fold_fB, List.nil_append, fB_runs] at e
  have e : l1__law_flat [.d (stk T), .own false [], .un, .un] = .ok ([.d (stk T), .own false (il T), t2, t3], .nx) := e
  have hl : (il T).length ≤ 16777216 := by rw [il_len]; omega
  generalize il T = L at *
  generalize stk T = S at *
  simp [m__law_flat, b__law_flat, e, hl]
theorem maxL_map (P : List PP) (g : PP → Int) : ∀ d : Int, P.foldl (fun s p => max s (g p)) d = maxL d (P.map g) := by
  induction P with
  | nil => intro d; rfl
  | cons p P ih =>
    intro d
    rw [List.foldl_cons, ih]
    show _ = maxL (if d < g p then g p else d) (P.map g)
    congr 1
    split <;> omega
theorem taken09_ok {e : Ef} {k : Nat} (he : Small k e) (hk : k ≤ 1000) {S : List Int} (hS : S.length ≤ 1000) : m__law_taken [.d (effE e), .d (.list (il S))] = .ok ([.d (effE e), .d (.list (il S))], .d (.int (tk e.1 e.2.1 S))) := by
  have i0 := ix_eff0 (e := e)
  have i1 := ix_eff1 (e := e)
  obtain ⟨⟨t3, t4⟩, e1, -⟩ := sFor_fold (it := sIt iterA (sPub (sBin ixG (sName 0) (sC (.int 0))))) (g := gTup' (gCons' (gN 3) (gCons' (gN 4) gNil')) 2) (b := l2b__law_taken) (Γ := [.d (effE e), .d (.list (il S)), .d (.int e.2.1), .un, .un, .un])
    (fun (s : Int) (t : Sl × Sl) => [.d (effE e), .d (.list (il S)), .d (.int s), t.1, t.2, .un]) tw (fun s p => max s (p.2 + cb S p.1)) (fun _ _ => True) (xs := e.1) (s := e.2.1) (.un, .un) (by simp [i0, rt]) trivial (fun i s t p hp hi hs => by
      refine ⟨?_, trivial⟩
      have l1 : l1__law_taken [.d (effE e), .d (.list (il S)), .d (.int s), .d (.int p.1), .d (.int p.2), .un] = .ok ([.d (effE e), .d (.list (il S)), .d (.int s), .d (.int p.1), .d (.int p.2), .un], .f ((S.reverse.filter fun n => decide (n < p.1)).map .int)) :=
        sLc_filt (it := sIt iterA (sName 1)) (g := gN 5) (tt := sTst (sBin ltG (sName 5) (sName 3))) (te := sName 5) (vs := [5]) PyData.int PyData.int (fun n => decide (n < p.1)) (Γ := [.d (effE e), .d (.list (il S)), .d (.int s), .d (.int p.1), .d (.int p.2), .un]) (xs := S.reverse) (by simp [il]) rfl (fun n _ => ⟨[.d (effE e), .d (.list (il S)), .d (.int s), .d (.int p.1), .d (.int p.2), .d (.int n)], rfl, by simp, rfl, rfl⟩) (by rw [List.length_reverse]; omega)
      have hc : ((S.reverse.filter fun n => decide (n < p.1)).length : Int) = cb S p.1 := by
        unfold cb
        rw [List.filter_reverse, List.length_reverse]
      have hl : (S.reverse.filter fun n => decide (n < p.1)).length ≤ 16777216 := Nat.le_trans (List.length_filter_le _ _) (by rw [List.length_reverse]; omega)
      refine ⟨[.d (effE e), .d (.list (il S)), .d (.int s), .d (.int p.1), .d (.int p.2), .un], (.d (.int p.1), .d (.int p.2)), by simp [tw], ?_⟩
      generalize (S.reverse.filter fun n => decide (n < p.1)) = Z at *
      generalize effE e = E at *
      simp [l2b__law_taken, l1, hl, hc])
  have ht : e.1.foldl (fun s p => max s (p.2 + cb S p.1)) e.2.1 = tk e.1 e.2.1 S := by
    rw [maxL_map e.1 (fun p => p.2 + cb S p.1)]
    unfold tk
    congr 1
    apply List.map_congr_left
    intro p _
    omega
  rw [ht] at e1
  have e1 : l2__law_taken [.d (effE e), .d (.list (il S)), .d (.int e.2.1), .un, .un, .un] = .ok ([.d (effE e), .d (.list (il S)), .d (.int (tk e.1 e.2.1 S)), t3, t4, .un], .nx) := e1
  generalize effE e = E at *
  simp [m__law_taken, b__law_taken, i1, e1]
def optS : Option (List Int) → D
  | some T => .list (il T)
  | none => .none
theorem cut_take (xs : List D) (j : Nat) : Mi.cutD xs none (some (j : Int)) = xs.take j := by
  unfold Mi.cutD
  have e1 : HT.sIx xs.length 0 none = 0 := rfl
  have e2 : HT.sIx xs.length xs.length (some (j : Int)) = min j xs.length := HT.sIx_nat xs.length xs.length j
  rw [e1, e2]
  simp
theorem cut_drop (xs : List D) (j : Nat) : Mi.cutD xs (some (j : Int)) none = xs.drop j := by
  unfold Mi.cutD
  have e2 : HT.sIx xs.length 0 (some (j : Int)) = min j xs.length := HT.sIx_nat xs.length 0 j
  rw [e2, HT.sIx_none]
  by_cases h : j ≤ xs.length
  · rw [Nat.min_eq_left h, List.take_of_length_le (by rw [List.length_drop]; omega)]
  · rw [Nat.min_eq_right (by omega), List.drop_eq_nil_of_le (Nat.le_refl _), List.drop_eq_nil_of_le (by omega)]
    simp
theorem il_app (U T : List Int) : il (U ++ T) = il T ++ il U := by simp [il]
theorem il_take (S : List Int) (j : Nat) (hj : j ≤ S.length) : (il S).take (S.length - j) = il (S.drop j) := by
  unfold il
  rw [← List.map_take, List.take_reverse, show S.length - (S.length - j) = j by omega]
theorem il_inj {S T : List Int} : il S = il T ↔ S = T := by
  unfold il
  rw [List.map_inj_right (fun a b h => by cases h; rfl), List.reverse_inj]
/-! ### steps on plain lists -/
theorem lpushed_while {x' : Sl} (n : Int) (x : D) : ∀ S : List Int, l1__law_pushed [x', .d (.int n), .own false (il S)] = .ok ([x', .d (.int n), .own false (il (S.dropWhile fun m => decide (m < n)))], .nx)
  | [] => by
    have := ne_il []
    exact sWhile_end (by simp [l1c__law_pushed, this])
  | m :: T => by
    have e1 := ne_il (m :: T)
    have e2 := il_at m T
    have e3 := il_last m T
    have e4 := il_drop m T
    by_cases h : m < n
    · rw [List.dropWhile_cons_of_pos (by simpa using h)]
      refine sWhile_go (fl := .nx) (Γ1 := [x', .d (.int n), .own false (il (m :: T))]) ?_ ?_ (.inl rfl) (lpushed_while n x T) (by simp)
      · simp [l1c__law_pushed, e1, e2, h]
      · simp [l1b__law_pushed, e3, e4]
    · rw [List.dropWhile_cons_of_neg (by simpa using h)]
      exact sWhile_end (by simp [l1c__law_pushed, e1, e2, h])
theorem lpushed_ok {S : List Int} (n : Int) (hS : S.length ≤ 100000) : m__law_pushed [.d (.list (il S)), .d (.int n)] = .ok ([.d (.list (il S)), .d (.int n)], .f (il (push S n 1))) := by
  have e := lpushed_while (x' := .d (.list (il S))) n .none S
  have hl : (S.dropWhile fun m => decide (m < n)).length ≤ S.length := by
    obtain ⟨k, ek⟩ := drop_while_eq S fun m => decide (m < n)
    rw [ek, List.length_drop]; omega
  have e2 : il (push S n 1) = il (S.dropWhile fun m => decide (m < n)) ++ [.int n] := il_cons n _
  rw [e2]
  have hl2 : (il (S.dropWhile fun m => decide (m < n))).length ≤ 100000 := by rw [il_len]; omega
  generalize il (S.dropWhile fun m => decide (m < n)) = U at *
  generalize il S = Sd at *
  have q1 : U.length < 16777216 := by omega
  have q2 : U.length + 1 ≤ 16777216 := by omega
  simp [m__law_pushed, b__law_pushed, e, q1, q2]
/-- one turn of a step -/
def sg : Stp → List Int → Option (List Int)
  | .push n _, S => some (push S n 1)
  | .pop _, S => match S with | [] => none | _ :: T => some T
def repS (s : Stp) : Nat → List Int → Option (List Int)
  | 0, S => some S
  | k + 1, S => (sg s S).bind (repS s k)
def stepA : Stp → List Int → Option (List Int)
  | .push n c, S => some (push S n c.toNat)
  | .pop c, S => if c ≤ S.length then some (S.drop c.toNat) else none
theorem push_push (S : List Int) (n : Int) : ∀ k : Nat, push (push S n 1) n k = push S n (k + 1) := fun k => by
  unfold push
  rw [show List.replicate 1 n ++ (S.dropWhile fun m => decide (m < n)) = n :: (S.dropWhile fun m => decide (m < n)) from rfl, List.dropWhile_cons_of_neg (by simp), List.replicate_succ', List.append_assoc]
  rfl
theorem repS_push (n c : Int) : ∀ (k : Nat) (S : List Int), repS (.push n c) (k + 1) S = some (push S n (k + 1))
  | 0, S => rfl
  | k + 1, S => by
    show repS (.push n c) (k + 1) (push S n 1) = _
    rw [repS_push n c k, push_push]
theorem repS_pop (c : Int) : ∀ (k : Nat) (S : List Int), repS (.pop c) k S = if k ≤ S.length then some (S.drop k) else none
  | 0, S => by simp [repS]
  | k + 1, [] => by simp [repS, sg]
  | k + 1, m :: T => by
    show repS (.pop c) k T = _
    rw [repS_pop c k T]
    simp
theorem repS_cnt {s : Stp} (h : 1 ≤ s.cnt) (S : List Int) : repS s s.cnt.toNat S = stepA s S := by
  cases s with
  | push n c =>
    have h : 1 ≤ c := h
    obtain ⟨k, hk⟩ : ∃ k : Nat, c.toNat = k + 1 := ⟨c.toNat - 1, by omega⟩
    show repS _ c.toNat S = some (push S n c.toNat)
    rw [hk, repS_push]
  | pop c =>
    have h : 1 ≤ c := h
    show repS _ c.toNat S = if c ≤ S.length then some (S.drop c.toNat) else none
    rw [repS_pop]
    by_cases q : c ≤ S.length
    · rw [if_pos q, if_pos (by omega)]
    · rw [if_neg q, if_neg (by omega)]
theorem act_step {s : Stp} (h : 1 ≤ s.cnt) {S : List Int} (hS : Never S) : act (stepE s) S = stepA s S := by
  cases s with
  | push n c =>
    have b := cb_le S n
    have ht : tk [(n, 0)] 0 S = cb S n := tk_eq b.1 (fun p hp => by rw [List.mem_singleton.mp hp]; simp) (.inr ⟨(n, 0), List.mem_singleton.mpr rfl, by simp⟩)
    show (if tk [(n, 0)] 0 S ≤ S.length then some (List.replicate c.toNat n ++ S.drop (tk [(n, 0)] 0 S).toNat) else none) = some (push S n c.toNat)
    rw [ht, if_pos b.2, cb_drop n hS]
    rfl
  | pop c =>
    have ht : tk [] c S = c := rfl
    show (if tk [] c S ≤ S.length then some ([] ++ S.drop (tk [] c S).toNat) else none) = _
    rw [ht]
    rfl
def runA (ss : List Stp) (S : List Int) : Option (List Int) := ss.foldl (fun o s => o.bind (stepA s)) (some S)
theorem run_none (ss : List Stp) : ss.foldl (fun o s => o.bind (stepA s)) (none : Option (List Int)) = none := by
  induction ss with
  | nil => rfl
  | cons s ss ih => exact ih
theorem runA_cons (s : Stp) (ss : List Stp) (S : List Int) : runA (s :: ss) S = (stepA s S).bind (runA ss) := by
  unfold runA
  rw [List.foldl_cons]
  show List.foldl _ (stepA s S) ss = _
  cases stepA s S with
  | none => exact run_none ss
  | some T => rfl
theorem act_fold : ∀ (ss : List Stp) (e : Ef) (S : List Int), Valid e → (∀ t ∈ ss, 1 ≤ t.cnt) → Never S → act (ss.foldl (fun e s => jo e (stepE s)) e) S = ss.foldl (fun o s => o.bind (stepA s)) (act e S)
  | [], e, S, _, _, _ => rfl
  | s :: ss, e, S, he, hc, hS => by
    have hs := hc s List.mem_cons_self
    rw [List.foldl_cons, List.foldl_cons, act_fold ss _ S (jo_valid he (stepE_valid hs)) (fun t ht => hc t (List.mem_cons_of_mem _ ht)) hS, act_jo he (stepE_valid hs) hS]
    congr 1
    cases q : act e S with
    | none => rfl
    | some T => exact act_step hs (act_never he hS q)
/-- an effect does to a stack what its steps do -/
theorem act_run {ss : List Stp} (hc : ∀ t ∈ ss, 1 ≤ t.cnt) {S : List Int} (hS : Never S) : act (effL ss) S = runA ss S := by
  unfold effL runA
  rw [act_fold ss _ S id_valid hc hS, act_id]
theorem push_len (S : List Int) (n : Int) (k : Nat) : (push S n k).length ≤ S.length + k := by
  unfold push
  obtain ⟨j, ej⟩ := drop_while_eq S fun m => decide (m < n)
  rw [ej, List.length_append, List.length_replicate, List.length_drop]; omega
theorem stepA_len {s : Stp} {S T : List Int} (h : stepA s S = some T) : T.length ≤ S.length + s.cnt.toNat := by
  cases s with
  | push n c => cases h; exact push_len S n _
  | pop c =>
    have h : (if c ≤ S.length then some (S.drop c.toNat) else none) = some T := h
    split at h
    · cases h; rw [List.length_drop]; omega
    · cases h
def At0 (s : Sl) (S : List Int) : Prop := s = .d (.list (il S)) ∨ s = .own false (il S)
theorem ran_one (x t3 : Sl) (s : Stp) {S : List Int} {s0 : Sl} (h0 : At0 s0 S) (hl : S.length ≤ 100000) : match sg s S with
    | some T => ∃ u0, l1b__law_ran [s0, x, .d s.d, t3] = .ok ([u0, x, .d s.d, t3], .nx) ∧ At0 u0 T
    | none => ∃ u0, l1b__law_ran [s0, x, .d s.d, t3] = .ok ([u0, x, .d s.d, t3], .rt (.d .none)) := by
  cases s with
  | push n c =>
    have i0 : ixG (Stp.push n c).d (.int 0) = .ok (.d (.str "push")) := by simp [Stp.d]
    have i1 : ixG (Stp.push n c).d (.int 1) = .ok (.d (.int n)) := by simp [Stp.d]
    have e := lpushed_ok (S := S) n hl
    refine ⟨.own false (il (push S n 1)), ?_, .inr rfl⟩
    generalize (Stp.push n c).d = z at *
    generalize il (push S n 1) = U at *
    rcases h0 with rfl | rfl <;> simp [l1b__law_ran, i0, i1, e]
  | pop c =>
    have i0 : ixG (Stp.pop c).d (.int 0) = .ok (.d (.str "pop")) := by simp [Stp.d]
    cases S with
    | nil =>
      have e1 := eq_il []
      refine ⟨.d (.list (il [])), ?_⟩
      generalize (Stp.pop c).d = z at *
      rcases h0 with rfl | rfl <;> simp [l1b__law_ran, i0, e1, pp_ne]
    | cons m T =>
      have e1 := eq_il (m :: T)
      have sl : Mi.cutD (il (m :: T)) none (some (-1)) = il T := by
        rw [cut_init _ (by rw [il_len]; simp), il_drop]
      refine ⟨.own false (il T), ?_, .inr rfl⟩
      have hT : (il T).length ≤ 100000 := by rw [il_len]; simp at hl; omega
      have hT2 : (il T).length ≤ 16777216 := by omega
      generalize (Stp.pop c).d = z at *
      rcases h0 with rfl | rfl <;> simp [l1b__law_ran, i0, e1, pp_ne, sl, hT2]
theorem sg_len {s : Stp} {S T : List Int} (h : sg s S = some T) : T.length ≤ S.length + 1 := by
  cases s with
  | push n c => cases h; exact push_len S n _
  | pop c =>
    cases S with
    | nil => cases h
    | cons m S => cases h; simp; omega
theorem ran_inner (x : Sl) (s : Stp) : ∀ (ds : List D) (S : List Int) (s0 t3 : Sl), At0 s0 S → S.length + ds.length ≤ 100000 → match repS s ds.length S with
    | some T => ∃ u0 u3, forL (gN 3) l1b__law_ran ds [s0, x, .d s.d, t3] = .ok ([u0, x, .d s.d, u3], .nx) ∧ At0 u0 T
    | none => ∃ u0 u3, forL (gN 3) l1b__law_ran ds [s0, x, .d s.d, t3] = .ok ([u0, x, .d s.d, u3], .rt (.d .none))
  | [], S, s0, t3, h0, _ => ⟨s0, t3, rfl, h0⟩
  | d :: ds, S, s0, t3, h0, hl => by
    have h1 := ran_one x (.d d) s h0 (by simp at hl; omega)
    show match (sg s S).bind (repS s ds.length) with | some T => _ | none => _
    cases q : sg s S with
    | none =>
      rw [q] at h1
      obtain ⟨u0, e⟩ := h1
      exact ⟨u0, .d d, forL_rt (Γ1 := [s0, x, .d s.d, .d d]) rfl e⟩
    | some T =>
      rw [q] at h1
      obtain ⟨u0, e, h2⟩ := h1
      have ih := ran_inner x s ds T u0 (.d d) h2 (by have := sg_len q; simp at hl; omega)
      rw [forL_nx (Γ1 := [s0, x, .d s.d, .d d]) rfl e]
      exact ih
theorem ran_step (x t3 : Sl) {s : Stp} (hc : 1 ≤ s.cnt ∧ s.cnt ≤ 1000) {S : List Int} {s0 : Sl} (h0 : At0 s0 S) (hl : S.length ≤ 90000) : match stepA s S with
    | some T => ∃ u0 u3, l2b__law_ran [s0, x, .d s.d, t3] = .ok ([u0, x, .d s.d, u3], .nx) ∧ At0 u0 T
    | none => ∃ u0 u3, l2b__law_ran [s0, x, .d s.d, t3] = .ok ([u0, x, .d s.d, u3], .rt (.d .none)) := by
  have h := ran_inner x s (rangeD 0 s.cnt.toNat) S s0 t3 h0 (by rw [rangeD_length]; omega)
  rw [rangeD_length, repS_cnt hc.1] at h
  have ix : ixG s.d (.int (-1)) = .ok (.d (.int s.cnt)) := by
    cases s with
    | push n c => have : atI [PyData.str "push", .int n, .int c] (-1) = some (.int c) := at_last rfl
                  simp [Stp.d, Stp.cnt, this]
    | pop c => have : atI [PyData.str "pop", .int c] (-1) = some (.int c) := at_last rfl
               simp [Stp.d, Stp.cnt, this]
  have e : l2b__law_ran [s0, x, .d s.d, t3] = forL (gN 3) l1b__law_ran (rangeD 0 s.cnt.toNat) [s0, x, .d s.d, t3] := by
    have r := z_rng1 (k := s.cnt) (by omega) (by omega)
    unfold l2b__law_ran l1__law_ran sFor
    simp [ix, r]
  rw [e]
  exact h
theorem ran_loop (x : D) : ∀ (ss : List Stp) (S : List Int) (s0 t2 t3 : Sl), At0 s0 S → (∀ t ∈ ss, 1 ≤ t.cnt ∧ t.cnt ≤ 1000) → S.length + 1000 * ss.length ≤ 90000 → match runA ss S with
    | some T => ∃ u0 u2 u3, forL (gN 2) l2b__law_ran (ss.map Stp.d) [s0, .d x, t2, t3] = .ok ([u0, .d x, u2, u3], .nx) ∧ At0 u0 T
    | none => ∃ u0 u2 u3, forL (gN 2) l2b__law_ran (ss.map Stp.d) [s0, .d x, t2, t3] = .ok ([u0, .d x, u2, u3], .rt (.d .none))
  | [], S, s0, t2, t3, h0, _, _ => ⟨s0, t2, t3, rfl, h0⟩
  | s :: ss, S, s0, t2, t3, h0, hc, hl => by
    have hs := hc s List.mem_cons_self
    have h1 := ran_step (.d x) t3 hs h0 (by simp at hl; omega)
    rw [runA_cons]
    cases q : stepA s S with
    | none =>
      rw [q] at h1
      obtain ⟨u0, u3, e⟩ := h1
      exact ⟨u0, .d s.d, u3, forL_rt (Γ1 := [s0, .d x, .d s.d, t3]) rfl e⟩
    | some T =>
      rw [q] at h1
      obtain ⟨u0, u3, e, h2⟩ := h1
      have ih := ran_loop x ss T u0 (.d s.d) u3 h2 (fun t ht => hc t (List.mem_cons_of_mem _ ht)) (by have := stepA_len q; simp at hl; omega)
      rw [List.map_cons, forL_nx (Γ1 := [s0, .d x, .d s.d, t3]) rfl e]
      exact ih
/-- the steps on a plain list; the answer may be the list that came in -/
theorem law_ran_ok {x : D} {ss : List Stp} (h : Sq x (ss.map Stp.d)) (hc : ∀ t ∈ ss, 1 ≤ t.cnt ∧ t.cnt ≤ 1000) {S : List Int} (hl : S.length + 1000 * ss.length ≤ 90000) :
    ∃ r, m__law_ran [.d (.list (il S)), .d x] = .ok ([.d (.list (il S)), .d x], r) ∧ (r = .d (optS (runA ss S)) ∨ ∃ T, runA ss S = some T ∧ r = .f (il T)) := by
  have hh := ran_loop x ss S (.d (.list (il S))) .un .un (.inl rfl) hc hl
  have e0 : l2__law_ran [.d (.list (il S)), .d x, .un, .un] = forL (gN 2) l2b__law_ran (ss.map Stp.d) [.d (.list (il S)), .d x, .un, .un] := by
    unfold l2__law_ran sFor
    simp [h.it]
  cases q : runA ss S with
  | none =>
    rw [q] at hh
    obtain ⟨u0, u2, u3, e⟩ := hh
    rw [← e0] at e
    exact ⟨.d .none, by simp [m__law_ran, b__law_ran, e], .inl rfl⟩
  | some T =>
    rw [q] at hh
    obtain ⟨u0, u2, u3, e, h0⟩ := hh
    rw [← e0] at e
    rcases h0 with rfl | rfl
    · exact ⟨.d (.list (il T)), by simp [m__law_ran, b__law_ran, e], .inl rfl⟩
    · exact ⟨.f (il T), by simp [m__law_ran, b__law_ran, e], .inr ⟨T, rfl, rfl⟩⟩
/-! ### rows that never rise -/
theorem row_ok (p : Pool) (most : Nat) (wide : Int) (hm : most ≤ 900) (hw : 0 < wide) (hw2 : wide < 2 ^ 4000) : ∃ (q : Pool) (S : List Int), m__law_row_k01 [.own true (pl p), .d (.int most), .d (.int wide)] = .ok ([.own true (pl q), .d (.int most), .d (.int wide)], .f (il S)) ∧ S.length ≤ most ∧ Never S ∧ ∀ n ∈ S, -(wide / 3) ≤ n ∧ n < wide - wide / 3 := by
  have t1 := take_ok p (n := (most : Int) + 1) (by omega) (by
    have : (2 : Int) ^ 10 ≤ 2 ^ 4000 := by decide +kernel
    omega)
  obtain ⟨a0, a1⟩ := tv_lt p (n := (most : Int) + 1) (by omega)
  have hk : (tv p ((most : Int) + 1)).toNat ≤ most := by omega
  have l3 : Nat.log2 3 < 9000 := by decide +kernel
  have r1 := z_rng1 (k := tv p ((most : Int) + 1)) (by omega) (by omega)
  obtain ⟨Γ2, ys, e, ⟨q, rfl⟩, hlen, hy⟩ := sLc_inv (it := sItA rng1 (sCons (sPub (callS m__law_take [some 0, none] (sRef 0 (sCons (sPub (sBin addG (sName 1) (sC (.int 1)))) sNil)))) sNil)) (g := gN 4) (te := sPub (sBin subG (sPub (callS m__law_take [some 0, none] (sRef 0 (sCons (sName 2) sNil)))) (sPub (sBin fdivG (sName 2) (sC (.int 3))))))
    (vs := [4]) (Γ := [.own true (pl p), .d (.int most), .d (.int wide), .un, .un]) (Γ1 := [.own true (pl (nx p ((most : Int) + 1))), .d (.int most), .d (.int wide), .un, .un]) (xs := rangeD 0 (tv p ((most : Int) + 1)).toNat)
    (fun Γ => ∃ q : Pool, Γ = [.own true (pl q), .d (.int most), .d (.int wide), .un, .un]) (fun y => ∃ n : Int, y = .int n ∧ -(wide / 3) ≤ n ∧ n < wide - wide / 3) (by simp [t1, r1]) rfl ⟨_, rfl⟩ (by rw [rangeD_length]; omega) (fun x hx Γ hΓ => by
      obtain ⟨q, rfl⟩ := hΓ
      have t2 := take_ok q hw hw2
      obtain ⟨b0, b1⟩ := tv_lt q hw
      exact ⟨_, [.own true (pl (nx q wide)), .d (.int most), .d (.int wide), .un, .d x], .int (tv q wide - wide / 3), rfl, by simp [t2, l3], ⟨_, rfl⟩, _, rfl, by omega, by omega⟩)
  obtain ⟨L, rfl, hL⟩ := pick (f := PyData.int) (P := fun n => -(wide / 3) ≤ n ∧ n < wide - wide / 3) hy
  rw [rangeD_length, List.length_map] at hlen
  have e : l1__law_row_k01 [.own true (pl p), .d (.int most), .d (.int wide), .un, .un] = .ok ([.own true (pl q), .d (.int most), .d (.int wide), .un, .un], .f (L.map .int)) := e
  have s1 := sort_ints L (by omega)
  have e3 : ((L.mergeSort leI).map PyData.int).reverse = il (L.mergeSort leI) := by simp [il]
  refine ⟨q, L.mergeSort leI, ?_, by rw [List.length_mergeSort]; omega, ?_, fun n hn => hL n ((List.mergeSort_perm L leI).mem_iff.mp hn)⟩
  · rw [← e3]
    have hl : (L.map PyData.int).length ≤ 16777216 := by rw [List.length_map]; omega
    generalize L.map PyData.int = A at *
    generalize (L.mergeSort leI).map PyData.int = B at *
    simp [m__law_row_k01, b__law_row_k01, e, s1]
  · have h := List.pairwise_mergeSort (le := leI) (fun a b c h1 h2 => by
      rw [leI_le] at *; simp only [decide_eq_true_eq] at *; omega) (fun a b => by rw [leI_le, leI_le]; simp; omega) L
    exact h.imp fun {a b} h => by rw [leI_le] at h; simpa using h
end Qa
namespace Qa
open PySem PySem.Spec PyProof.Rows L2 Evl Mi Pg Pu
/-! ### what is refused -/
theorem check_stack_not {x : D} (h : m_is_stack [.d x] = .ok ([.d x], .d (.bool false))) : m_check_stack [.d x] = .exc "InvalidStack" x := by
  simp [m_check_stack, b_check_stack, h]
theorem is_stack_other {x : D} {t : String} (h : tyD x = some t) (h2 : t ≠ "tuple") (h3 : t ≠ "bool") : m_is_stack [.d x] = .ok ([.d x], .d (.bool false)) := by
  have e : (t == "tuple") = false := by simpa using h2
  have e2 : (t == "bool") = false := by simpa using h3
  simp [m_is_stack, b_is_stack, h, e, e2]
theorem is_stack_rt_not {L : List PP} (hl : L.length ≤ 100000) (h : ¬ IsSt L) : m_is_stack [.d (rt L)] = .ok ([.d (rt L)], .d (.bool false)) := by
  rw [is_stack_rt L hl, decide_eq_false h]
theorem removed_odd {e : Ef} {k : Nat} (he : Small k e) (hk : k ≤ 1000) {x : D} (h : m_is_stack [.d x] = .ok ([.d x], .d (.bool false))) : m_removed [.d (effE e), .d x] = .exc "InvalidStack" x := by
  have c1 := check_small he hk
  have c2 := check_stack_not h
  generalize effE e = E at *
  simp [m_removed, b_removed, c1, c2]
theorem applied_odd {e : Ef} {k : Nat} (he : Small k e) (hk : k ≤ 1000) {x : D} (h : m_is_stack [.d x] = .ok ([.d x], .d (.bool false))) : m_applied [.d (effE e), .d x] = .exc "InvalidStack" x := by
  have c1 := removed_odd he hk h
  generalize effE e = E at *
  simp [m_applied, b_applied, c1]
theorem applied_fail {e : Ef} {k : Nat} (he : Small k e) (hk : k ≤ 1000) {S : List Int} (hf : Few S) (hN : Never S) (h : act e S = none) : m_applied [.d (effE e), .d (stk S)] = .exc "StepFailed" .none := by
  have c1 := removed_ok he hk hf hN
  have h2 : remE e S = none := by
    unfold act at h; unfold remE
    split at h
    · cases h
    · rename_i q; exact if_neg q
  rw [h2] at c1
  have c1 : m_removed [.d (effE e), .d (stk S)] = .ok ([.d (effE e), .d (stk S)], .d .none) := c1
  generalize effE e = E at *
  simp [m_applied, b_applied, c1]
/-- applied, all at once -/
theorem applied_all {e : Ef} {k : Nat} (he : Small k e) (hk : k ≤ 1000) {S : List Int} (hf : Few S) (hN : Never S) : m_applied [.d (effE e), .d (stk S)] = match act e S with
    | some T => .ok ([.d (effE e), .d (stk S)], .d (stk T))
    | none => .exc "StepFailed" .none := by
  cases q : act e S with
  | some T => exact applied_ok he hk hf hN q
  | none => exact applied_fail he hk hf hN q
/-! ### stacks told by their runs, the top first -/
def unr (R : List PP) : List Int := R.flatMap fun p => List.replicate p.2.toNat p.1
theorem unr_nil : unr [] = [] := rfl
theorem unr_cons (p : PP) (R : List PP) : unr (p :: R) = List.replicate p.2.toNat p.1 ++ unr R := rfl
theorem runs_unr : ∀ {R : List PP}, Pos R → R.Pairwise (fun p q => p.1 ≠ q.1) → runsT (unr R) = R
  | [], _, _ => rfl
  | (x, c) :: R, hp, hd => by
    have hd2 := List.pairwise_cons.mp hd
    have ih := runs_unr (R := R) (fun p hp' => hp p (List.mem_cons_of_mem _ hp')) hd2.2
    have hc : 1 ≤ c := hp (x, c) List.mem_cons_self
    rw [unr_cons, runs_rep x c.toNat _ (by omega) (by
      rw [ih]
      intro c' r hh
      subst hh
      exact hd2.1 (x, c') List.mem_cons_self rfl), ih]
    have : ((c.toNat : Nat) : Int) = c := by omega
    show (x, ((c.toNat : Nat) : Int)) :: R = _
    rw [this]
theorem unr_never : ∀ {R : List PP}, R.Pairwise (fun p q => p.1 ≤ q.1) → Never (unr R)
  | [], _ => .nil
  | (x, c) :: R, hd => by
    have hd2 := List.pairwise_cons.mp hd
    rw [unr_cons]
    refine never_app (rep_never _ _) (unr_never hd2.2) fun a ha b hb => ?_
    obtain ⟨p, hp, hb⟩ := List.mem_flatMap.mp hb
    rw [List.eq_of_mem_replicate ha, List.eq_of_mem_replicate hb]
    exact hd2.1 p hp
theorem cb_unr : ∀ {R : List PP} (t : Int), Pos R → cb (unr R) t = ((R.filter fun p => decide (p.1 < t)).map (·.2)).sum
  | [], t, _ => rfl
  | (x, c) :: R, t, hp => by
    have hc : 1 ≤ c := hp (x, c) List.mem_cons_self
    rw [unr_cons, cb_app, cb_rep, cb_unr (R := R) t fun p hp' => hp p (List.mem_cons_of_mem _ hp')]
    by_cases h : x < t
    · rw [if_pos h, List.filter_cons_of_pos (by simpa using h), List.map_cons, List.sum_cons]
      show ((c.toNat : Nat) : Int) + _ = c + _
      omega
    · rw [if_neg h, List.filter_cons_of_neg (by simpa using h)]
      omega
theorem unr_len : ∀ {R : List PP}, Pos R → ((unr R).length : Int) = (R.map (·.2)).sum
  | [], _ => rfl
  | (x, c) :: R, hp => by
    have hc : 1 ≤ c := hp (x, c) List.mem_cons_self
    rw [unr_cons, List.length_append, List.length_replicate, List.map_cons, List.sum_cons]
    have := unr_len (R := R) fun p hp' => hp p (List.mem_cons_of_mem _ hp')
    show ((c.toNat + (unr R).length : Nat) : Int) = c + _
    omega
/-- a stack's runs, told from the bottom -/
def RunsUp (R : List PP) : Prop := Pos R ∧ R.Pairwise fun p q => p.1 < q.1
theorem stk_unr {R : List PP} (h : RunsUp R) : stk (unr R) = rt R.reverse := by
  unfold stk
  rw [runs_unr h.1 (h.2.imp fun h => by omega)]
theorem up_never {R : List PP} (h : RunsUp R) : Never (unr R) := unr_never (h.2.imp fun h => by omega)
theorem up_few {R : List PP} (h : RunsUp R) (hl : R.length ≤ 1000) : Few (unr R) := by
  unfold Few
  rw [runs_unr h.1 (h.2.imp fun h => by omega)]
  exact hl
/-- the first run is gone, or shrinks -/
theorem drop_unr {x c : Int} {R : List PP} {k : Int} (h0 : 0 ≤ k) (hk : k < c) : (unr ((x, c) :: R)).drop k.toNat = unr ((x, c - k) :: R) := by
  rw [unr_cons, unr_cons]
  show (List.replicate c.toNat x ++ unr R).drop k.toNat = List.replicate (c - k).toNat x ++ unr R
  rw [List.drop_append_of_le_length (by rw [List.length_replicate]; omega), List.drop_replicate]
  congr 2
  omega
theorem drop_unr_all {x c : Int} {R : List PP} {k : Int} (h0 : 0 ≤ c) (hk : c ≤ k) : (unr ((x, c) :: R)).drop k.toNat = (unr R).drop (k - c).toNat := by
  rw [unr_cons]
  show (List.replicate c.toNat x ++ unr R).drop k.toNat = _
  have e : k.toNat = c.toNat + (k - c).toNat := by omega
  rw [e, ← List.drop_drop, List.drop_left' (List.length_replicate)]
end Qa
namespace Qa
open PySem PySem.Spec PyProof.Rows L2 Evl Mi Pg Pu
/-! ### plain: the first later number that is greater -/
/-- among the places below k -/
def due (v : Nat → Int) (k i : Nat) : Option Nat := ((List.range k).filter fun j => decide (i < j ∧ v i < v j)).head?
theorem due_succ (v : Nat → Int) (k i : Nat) : due v (k + 1) i = (due v k i).or (if i < k ∧ v i < v k then some k else none) := by
  unfold due
  rw [List.range_succ, List.filter_append, List.head?_append]
  congr 1
  by_cases h : i < k ∧ v i < v k
  · rw [if_pos h]; simp [h]
  · rw [if_neg h]
    have : decide (i < k ∧ v i < v k) = false := by simpa using h
    simp only [List.filter_cons, this, List.filter_nil]
    rfl
theorem due_lt {v : Nat → Int} {k i j : Nat} (h : due v k i = none) (h1 : i < j) (h2 : j < k) : v j ≤ v i := by
  unfold due at h
  rw [List.head?_eq_none_iff, List.filter_eq_nil_iff] at h
  have := h j (List.mem_range.mpr h2)
  simp only [decide_eq_true_eq] at this
  omega
/-- the places that still wait, the last one first -/
def wait (v : Nat → Int) (k : Nat) : List Nat := ((List.range k).filter fun i => (due v k i).isNone).reverse
theorem mem_wait {v : Nat → Int} {k i : Nat} : i ∈ wait v k ↔ i < k ∧ due v k i = none := by simp [wait]
theorem wait_up (v : Nat → Int) (k : Nat) : (wait v k).Pairwise fun i j => v i ≤ v j := by
  unfold wait
  rw [List.pairwise_reverse]
  have h1 : ((List.range k).filter fun i => (due v k i).isNone).Pairwise (· < ·) := List.Pairwise.filter _ List.pairwise_lt_range
  refine List.Pairwise.imp_of_mem ?_ h1
  intro a b ha hb hab
  have ha := (List.mem_filter.mp ha).2
  have hb := List.mem_range.mp (List.mem_filter.mp hb).1
  exact due_lt (by simpa using ha) hab hb
theorem wait_succ (v : Nat → Int) (k : Nat) : wait v (k + 1) = k :: (wait v k).filter fun i => decide (v k ≤ v i) := by
  unfold wait
  rw [List.range_succ, List.filter_append, List.reverse_append, List.filter_reverse, List.filter_filter]
  have hk : (due v (k + 1) k).isNone = true := by
    rw [Option.isNone_iff_eq_none]
    unfold due
    rw [List.head?_eq_none_iff, List.filter_eq_nil_iff]
    intro j hj
    have := List.mem_range.mp hj
    simp; omega
  have : [k].filter (fun i => (due v (k + 1) i).isNone) = [k] := by simp [hk]
  rw [this]
  show k :: (List.filter (fun i => (due v (k + 1) i).isNone) (List.range k)).reverse = _
  congr 2
  apply List.filter_congr
  intro i hi
  have hi : i < k := by simpa using hi
  rw [due_succ]
  by_cases h : v i < v k
  · rw [if_pos ⟨hi, h⟩]
    have : ¬ v k ≤ v i := by omega
    cases due v k i <;> simp [this]
  · rw [if_neg (fun q => h q.2)]
    have : v k ≤ v i := by omega
    cases due v k i <;> simp [this]
def oD : Option Nat → D
  | none => .none
  | some j => .int (j : Int)
@[simp] theorem fl_oD {n : Nat} {o : Option Nat} : fl n (oD o) = true := by cases o <;> simp [oD]
/-- a list of places found -/
def FD (n : Nat) (f : Nat → Option Nat) : List D := (List.range n).map fun i => oD (f i)
theorem FD_len (n : Nat) (f : Nat → Option Nat) : (FD n f).length = n := by simp [FD]
theorem FD_set (n : Nat) (f : Nat → Option Nat) (w k : Nat) : (FD n f).set w (.int (k : Int)) = FD n fun i => if i = w then some k else f i := by
  apply List.ext_getElem (by simp [FD])
  intro i h1 h2
  rw [List.getElem_set]
  by_cases h : w = i
  · subst h; simp [FD, oD]
  · rw [if_neg h]
    have : ¬ i = w := fun e => h e.symm
    simp [FD, this]
theorem FD_ext {n : Nat} {f g : Nat → Option Nat} (h : ∀ i < n, f i = g i) : FD n f = FD n g := by
  unfold FD
  exact List.map_congr_left fun i hi => by rw [h i (List.mem_range.mp hi)]
def rowD (n : Nat) (v : Nat → Int) : List D := (List.range n).map fun i => .int (v i)
theorem rowD_len (n : Nat) (v : Nat → Int) : (rowD n v).length = n := by simp [rowD]
theorem rowD_at {n : Nat} {v : Nat → Int} {i : Nat} (h : i < n) : atI (rowD n v) (i : Int) = some (.int (v i)) := by
  have : (rowD n v)[i]? = some (.int (v i)) := by simp [rowD, h]
  exact atI_nat this
theorem numb_map {α : Type} (f : α → D) : ∀ (xs : List α) (i : Int), numb i (xs.map f) = xs.zipIdx.map fun p => .tuple [.int (i + (p.2 : Int)), f p.1]
  | [], i => rfl
  | x :: xs, i => by
    rw [List.map_cons, numb, numb_map f xs (i + 1), List.zipIdx_cons, List.map_cons, List.zipIdx_succ, List.map_map]
    congr 1
    · simp
    · exact List.map_congr_left fun p hp => by simp; omega
theorem numb_row (n : Nat) (v : Nat → Int) : numb 0 (rowD n v) = (List.range n).map fun i : Nat => .tuple [.int (i : Int), .int (v i)] := by
  unfold rowD
  rw [numb_map]
  apply List.ext_getElem (by simp)
  intro i h1 h2
  simp
abbrev iN (W : List Nat) : List Int := W.map fun (w : Nat) => (w : Int)
theorem hid_while (n k : Nat) (v : Nat → Int) (hk : k < n) (hn : n ≤ 1000) : ∀ (W : List Nat) (f : Nat → Option Nat), (∀ w ∈ W, w < n) → W.Pairwise (fun i j => v i ≤ v j) →
    l2_hidden_by [.d (.tuple (rowD n v)), .d (.int (v k)), .own false (FD n f), .own false (il (iN W)), .d (.int (k : Int))] =
      .ok ([.d (.tuple (rowD n v)), .d (.int (v k)), .own false (FD n fun i => if i ∈ W ∧ v i < v k then some k else f i), .own false (il (iN (W.filter fun i => decide (v k ≤ v i)))), .d (.int (k : Int))], .nx)
  | [], f, _, _ => by
    have := ne_il []
    have e : FD n (fun i => if i ∈ ([] : List Nat) ∧ v i < v k then some k else f i) = FD n f := FD_ext fun i hi => by simp
    rw [e]
    exact sWhile_end (by simp [l2c_hidden_by, this])
  | w :: W, f, hw, hp => by
    have hwn := hw w List.mem_cons_self
    rw [List.pairwise_cons] at hp
    have e1 := ne_il (iN (w :: W))
    have e2 : atI (il (iN (w :: W))) (-1) = some (.int (w : Int)) := il_at (w : Int) (iN W)
    have e3 : (il (iN (w :: W))).getLast? = some (.int (w : Int)) := il_last (w : Int) (iN W)
    have e4 : (il (iN (w :: W))).dropLast = il (iN W) := il_drop (w : Int) (iN W)
    have e5 := rowD_at (v := v) hwn
    have hne : ¬ iN (w :: W) = [] := by simp
    by_cases h : v w < v k
    · have ih := hid_while n k v hk hn W (fun i => if i = w then some k else f i) (fun x hx => hw x (List.mem_cons_of_mem _ hx)) hp.2
      have e6 : ixN (FD n f).length (w : Int) = some w := by
        rw [FD_len]; unfold ixN; simp; omega
      have e7 : FD n (fun i => if i ∈ w :: W ∧ v i < v k then some k else f i) = FD n (fun i => if i ∈ W ∧ v i < v k then some k else (fun i => if i = w then some k else f i) i) := FD_ext fun i hi => by
        by_cases q : i = w
        · subst q; simp [h]
        · simp [q]
      have e8 : (w :: W).filter (fun i => decide (v k ≤ v i)) = W.filter fun i => decide (v k ≤ v i) := by
        rw [List.filter_cons]; have : ¬ v k ≤ v w := by omega
        simp [this]
      rw [e7, e8]
      refine sWhile_go (fl := .nx) (Γ1 := [.d (.tuple (rowD n v)), .d (.int (v k)), .own false (FD n f), .own false (il (iN (w :: W))), .d (.int (k : Int))]) ?_ ?_ (.inl rfl) ih (by simp)
      · generalize il (iN (w :: W)) = A at *
        generalize FD n f = B at *
        generalize rowD n v = C at *
        simp [l2c_hidden_by, e1, e2, e5, h]
      · have e9 := FD_set n f w k
        generalize FD n (fun i => if i = w then some k else f i) = B2 at *
        generalize il (iN (w :: W)) = A at *
        generalize FD n f = B at *
        generalize rowD n v = C at *
        simp [l2b_hidden_by, e3, e4, e6, e9]
    · have hall : ∀ i ∈ W, ¬ v i < v k := fun i hi => by have := hp.1 i hi; omega
      have e7 : FD n (fun i => if i ∈ w :: W ∧ v i < v k then some k else f i) = FD n f := FD_ext fun i hi => by
        rw [if_neg]
        rintro ⟨q, r⟩
        rcases List.mem_cons.mp q with rfl | q
        · exact h r
        · exact hall i q r
      have e8 : (w :: W).filter (fun i => decide (v k ≤ v i)) = w :: W := by
        rw [List.filter_eq_self]
        intro i hi
        rcases List.mem_cons.mp hi with rfl | q
        · simp; omega
        · have := hall i q; simp; omega
      rw [e7, e8]
      generalize il (iN (w :: W)) = A at *
      generalize FD n f = B at *
      generalize rowD n v = C at *
      exact sWhile_end (by simp [l2c_hidden_by, e1, e2, e5, h])
theorem hid_turn (n k : Nat) (v : Nat → Int) (hk : k < n) (hn : n ≤ 1000) :
    l3b_hidden_by [.d (.tuple (rowD n v)), .d (.int (v k)), .own false (FD n (due v k)), .own false (il (iN (wait v k))), .d (.int (k : Int))] =
      .ok ([.d (.tuple (rowD n v)), .d (.int (v k)), .own false (FD n (due v (k + 1))), .own false (il (iN (wait v (k + 1)))), .d (.int (k : Int))], .nx) := by
  have e := hid_while n k v hk hn (wait v k) (due v k) (fun w hw => by have := (mem_wait.mp hw).1; omega) (wait_up v k)
  have e1 : FD n (fun i => if i ∈ wait v k ∧ v i < v k then some k else due v k i) = FD n (due v (k + 1)) := FD_ext fun i hi => by
    rw [due_succ]
    simp only [mem_wait]
    cases q : due v k i with
    | none => by_cases h1 : i < k <;> by_cases h2 : v i < v k <;> simp [h1, h2]
    | some j => simp
  have e2 : il (iN (wait v (k + 1))) = il (iN ((wait v k).filter fun i => decide (v k ≤ v i))) ++ [.int (k : Int)] := by
    rw [wait_succ]; exact il_cons _ _
  rw [e1] at e
  have hl : (il (iN ((wait v k).filter fun i => decide (v k ≤ v i)))).length < 16777216 := by
    have h1 : ((wait v k).filter fun i => decide (v k ≤ v i)).length ≤ (wait v k).length := List.length_filter_le _ _
    have h2 : (wait v k).length ≤ k := by
      unfold wait
      rw [List.length_reverse]
      have := List.length_filter_le (fun i => (due v k i).isNone) (List.range k)
      rwa [List.length_range] at this
    rw [il_len, List.length_map]; omega
  rw [e2]
  generalize il (iN ((wait v k).filter fun i => decide (v k ≤ v i))) = A at *
  generalize il (iN (wait v k)) = A2 at *
  generalize FD n (due v k) = B at *
  generalize FD n (due v (k + 1)) = B2 at *
  generalize rowD n v = C at *
  simp [l3b_hidden_by, e, hl]
theorem hid_check (n : Nat) (v : Nat → Int) (x : D) (s2 s3 s4 : Sl) : ∃ t1, l1_hidden_by [.d (.tuple (rowD n v)), .un, s2, s3, s4] = .ok ([.d (.tuple (rowD n v)), t1, s2, s3, s4], .nx) := by
  obtain ⟨t1, e⟩ := forL_same (g := gN 1) (b := l1b_hidden_by) (fun t : Sl => [.d (.tuple (rowD n v)), t, s2, s3, s4]) (rowD n v) .un fun x hx t => by
    obtain ⟨i, hi, rfl⟩ := List.mem_map.mp hx
    exact ⟨_, .d (.int (v i)), rfl, by simp [l1b_hidden_by, m_check_number, b_check_number, is_integer_int]⟩
  refine ⟨t1, ?_⟩
  unfold l1_hidden_by sFor
  simp [e]
theorem hidden_ok (n : Nat) (v : Nat → Int) (hn : n ≤ 1000) : m_hidden_by [.d (.tuple (rowD n v))] = .ok ([.d (.tuple (rowD n v))], .f (FD n (due v n))) := by
  obtain ⟨t1, e1⟩ := hid_check n v .none .un .un .un
  have key : ∀ (m k : Nat) (t1 t4 : Sl), k + m = n → ∃ u1 u4 A, forL (gTup' (gCons' (gN 4) (gCons' (gN 1) gNil')) 2) l3b_hidden_by ((List.range' k m).map fun i : Nat => PyData.tuple [.int (i : Int), .int (v i)]) [.d (.tuple (rowD n v)), t1, .own false (FD n (due v k)), .own false (il (iN (wait v k))), t4] = .ok ([.d (.tuple (rowD n v)), u1, .own false (FD n (due v n)), .own false A, u4], .nx) := fun m => by
    induction m with
    | zero => intro k t1 t4 h; obtain rfl : k = n := by omega
              exact ⟨t1, t4, _, rfl⟩
    | succ m ih =>
      intro k t1 t4 h
      obtain ⟨u1, u4, A, e⟩ := ih (k + 1) (.d (.int (v k))) (.d (.int (k : Int))) (by omega)
      refine ⟨u1, u4, A, ?_⟩
      rw [List.range'_succ, List.map_cons, forL_nx (Γ1 := [.d (.tuple (rowD n v)), .d (.int (v k)), .own false (FD n (due v k)), .own false (il (iN (wait v k))), .d (.int (k : Int))]) (by simp) (hid_turn n k v (by omega) hn)]
      exact e
  obtain ⟨u1, u4, A, e2⟩ := key n 0 t1 .un (by omega)
  have e3 : l3_hidden_by [.d (.tuple (rowD n v)), t1, .own false (List.replicate n .none), .own false [], .un] = .ok ([.d (.tuple (rowD n v)), u1, .own false (FD n (due v n)), .own false A, u4], .nx) := by
    have h0 : FD n (due v 0) = List.replicate n .none := by
      apply List.ext_getElem (by simp [FD])
      intro i h1 h2
      simp [FD, due, oD]
    have h1 : il (iN (wait v 0)) = [] := by simp [wait, il]
    rw [h0, h1, ← List.range_eq_range', ← numb_row] at e2
    unfold l3_hidden_by sFor
    have := (Sq.en (x := .tuple (rowD n v)) (.inr rfl) : _)
    simp [this, e2]
  have m0 : okB (([PyData.none].length) * n ≤ sizeLine ∧ -(2 ^ 63) ≤ (n : Int) ∧ (n : Int) < 2 ^ 63) = true := okB_of ⟨by simp [sizeLine]; omega, by omega, by omega⟩
  have e4 : mulG (.list [.none]) (.int n) = .ok (.f (List.replicate n .none)) := by
    simp only [mulG, Int.toNat_natCast]
    rw [if_pos m0]
    simp
  have e5 := rowD_len n v
  generalize rowD n v = C at *
  generalize FD n (due v n) = B at *
  generalize List.replicate n PyData.none = Z at *
  simp [m_hidden_by, b_hidden_by, e1, e3, e4, e5]
/-! ### what the law reckons -/
theorem rngD_from (n i : Nat) : rangeD ((i : Int) + 1) (((n : Int) - ((i : Int) + 1)).toNat) = ((List.range' (i + 1) (n - (i + 1))).map fun j : Nat => PyData.int (j : Int)) := by
  unfold rangeD
  have : ((n : Int) - ((i : Int) + 1)).toNat = n - (i + 1) := by omega
  rw [this]
  apply List.ext_getElem (by simp)
  intro j h1 h2
  simp
theorem due_from (v : Nat → Int) {n i : Nat} (hi : i < n) : ((List.range' (i + 1) (n - (i + 1))).filter fun j => decide (v i < v j)).head? = due v n i := by
  unfold due
  have h : List.range n = List.range (i + 1) ++ List.range' (i + 1) (n - (i + 1)) := by
    have h := @List.range'_append_1 0 (i + 1) (n - (i + 1))
    rw [show i + 1 + (n - (i + 1)) = n by omega, Nat.zero_add] at h
    rw [List.range_eq_range', List.range_eq_range', h]
  rw [h, List.filter_append]
  have h1 : (List.range (i + 1)).filter (fun j => decide (i < j ∧ v i < v j)) = [] := by
    rw [List.filter_eq_nil_iff]
    intro j hj
    have := List.mem_range.mp hj
    simp; omega
  rw [h1, List.nil_append]
  congr 1
  apply List.filter_congr
  intro j hj
  have := (List.mem_range'_1.mp hj).1
  have : i < j := by omega
  simp [this]
theorem head_none (L : List Nat) : atI ((L.map fun j : Nat => PyData.int (j : Int)) ++ [.none]) 0 = some (oD L.head?) := by
  cases L with
  | nil => exact atI_nat (j := 0) rfl
  | cons a L => exact atI_nat (j := 0) rfl
theorem due_turn (n i : Nat) (v : Nat → Int) (hi : i < n) (hn : n ≤ 1000) (A : List D) (hA : A.length ≤ 1000) (s4 : Sl) : ∃ u4, l2b__law_due_k44 [.d (.list (rowD n v)), .own false A, .d (.int (i : Int)), .d (.int (v i)), s4, .un] =
    .ok ([.d (.list (rowD n v)), .own false (A ++ [oD (due v n i)]), .d (.int (i : Int)), .d (.int (v i)), u4, .un], .nx) := by
  have e1 : l1__law_due_k44 [.d (.list (rowD n v)), .own false A, .d (.int (i : Int)), .d (.int (v i)), s4, .un] = .ok ([.d (.list (rowD n v)), .own false A, .d (.int (i : Int)), .d (.int (v i)), s4, .un], .f (((List.range' (i + 1) (n - (i + 1))).filter fun j => decide (v i < v j)).map fun j : Nat => PyData.int (j : Int))) := by
    refine sLc_filt (fun j : Nat => PyData.int (j : Int)) (fun j : Nat => PyData.int (j : Int)) (fun j => decide (v i < v j)) ?_ rfl ?_ (by simp; omega)
    · have e := rngD_from n i
      have h := rowD_len n v
      have r := z_rng2 (i := (i : Int) + 1) (j := (n : Int)) (by omega) (by omega) (by omega) (by omega)
      generalize rowD n v = C at *
      simp [h, r, e]
    · intro j hj
      have hj := List.mem_range'_1.mp hj
      have e2 := rowD_at (n := n) (v := v) (i := j) (by omega)
      generalize rowD n v = C at *
      exact ⟨[.d (.list C), .own false A, .d (.int (i : Int)), .d (.int (v i)), s4, .d (.int (j : Int))], rfl, by simp [e2], by simp, rfl⟩
  have e2 := head_none ((List.range' (i + 1) (n - (i + 1))).filter fun j => decide (v i < v j))
  rw [due_from v hi] at e2
  have hl : (((List.range' (i + 1) (n - (i + 1))).filter fun j => decide (v i < v j)).map fun j : Nat => PyData.int (j : Int)).length ≤ 1000 := by
    rw [List.length_map]
    exact Nat.le_trans (List.length_filter_le _ _) (by rw [List.length_range']; omega)
  generalize (((List.range' (i + 1) (n - (i + 1))).filter fun j => decide (v i < v j)).map fun j : Nat => PyData.int (j : Int)) = L at *
  have h1 : L.length + 1 ≤ 16777216 := by omega
  have h2 : A.length < 16777216 := by omega
  generalize rowD n v = C at *
  exact ⟨.d (.list L), by simp [l2b__law_due_k44, e1, e2, h1, h2]⟩
theorem due_ok (n : Nat) (v : Nat → Int) (hn : n ≤ 1000) : m__law_due_k44 [.d (.list (rowD n v))] = .ok ([.d (.list (rowD n v))], .f (FD n (due v n))) := by
  have key : ∀ (m k : Nat) (t2 t3 t4 : Sl), k + m = n → ∃ u2 u3 u4, forL (gTup' (gCons' (gN 2) (gCons' (gN 3) gNil')) 2) l2b__law_due_k44 ((List.range' k m).map fun i : Nat => PyData.tuple [.int (i : Int), .int (v i)]) [.d (.list (rowD n v)), .own false ((List.range k).map fun i => oD (due v n i)), t2, t3, t4, .un] = .ok ([.d (.list (rowD n v)), .own false (FD n (due v n)), u2, u3, u4, .un], .nx) := fun m => by
    induction m with
    | zero => intro k t2 t3 t4 h; obtain rfl : k = n := by omega
              exact ⟨t2, t3, t4, rfl⟩
    | succ m ih =>
      intro k t2 t3 t4 h
      obtain ⟨v4, e1⟩ := due_turn n k v (by omega) hn ((List.range k).map fun i => oD (due v n i)) (by simp; omega) t4
      obtain ⟨u2, u3, u4, e⟩ := ih (k + 1) (.d (.int (k : Int))) (.d (.int (v k))) v4 (by omega)
      refine ⟨u2, u3, u4, ?_⟩
      rw [List.range_succ, List.map_append] at e
      rw [List.range'_succ, List.map_cons, forL_nx (Γ1 := [.d (.list (rowD n v)), .own false ((List.range k).map fun i => oD (due v n i)), .d (.int (k : Int)), .d (.int (v k)), t4, .un]) (by simp) e1]
      exact e
  obtain ⟨u2, u3, u4, e2⟩ := key n 0 .un .un .un (by omega)
  have e3 : l2__law_due_k44 [.d (.list (rowD n v)), .own false [], .un, .un, .un, .un] = .ok ([.d (.list (rowD n v)), .own false (FD n (due v n)), u2, u3, u4, .un], .nx) := by
    rw [← List.range_eq_range', ← numb_row] at e2
    have e2 : forL (gTup' (gCons' (gN 2) (gCons' (gN 3) gNil')) 2) l2b__law_due_k44 (numb 0 (rowD n v)) [.d (.list (rowD n v)), .own false [], .un, .un, .un, .un] = _ := e2
    unfold l2__law_due_k44 sFor
    have := (Sq.en (x := .list (rowD n v)) (.inl rfl) : _)
    simp [this, e2]
  generalize rowD n v = C at *
  generalize FD n (due v n) = B at *
  simp [m__law_due_k44, b__law_due_k44, e3]
/-- a list of numbers as a row -/
theorem row_of (L : List Int) : L.map PyData.int = rowD L.length fun i => L.getD i 0 := by
  apply List.ext_getElem (by simp [rowD])
  intro i h1 h2
  rw [List.length_map] at h1
  simp [rowD, h1]
@[simp] theorem at_3 {a b c d : D} {xs : List D} : atI (a :: b :: c :: d :: xs) 3 = some d := atI_nat (j := 3) rfl
@[simp] theorem at_4 {a b c d e : D} {xs : List D} : atI (a :: b :: c :: d :: e :: xs) 4 = some e := atI_nat (j := 4) rfl
@[simp] theorem at_5 {a b c d e f : D} {xs : List D} : atI (a :: b :: c :: d :: e :: f :: xs) 5 = some f := atI_nat (j := 5) rfl
theorem hid_calls (xs : List D) (h : xs.length ≤ 6) (hx : xs.length = 1 → ∃ i, xs = [.int i]) {r : Res R} (e : m_hidden_by [.d (.tuple xs)] = r.bind fun r => .ok ([.d (.tuple xs)], r)) : m__law_hidden [.d (.list xs)] = r.bind fun r => .ok ([.d (.list xs)], r) := by
  match xs, h with
  | [], _ =>
    have e1 : eqS (.list []) (.list []) = .ok (.d (.bool true)) := eqS_same (by simp)
    cases r <;> simp at e <;> simp [m__law_hidden, b__law_hidden, e, e1]
  | [a], _ =>
    obtain ⟨i, h1⟩ := hx rfl
    cases h1
    have e1 : eqS (.list [.int i]) (.list []) = .ok (.d (.bool false)) := eqS_fl (p := False) (by simp) (by simp) (by simp)
    cases r <;> simp at e <;> simp [m__law_hidden, b__law_hidden, e, e1]
  | [a, b], _ => cases r <;> simp at e <;> simp [m__law_hidden, b__law_hidden, e]
  | [a, b, c], _ => cases r <;> simp at e <;> simp [m__law_hidden, b__law_hidden, e]
  | [a, b, c, d], _ => cases r <;> simp at e <;> simp [m__law_hidden, b__law_hidden, e]
  | [a, b, c, d, f], _ => cases r <;> simp at e <;> simp [m__law_hidden, b__law_hidden, e]
  | [a, b, c, d, f, g], _ => cases r <;> simp at e <;> simp [m__law_hidden, b__law_hidden, e]
  | a :: b :: c :: d :: f :: g :: z :: xs, h => simp at h
/-! ### what the law draws -/
theorem pool40_ok (ns : List Int) (k : Nat) (hk : k < 64) : ∃ p : Pool, m__law_pool_k40 [.scr ns, .d (.int k)] = .ok ([.scr ns, .d (.int k)], .f (pl p)) := by
  have mk : mulOk 7919 (k : Int) = true := mul_small (by omega) (by omega)
  have mk2 : mulOk (7919 * (k : Int)) (k : Int) = true := mul_small (by omega) (by omega)
  have mk3 : mulOk 31 (k : Int) = true := mul_small (by omega) (by omega)
  have mb := fun i : Int => by
    obtain ⟨a, b⟩ := emod_b i (n := 2147483647) (by decide)
    exact mul_small (i := i % 2147483647) (j := i % 2147483647) (by omega) (by omega)
  have mc := fun i : Int => mul_small (i := i) (j := 48271) (by decide) (by decide)
  have m01 : ∀ (i : Int) (p : Prop) [Decidable p], mulOk i (if p then 1 else 0) = true := fun i p _ => by split <;> exact mul_small (by decide) (by decide)
  have key : ∀ c : Int, ∃ p : Pool, (sSeq (sSet 3 (sBin modG (sPub (sBin mulG (sPub (sBin addG (sPub (sBin addG (sPub (sBin addG (sPub (sBin modG (sName 2) (sC (.int 2147483629)))) (sPub (sBin mulG (sPub (sBin mulG (sC (.int 7919)) (sName 1))) (sName 1))))) (sPub (sBin mulG (sC (.int 31)) (sName 1))))) (sC (.int 17)))) (sC (.int 48271)))) (sC (.int 2147483647))))
      (sRet (sLst (sCons (sPub (sBin mulG (sName 2) (sPub (sUn intG (sPub (sBin geG (sName 2) (sPub (sBin powG (sC (.int 10)) (sC (.int 18)))))))))) (sCons (sPub (sBin modG (sPub (sBin mulG (sName 3) (sName 3))) (sC (.int 2147483629)))) sNil))))) [.scr ns, .d (.int k), .d (.int c), .un]
      = .ok ([.scr ns, .d (.int k), .d (.int c), .d (.int ((c % 2147483629 + 7919 * k * k + 31 * k + 17) * 48271 % 2147483647))], .rt (.f (pl p))) := fun c => by
    refine ⟨(c * (if 1000000000000000000 ≤ c then 1 else 0), (c % 2147483629 + 7919 * k * k + 31 * k + 17) * 48271 % 2147483647 * ((c % 2147483629 + 7919 * k * k + 31 * k + 17) * 48271 % 2147483647) % 2147483629), ?_⟩
    simp [mk, mk2, mk3, mb, mc, m01, pl]
  by_cases hl : k < ns.length
  · have hl' : (k : Int) < (ns.length : Int) := by omega
    have e : atI ns (k : Int) = some ns[k] := atI_nat (List.getElem?_eq_getElem hl)
    obtain ⟨p, e1⟩ := key (if ns[k] < 0 then -ns[k] else ns[k])
    refine ⟨p, ?_⟩
    unfold m__law_pool_k40 b__law_pool_k40
    generalize (sSeq (sSet 3 (sBin modG _ _)) _) = T at e1 ⊢
    simp [sLenScr, sIxScr, hl', e, e1]
  · have hl' : ¬ (k : Int) < (ns.length : Int) := by omega
    obtain ⟨p, e1⟩ := key 0
    refine ⟨p, ?_⟩
    unfold m__law_pool_k40 b__law_pool_k40
    generalize (sSeq (sSet 3 (sBin modG _ _)) _) = T at e1 ⊢
    simp [sLenScr, sIxScr, hl', e1]
theorem at_ints (L : List Int) {v : Int} (h0 : 0 ≤ v) (h1 : v < L.length) : ∃ z, z ∈ L ∧ atI (L.map PyData.int) v = some (.int z) := by
  obtain ⟨k, rfl⟩ := Int.eq_ofNat_of_zero_le h0
  have hk : k < L.length := by omega
  exact ⟨L[k], List.getElem_mem hk, atI_nat (by simp [hk])⟩
theorem numbers_ok (p : Pool) (many : Nat) (hm : many ≤ 900) : ∃ (q : Pool) (L : List Int), m__law_numbers [.own true (pl p), .d (.int many)] = .ok ([.own true (pl q), .d (.int many)], .f (L.map .int)) ∧ L.length = many := by
  have t1 := take_ok p (n := 6) (by decide) (by decide)
  obtain ⟨a0, a1⟩ := tv_lt p (n := 6) (by decide)
  obtain ⟨z, -, e1⟩ := at_ints [-1000000000000000000000000000000, -50, -3, 0, 7, 1000000000000000000] a0 (by simpa using a1)
  simp only [List.map_cons, List.map_nil] at e1
  generalize tv p 6 = v6 at *
  generalize nx p 6 = p6 at *
  obtain ⟨G, e, q, L, y, x4, rfl, hL⟩ := forL_all (g := gN 4) (b := l1b__law_numbers) (xs := rangeD 0 many) (Γ := [.own true (pl p6), .d (.int many), .d (.int z), .own false [], .un])
    (fun i Γ => ∃ (q : Pool) (L : List Int) (y : Int) (x4 : Sl), Γ = [.own true (pl q), .d (.int many), .d (.int y), .own false (L.map .int), x4] ∧ L.length = i)
    ⟨_, [], _, _, rfl, rfl⟩ (fun i x Γ hi ⟨q, L, y, x4, hΓ, hL⟩ => by
      subst hΓ
      have hi' : i < many := by
        have := (List.getElem?_eq_some_iff.mp hi).1
        rwa [rangeD_length] at this
      have t3 := take_ok q (n := 3) (by decide) (by decide)
      obtain ⟨b0, b1⟩ := tv_lt q (n := 3) (by decide)
      obtain ⟨w, e3, c, rfl, c1, c2⟩ := three (P := fun y => ∃ c : Int, y = .int c ∧ 0 < c ∧ c < 10) (a := .int 1) (b := .int 2) (c := .int 9) b0 b1 ⟨1, rfl, by decide, by decide⟩ ⟨2, rfl, by decide, by decide⟩ ⟨9, rfl, by decide, by decide⟩
      have t4 := take_ok (nx q 3) (n := c) c1 (by
        have : (2 : Int) ^ 10 ≤ 2 ^ 4000 := by decide +kernel
        omega)
      have hl : L.length < 16777216 := by omega
      refine ⟨_, _, rfl, ?_, nx (nx q 3) c, L ++ [y + 1 + tv (nx q 3) c], y + 1 + tv (nx q 3) c, .d x, rfl, by simp [hL]⟩
      rw [List.map_append]
      simp [l1b__law_numbers, t3, e3, t4, hl])
  rw [rangeD_length] at hL
  refine ⟨q, L, ?_, hL⟩
  have hl : l1__law_numbers [.own true (pl p6), .d (.int many), .d (.int z), .own false [], .un] = .ok ([.own true (pl q), .d (.int many), .d (.int y), .own false (L.map .int), x4], .nx) := by
    have r1 := z_rng1 (k := many) (by omega) (by omega)
    unfold l1__law_numbers sFor
    simp [r1]
    exact e
  generalize L.map PyData.int = A at *
  simp [m__law_numbers, b__law_numbers, t1, e1, hl]
theorem row44_ok (p : Pool) (most : Nat) (hm : most ≤ 900) : ∃ (q : Pool) (L : List Int), m__law_row_k44 [.own true (pl p), .d (.int most)] = .ok ([.own true (pl q), .d (.int most)], .f (L.map .int)) ∧ L.length ≤ most := by
  have t1 := take_ok p (n := 6) (by decide) (by decide)
  obtain ⟨a0, a1⟩ := tv_lt p (n := 6) (by decide)
  obtain ⟨m, hm1⟩ : ∃ m : Nat, 1 + tv p 6 = (m : Int) := ⟨(1 + tv p 6).toNat, by omega⟩
  obtain ⟨p2, N, e1, hN⟩ := numbers_ok (nx p 6) m (by omega)
  have t2 := take_ok p2 (n := (most : Int) + 1) (by omega) (by
    have : (2 : Int) ^ 10 ≤ 2 ^ 4000 := by decide +kernel
    omega)
  obtain ⟨b0, b1⟩ := tv_lt p2 (n := (most : Int) + 1) (by omega)
  have hk : (tv p2 ((most : Int) + 1)).toNat ≤ most := by omega
  have r1 := z_rng1 (k := tv p2 ((most : Int) + 1)) (by omega) (by omega)
  have hNl : (N.map PyData.int).length = m := by simp [hN]
  have hat : ∀ v : Int, 0 ≤ v → v < m → ∃ z, atI (N.map PyData.int) v = some (.int z) := fun v h0 h1 => by
    obtain ⟨z, -, e⟩ := at_ints N h0 (by omega)
    exact ⟨z, e⟩
  generalize N.map PyData.int = A at *
  obtain ⟨Γ2, ys, e, ⟨q, s2, rfl, h2⟩, hlen, hy⟩ := sLc_inv (it := sItA rng1 (sCons (sPub (callS m__law_take [some 0, none] (sRef 0 (sCons (sPub (sBin addG (sName 1) (sC (.int 1)))) sNil)))) sNil)) (g := gN 3) (te := sPub (sBin ixG (sName 2) (sPub (callS m__law_take [some 0, none] (sRef 0 (sCons (sPub (sUn lenG (sName 2))) sNil))))))
    (vs := [3]) (Γ := [.own true (pl p2), .d (.int most), .own false A, .un]) (Γ1 := [.own true (pl (nx p2 ((most : Int) + 1))), .d (.int most), .own false A, .un]) (xs := rangeD 0 (tv p2 ((most : Int) + 1)).toNat)
    (fun Γ => ∃ (q : Pool) (s2 : Sl), Γ = [.own true (pl q), .d (.int most), s2, .un] ∧ (s2 = .own false A ∨ s2 = .d (.list A))) (fun y => ∃ n : Int, y = .int n) (by simp [t2, r1]) rfl ⟨_, _, rfl, .inl rfl⟩ (by rw [rangeD_length]; omega) (fun x hx Γ hΓ => by
      obtain ⟨q, s2, rfl, h2⟩ := hΓ
      have t3 := take_ok q (n := (m : Int)) (by omega) (by
        have : (2 : Int) ^ 10 ≤ 2 ^ 4000 := by decide +kernel
        omega)
      obtain ⟨c0, c1⟩ := tv_lt q (n := (m : Int)) (by omega)
      obtain ⟨z, e3⟩ := hat _ c0 c1
      exact ⟨_, [.own true (pl (nx q m)), .d (.int most), .d (.list A), .d x], .int z, rfl, by rcases h2 with rfl | rfl <;> simp [t3, e3, hNl], ⟨_, _, rfl, .inr rfl⟩, _, rfl⟩)
  obtain ⟨L, rfl, -⟩ := pick (f := PyData.int) (P := fun _ => True) (fun y hy' => by obtain ⟨n, e⟩ := hy y hy'; exact ⟨n, e, trivial⟩)
  rw [rangeD_length, List.length_map] at hlen
  have e : l1__law_row_k44 [.own true (pl p2), .d (.int most), .own false A, .un] = .ok ([.own true (pl q), .d (.int most), s2, .un], .f (L.map .int)) := e
  refine ⟨q, L, ?_, by omega⟩
  generalize L.map PyData.int = B at *
  rcases h2 with rfl | rfl <;> simp [m__law_row_k44, b__law_row_k44, t1, hm1, e1, e]
/-! ### what is refused -/
theorem forL_exc {g : D → Ga → Option Ga} {b : Ga → Res (Ga × Fl)} {x : D} {xs : List D} {Γ Γ1 : Ga} {c : Str} {y : D} (h1 : g x Γ = some Γ1) (h2 : b Γ1 = .exc c y) : forL g b (x :: xs) Γ = .exc c y := by
  rw [forL, h1]
  simp [h2]
theorem hid_bad (o : D) (h : m_is_integer [.d o] = .ok ([.d o], .d (.bool false))) (r : List D) (L : List Int) : m_hidden_by [.d (.tuple (L.map .int ++ o :: r))] = .exc "InvalidNumber" o := by
  have key : ∀ (L : List Int) (x : D) (t : Sl), forL (gN 1) l1b_hidden_by (L.map .int ++ o :: r) [.d x, t, .un, .un, .un] = .exc "InvalidNumber" o := fun L => by
    induction L with
    | nil =>
      intro x t
      exact forL_exc (Γ1 := [.d x, .d o, .un, .un, .un]) rfl (by simp [l1b_hidden_by, m_check_number, b_check_number, h])
    | cons n L ih =>
      intro x t
      rw [List.map_cons, List.cons_append, forL_nx (Γ1 := [.d x, .d (.int n), .un, .un, .un]) (Γ2 := [.d x, .d (.int n), .un, .un, .un]) rfl (by simp [l1b_hidden_by, m_check_number, b_check_number, is_integer_int])]
      exact ih x _
  have e : l1_hidden_by [.d (.tuple (L.map .int ++ o :: r)), .un, .un, .un, .un] = .exc "InvalidNumber" o := by
    have := key L (.tuple (L.map .int ++ o :: r)) .un
    unfold l1_hidden_by sFor
    generalize L.map PyData.int ++ o :: r = A at *
    simp [this]
  generalize L.map PyData.int ++ o :: r = A at *
  simp [m_hidden_by, b_hidden_by, e]
theorem refused44 (o z : D) (h : m_is_integer [.d o] = .ok ([.d o], .d (.bool false))) (hz : reprG o = .ok (.d z)) (r : List D) (L : List Int) (h1 : L.length + r.length + 1 ≤ 6) (h2 : 1 ≤ r.length) :
    m__law_refused_k44 [.d (.list (L.map .int ++ o :: r))] = .ok ([.d (.list (L.map .int ++ o :: r))], .d z) := by
  have e := hid_calls (L.map .int ++ o :: r) (by simp; omega) (by simp; omega) (r := .exc "InvalidNumber" o) (hid_bad o h r L)
  generalize L.map PyData.int ++ o :: r = A at *
  simp [m__law_refused_k44, b__law_refused_k44, e, hz]
theorem dozen_ok (v : Nat → Int) : m__law_dozen_right [.d (.list (rowD 12 v))] = .ok ([.d (.list (rowD 12 v))], .d (.bool true)) := by
  have e1 : m_hidden_by [.d (.tuple [.int (v 0), .int (v 1), .int (v 2), .int (v 3), .int (v 4), .int (v 5), .int (v 6), .int (v 7), .int (v 8), .int (v 9), .int (v 10), .int (v 11)])] = .ok ([.d (.tuple [.int (v 0), .int (v 1), .int (v 2), .int (v 3), .int (v 4), .int (v 5), .int (v 6), .int (v 7), .int (v 8), .int (v 9), .int (v 10), .int (v 11)])], .f (FD 12 (due v 12))) := hidden_ok 12 v (by decide)
  have e2 := due_ok 12 v (by decide)
  have e3 : eqS (.list (FD 12 (due v 12))) (.list (FD 12 (due v 12))) = .ok (.d (.bool true)) := eqS_same (by
    rw [fl_lst]; exact flAll_map fun x hx => fl_oD)
  have a0 := rowD_at (n := 12) (v := v) (i := 0) (by decide)
  have a1 := rowD_at (n := 12) (v := v) (i := 1) (by decide)
  have a2 := rowD_at (n := 12) (v := v) (i := 2) (by decide)
  have a3 := rowD_at (n := 12) (v := v) (i := 3) (by decide)
  have a4 := rowD_at (n := 12) (v := v) (i := 4) (by decide)
  have a5 := rowD_at (n := 12) (v := v) (i := 5) (by decide)
  have a6 := rowD_at (n := 12) (v := v) (i := 6) (by decide)
  have a7 := rowD_at (n := 12) (v := v) (i := 7) (by decide)
  have a8 := rowD_at (n := 12) (v := v) (i := 8) (by decide)
  have a9 := rowD_at (n := 12) (v := v) (i := 9) (by decide)
  have a10 := rowD_at (n := 12) (v := v) (i := 10) (by decide)
  have a11 := rowD_at (n := 12) (v := v) (i := 11) (by decide)
  generalize FD 12 (due v 12) = B at *
  generalize rowD 12 v = C at *
  simp only [Int.cast_ofNat_Int, Int.ofNat_eq_natCast, Int.natCast_zero, Int.natCast_one] at a0 a1 a2 a3 a4 a5 a6 a7 a8 a9 a10 a11
  simp [m__law_dozen_right, b__law_dozen_right, e1, e2, e3, a0, a1, a2, a3, a4, a5, a6, a7, a8, a9, a10, a11]
/-! ### the law -/
theorem sLc_invW {it : Ga → Res (Ga × List D)} {g : D → Ga → Option Ga} {te : Ga → Res (Ga × D)} {vs : List Nat} {Γ Γ1 Γw : Ga} {xs : List D} (St : Ga → Prop) (P : D → Prop) (hit : it Γ = .ok (Γ1, xs)) (hw : wipeG Γ1 vs = Γw) (h0 : St Γw) (hl : xs.length ≤ 16777216)
    (hs : ∀ x ∈ xs, ∀ Γ, St Γ → ∃ Γ1 Γ2 y, g x Γ = some Γ1 ∧ te Γ1 = .ok (Γ2, y) ∧ St (wipeG Γ2 vs) ∧ P y) : ∃ Γ' ys, sLc it g sYes te vs Γ = .ok (unwipe Γ1 Γ' vs, .f ys) ∧ St Γ' ∧ ys.length = xs.length ∧ ∀ y ∈ ys, P y := by
  obtain ⟨Γ', ys, e, a, b, c⟩ := lcL_inv St P xs Γw h0 hs
  refine ⟨Γ', ys, ?_, a, b, c⟩
  unfold sLc
  rw [hit]
  simp only [bind_ok, hw, e, z_szle, b, if_pos hl]
theorem hid44 (L : List Int) (hL : L.length ≤ 6) : ∃ B, m__law_hidden [.d (.list (L.map .int))] = .ok ([.d (.list (L.map .int))], .f B) ∧ m__law_due_k44 [.d (.list (L.map .int))] = .ok ([.d (.list (L.map .int))], .f B) ∧ flAll 59 B = true ∧ B.length ≤ 6 := by
  refine ⟨FD L.length (due (fun i => L.getD i 0) L.length), ?_, ?_, flAll_map fun x hx => fl_oD, by rw [FD_len]; exact hL⟩
  · refine hid_calls (L.map .int) (by simpa using hL) (fun h => ?_) (r := .ok (.f _)) ?_
    · obtain ⟨i, rfl⟩ := List.length_eq_one_iff.mp (by simpa using h : L.length = 1)
      exact ⟨i, rfl⟩
    · rw [row_of L]
      exact hidden_ok _ _ (by omega)
  · rw [row_of L]
    exact due_ok _ _ (by omega)
theorem two44 {g : D → Ga → Option Ga} {b : Ga → Res (Ga × Fl)} {Γ Γ1 Γ2 Γ3 Γ4 : Ga} (h1 : g (.int 0) Γ = some Γ1) (h2 : b Γ1 = .ok (Γ2, .nx)) (h3 : g (.int 1) Γ2 = some Γ3) (h4 : b Γ3 = .ok (Γ4, .nx)) : sFor (sItA rng1 (sCons (sC (.int 2)) sNil)) g b Γ = .ok (Γ4, .nx) := by
  have r1 := z_rng1 (k := 2) (by decide) (by decide)
  have e : forL g b [.int 0, .int 1] Γ = .ok (Γ4, .nx) := by
    rw [forL_nx h1 h2, forL_nx h3 h4]; rfl
  have r2 : rangeD 0 (2 : Int).toNat = [.int 0, .int 1] := rfl
  rw [r2] at r1
  unfold sFor
  simp [r1, e]
theorem law44_b1 (a : Sl) (k : D) (P : Sl) (A B : List D) (s3 : Sl) (hs : s3 = .own false A ∨ s3 = .d (.list A)) (x : D) (t5 t6 t7 : Sl) (e1 : m__law_hidden [.d (.list A)] = .ok ([.d (.list A)], .f B)) (e2 : m__law_due_k44 [.d (.list A)] = .ok ([.d (.list A)], .f B)) (e3 : neS (.list B) (.list B) = .ok (.d (.bool false))) (hl : B.length < 16777216) :
    l1b_law_k44 [a, .d k, P, s3, .d x, t5, t6, t7] = .ok ([a, .d k, P, .d (.list A), .d x, .own false (B ++ [.int 0]), t6, t7], .nx) := by
  rcases hs with rfl | rfl <;> simp [l1b_law_k44, e1, e2, e3, hl]
end Qa
namespace Lk44
open PySem PySem.Spec PyProof.Rows L2 Evl Mi Pg
variable [Tbl]
def topS (i : Nat) : Stmt := PySem.Challenge.pw_skylineeffect_k44_hidden_by.main.body.getD i (.Pass ⟨0, 0, 0, 0⟩)
abbrev st_InvalidNumber : Stmt := clsInit (topS 2)
theorem sc_InvalidNumber : FnScope ["self", "value"] ["self", "value"] (defScope st_InvalidNumber) := ⟨rfl, rfl, rfl, by decide +kernel, rfl, by decide +kernel, by decide +kernel⟩
abbrev st_is_integer : Stmt := topS 4
theorem sc_is_integer : FnScope ["value"] ["value"] (defScope st_is_integer) := ⟨rfl, rfl, rfl, by decide +kernel, rfl, by decide +kernel, by decide +kernel⟩
theorem has_is_integer {P : Program} {w : World} {K : PySem.W.Frag} {mg : Str → Option Value} {base : Heap} {f : Addr} {fd : FuncData} (D : Def K mg "is_integer" st_is_integer ["value"] f fd) (z_bool : mg "bool" = none) (z_int : mg "int" = none) (z_isinstance : mg "isinstance" = none) : Has P w K mg base "is_integer" 1 ["value"] m_is_integer :=
 has_of D sc_is_integer fun cdv A outer s H E hr hq => by
  have hu := hr.units
  have hN := sc_is_integer.nd
  exact (jss_one (js_ret (je_and (je_isi (T := "int") (by decide) rfl z_isinstance rfl rfl z_int rfl (JD.toB (jd_name 0 (pv 0) rfl))) (je_one (je_not (je_isi (T := "bool") (by decide) rfl z_isinstance rfl rfl z_bool rfl (JD.toB (jd_name 0 (pv 0) rfl))))))))
abbrev st__law_pool : Stmt := topS 9
theorem sc__law_pool : FnScope ["_law_script", "_law_k", "_law_cell", "_law_blend"] ["_law_script", "_law_k"] (defScope st__law_pool) := ⟨rfl, rfl, rfl, by decide +kernel, rfl, by decide +kernel, by decide +kernel⟩
theorem has__law_pool {P : Program} {w : World} {K : PySem.W.Frag} {mg : Str → Option Value} {base : Heap} {f : Addr} {fd : FuncData} (D : Def K mg "_law_pool" st__law_pool ["_law_script", "_law_k"] f fd) (z_abs : mg "abs" = none) (z_int : mg "int" = none) (z_len : mg "len" = none) : Has P w K mg base "_law_pool" 1 ["_law_script", "_law_k"] m__law_pool_k40 :=
 has_of D sc__law_pool fun cdv A outer s H E hr hq => by
  have hu := hr.units
  have hN := sc__law_pool.nd
  exact (jss_cons (js_set (i := 2) hN rfl (.inl rfl) (JD.toE jd_int))
 (jss_cons (js_if (jt_cmp opd_lt (jd_name 1 (pv 1) rfl) (JD.toB (JE.toD (je_lenScr (i := 0) rfl z_len rfl (pv 0)))) (nomark _))
 (jss_one (js_set (i := 2) hN rfl (.inl rfl) (je_call1 cd_abs rfl z_abs rfl (JD.toB (JE.toD (je_ixScr (i := 0) (pv 0) (jd_name 1 (pv 1) rfl)))))))
 jss_nil)
 (jss_cons (js_set (i := 3) hN rfl (.inl rfl) (je_bin opd_mod (JE.toD (je_bin opd_mul (JE.toD (je_bin opd_add (JE.toD (je_bin opd_add (JE.toD (je_bin opd_add (JE.toD (je_bin opd_mod (jd_name 2 (pv 2) rfl) (JD.toB jd_int))) (JD.toB (JE.toD (je_bin opd_mul (JE.toD (je_bin opd_mul jd_int (JD.toB (jd_name 1 (pv 1) rfl)))) (JD.toB (jd_name 1 (pv 1) rfl))))))) (JD.toB (JE.toD (je_bin opd_mul jd_int (JD.toB (jd_name 1 (pv 1) rfl))))))) (JD.toB jd_int))) (JD.toB jd_int))) (JD.toB jd_int)))
 (jss_one (js_ret (je_lst (ja_cons (JE.toD (je_bin opd_mul (jd_name 2 (pv 2) rfl) (JD.toB (JE.toD (je_callT1 cd_int rfl z_int rfl (JD.toB (JE.toD (je_cmp opd_ge (jd_name 2 (pv 2) rfl) (JD.toB (JE.toD (je_bin opd_pow jd_int (JD.toB jd_int)))) (nomark _))))))))) (ja_cons (JE.toD (je_bin opd_mod (JE.toD (je_bin opd_mul (jd_name 3 (pv 3) rfl) (JD.toB (jd_name 3 (pv 3) rfl)))) (JD.toB jd_int))) ja_nil))))))))
abbrev st__law_take : Stmt := topS 10
theorem sc__law_take : FnScope ["_law_pool_here", "_law_sides", "_law_found"] ["_law_pool_here", "_law_sides"] (defScope st__law_take) := ⟨rfl, rfl, rfl, by decide +kernel, rfl, by decide +kernel, by decide +kernel⟩
theorem has__law_take {P : Program} {w : World} {K : PySem.W.Frag} {mg : Str → Option Value} {base : Heap} {f : Addr} {fd : FuncData} (D : Def K mg "_law_take" st__law_take ["_law_pool_here", "_law_sides"] f fd)  : Has P w K mg base "_law_take" 1 ["_law_pool_here", "_law_sides"] m__law_take :=
 has_of D sc__law_take fun cdv A outer s H E hr hq => by
  have hu := hr.units
  have hN := sc__law_take.nd
  exact (jss_cons (js_if (jt_cmp opd_gt (JE.toD (je_ixN (i := 0) (pv 0) jd_int)) (JD.toB jd_int) (nomark _))
 (jss_cons (js_set (i := 2) hN rfl (.inl rfl) (je_bin opd_mod (JE.toD (je_ixN (i := 0) (pv 0) jd_int)) (JD.toB (jd_name 1 (pv 1) rfl))))
 (jss_cons (js_put (i := 0) (pv 0) jd_int (JE.toD (je_bin opd_fdiv (JE.toD (je_ixN (i := 0) (pv 0) jd_int)) (JD.toB (jd_name 1 (pv 1) rfl)))))
 (jss_one (js_retName (i := 2) (pv 2)))))
 jss_nil)
 (jss_cons (js_put (i := 0) (pv 0) jd_int (JE.toD (je_bin opd_mod (JE.toD (je_bin opd_add (JE.toD (je_bin opd_mul (JE.toD (je_ixN (i := 0) (pv 0) jd_int)) (JD.toB jd_int))) (JD.toB jd_int))) (JD.toB jd_int))))
 (jss_one (js_ret (je_bin opd_mod (JE.toD (je_bin opd_fdiv (JE.toD (je_bin opd_mod (JE.toD (je_bin opd_mul (JE.toD (je_ixN (i := 0) (pv 0) jd_int)) (JD.toB (JE.toD (je_ixN (i := 0) (pv 0) jd_int))))) (JD.toB jd_int))) (JD.toB jd_int))) (JD.toB (jd_name 1 (pv 1) rfl)))))))
abbrev st__law_due : Stmt := topS 16
theorem sc__law_due : FnScope ["_law_row_here", "_law_found", "_law_at", "_law_number", "_law_later", "_law_spot"] ["_law_row_here"] (defScope st__law_due) := ⟨rfl, rfl, rfl, by decide +kernel, rfl, by decide +kernel, by decide +kernel⟩
theorem has__law_due {P : Program} {w : World} {K : PySem.W.Frag} {mg : Str → Option Value} {base : Heap} {f : Addr} {fd : FuncData} (D : Def K mg "_law_due" st__law_due ["_law_row_here"] f fd) (z_enumerate : mg "enumerate" = none) (z_len : mg "len" = none) (z_range : mg "range" = none) : Has P w K mg base "_law_due" 1 ["_law_row_here"] m__law_due_k44 :=
 has_of D sc__law_due fun cdv A outer s H E hr hq => by
  have hu := hr.units
  have hN := sc__law_due.nd
  exact (jss_cons (js_set (i := 1) hN rfl (.inl rfl) (je_lst ja_nil))
 (jss_cons (js_for (passes_of rfl) rfl (ji_enumA rfl z_enumerate (ja_cons (jd_name 0 (pv 0) rfl) ja_nil)) (jg_tup rfl (jgs_cons (jg_name (i := 2) hN rfl (.inl rfl)) (jgs_cons (jg_name (i := 3) hN rfl (.inr rfl)) jgs_nil)))
 (jss_cons (js_setLc (i := 4) rfl hN rfl rfl (sw_true rfl rfl rfl (by decide +kernel)) (ji_range2 rfl z_range (ja_cons (JE.toD (je_bin opd_add (jd_name 2 (pv 2) rfl) (JD.toB jd_int))) (ja_cons (JE.toD (je_call1 cd_len rfl z_len rfl (JD.toB (jd_name 0 (pv 0) rfl)))) ja_nil))) (own := [(("_law_spot" : Str), 5)]) (blkOk_by (by kernel_rfl)) (fun _ _ _ _ _ => (jgw_name (i := 5) (by decide) hN rfl (.inl rfl))) (fun _ _ _ _ _ => (jts_one (jt_cmp opd_gt (JE.toD (je_ix (jd_name 0 (pv 0) rfl) (jd_name 5 (pv 5) rfl))) (JD.toB (jd_name 3 (pv 3) rfl)) (nomark _)))) (fun _ _ _ _ _ => (jd_name 5 (pv 5) rfl)))
 (jss_one (js_expr (je_append (i := 1) (pv 1) (JE.toD (je_ix (JE.toD (je_bin opd_add (jd_name 4 (pv 4) rfl) (JD.toB (JE.toD (je_lst (ja_cons jd_non ja_nil)))))) jd_int)))))))
 (jss_one (js_retName (i := 1) (pv 1)))))
abbrev st__law_numbers : Stmt := topS 11
theorem sc__law_numbers : FnScope ["_law_pool_here", "_law_many", "_law_number", "_law_found", "_law_turn"] ["_law_pool_here", "_law_many"] (defScope st__law_numbers) := ⟨rfl, rfl, rfl, by decide +kernel, rfl, by decide +kernel, by decide +kernel⟩
theorem has__law_numbers {P : Program} {w : World} {K : PySem.W.Frag} {mg : Str → Option Value} {base : Heap} {f : Addr} {fd : FuncData} (D : Def K mg "_law_numbers" st__law_numbers ["_law_pool_here", "_law_many"] f fd) (H__law_take : Has P w K mg base "_law_take" 1 ["_law_pool_here", "_law_sides"] m__law_take) (z_range : mg "range" = none) : Has P w K mg base "_law_numbers" 2 ["_law_pool_here", "_law_many"] m__law_numbers :=
 has_of D sc__law_numbers fun cdv A outer s H E hr hq => by
  have hu := hr.units
  have hN := sc__law_numbers.nd
  exact (jss_cons (js_set (i := 2) hN rfl (.inl rfl) (je_ix (JE.toD (je_lst (ja_cons (JE.toD (je_neg (JE.toD (je_bin opd_pow jd_int (JD.toB jd_int))))) (ja_cons (JE.toD (je_neg jd_int)) (ja_cons (JE.toD (je_neg jd_int)) (ja_cons jd_int (ja_cons jd_int (ja_cons (JE.toD (je_bin opd_pow jd_int (JD.toB jd_int))) ja_nil)))))))) (JE.toD (je_callH (ks := [some 0, none]) H__law_take hr (by decide) hq rfl (takes_of rfl rfl rfl rfl) (jp_ref (pv 0) (jp_d jd_int jp_nil)) (by decide) rfl))))
 (jss_cons (js_set (i := 3) hN rfl (.inl rfl) (je_lst ja_nil))
 (jss_cons (js_for (passes_of rfl) rfl (ji_range1 rfl z_range (ja_cons (jd_name 1 (pv 1) rfl) ja_nil)) (jg_name (i := 4) hN rfl (.inl rfl))
 (jss_cons (js_set (i := 2) hN rfl (.inl rfl) (je_bin opd_add (JE.toD (je_bin opd_add (jd_name 2 (pv 2) rfl) (JD.toB jd_int))) (JD.toB (JE.toD (je_callH (ks := [some 0, none]) H__law_take hr (by decide) hq rfl (takes_of rfl rfl rfl rfl) (jp_ref (pv 0) (jp_d (JE.toD (je_ix (JE.toD (je_lst (ja_cons jd_int (ja_cons jd_int (ja_cons jd_int ja_nil))))) (JE.toD (je_callH (ks := [some 0, none]) H__law_take hr (by decide) hq rfl (takes_of rfl rfl rfl rfl) (jp_ref (pv 0) (jp_d jd_int jp_nil)) (by decide) rfl)))) jp_nil)) (by decide) rfl)))))
 (jss_one (js_expr (je_append (i := 3) (pv 3) (jd_name 2 (pv 2) rfl))))))
 (jss_one (js_retName (i := 3) (pv 3))))))
abbrev st_check_number : Stmt := topS 5
theorem sc_check_number : FnScope ["value"] ["value"] (defScope st_check_number) := ⟨rfl, rfl, rfl, by decide +kernel, rfl, by decide +kernel, by decide +kernel⟩
theorem has_check_number {P : Program} {w : World} {K : PySem.W.Frag} {mg : Str → Option Value} {base : Heap} {f : Addr} {fd : FuncData} (D : Def K mg "check_number" st_check_number ["value"] f fd) (H_is_integer : Has P w K mg base "is_integer" 1 ["value"] m_is_integer) (H_InvalidNumber : ErrC P w K mg base 1 "InvalidNumber") : Has P w K mg base "check_number" 3 ["value"] m_check_number :=
 has_of D sc_check_number fun cdv A outer s H E hr hq => by
  have hu := hr.units
  have hN := sc_check_number.nd
  exact (jss_one (js_if (jt_not (jt_val (je_callH (ks := [none]) H_is_integer hr (by decide) hq rfl (takes_of rfl rfl rfl rfl) (jp_d (jd_name 0 (pv 0) rfl) jp_nil) (by decide) rfl)))
 (jss_one (js_raise (c := "InvalidNumber") rfl H_InvalidNumber hr (by decide) (takes_of rfl rfl rfl rfl) (fun _ _ _ _ _ _ _ h => h.elim) rfl (jd_name 0 (pv 0) rfl)))
 jss_nil))
abbrev st__law_row : Stmt := topS 13
theorem sc__law_row : FnScope ["_law_pool_here", "_law_most", "_law_numbers_here", "_law_turn"] ["_law_pool_here", "_law_most"] (defScope st__law_row) := ⟨rfl, rfl, rfl, by decide +kernel, rfl, by decide +kernel, by decide +kernel⟩
theorem has__law_row {P : Program} {w : World} {K : PySem.W.Frag} {mg : Str → Option Value} {base : Heap} {f : Addr} {fd : FuncData} (D : Def K mg "_law_row" st__law_row ["_law_pool_here", "_law_most"] f fd) (H__law_numbers : Has P w K mg base "_law_numbers" 2 ["_law_pool_here", "_law_many"] m__law_numbers) (H__law_take : Has P w K mg base "_law_take" 1 ["_law_pool_here", "_law_sides"] m__law_take) (z_len : mg "len" = none) (z_range : mg "range" = none) : Has P w K mg base "_law_row" 3 ["_law_pool_here", "_law_most"] m__law_row_k44 :=
 has_of D sc__law_row fun cdv A outer s H E hr hq => by
  have hu := hr.units
  have hN := sc__law_row.nd
  exact (jss_cons (js_set (i := 2) hN rfl (.inr rfl) (je_callH (ks := [some 0, none]) H__law_numbers hr (by decide) hq rfl (takes_of rfl rfl rfl rfl) (jp_ref (pv 0) (jp_d (JE.toD (je_bin opd_add jd_int (JD.toB (JE.toD (je_callH (ks := [some 0, none]) H__law_take hr (by decide) hq rfl (takes_of rfl rfl rfl rfl) (jp_ref (pv 0) (jp_d jd_int jp_nil)) (by decide) rfl))))) jp_nil)) (by decide) rfl))
 (jss_one (js_ret (je_lc rfl hN (ji_range1 rfl z_range (ja_cons (JE.toD (je_callH (ks := [some 0, none]) H__law_take hr (by decide) hq rfl (takes_of rfl rfl rfl rfl) (jp_ref (pv 0) (jp_d (JE.toD (je_bin opd_add (jd_name 1 (pv 1) rfl) (JD.toB jd_int))) jp_nil)) (by decide) rfl)) ja_nil)) (own := [(("_law_turn" : Str), 3)]) (blkOk_by (by kernel_rfl)) (fun _ _ _ _ _ => (jgw_name (i := 3) (by decide) hN rfl (.inl rfl))) (fun _ _ _ _ _ => jts_nil) (fun _ _ _ _ _ => (JE.toD (je_ix (jd_name 2 (pv 2) rfl) (JE.toD (je_callH (ks := [some 0, none]) H__law_take hr (by decide) hq rfl takes0 (jp_ref (pv 0) (jp_d (JE.toD (je_call1 cd_len rfl z_len rfl (JD.toB (jd_name 2 (pv 2) rfl)))) jp_nil)) (by decide) rfl)))))))))
abbrev st_hidden_by : Stmt := topS 7
theorem sc_hidden_by : FnScope ["numbers", "number", "found", "waiting", "index"] ["numbers"] (defScope st_hidden_by) := ⟨rfl, rfl, rfl, by decide +kernel, rfl, by decide +kernel, by decide +kernel⟩
theorem has_hidden_by {P : Program} {w : World} {K : PySem.W.Frag} {mg : Str → Option Value} {base : Heap} {f : Addr} {fd : FuncData} (D : DefS K mg "hidden_by" st_hidden_by [] "numbers" f fd) (H_check_number : Has P w K mg base "check_number" 3 ["value"] m_check_number) (z_enumerate : mg "enumerate" = none) (z_len : mg "len" = none) : HasS P w K mg base "hidden_by" 4 0 m_hidden_by :=
 hasS_of D sc_hidden_by fun cdv A outer s H E hr hq => by
  have hu := hr.units
  have hN := sc_hidden_by.nd
  exact (jss_cons (js_for (passes_of rfl) rfl (ji_any (jd_name 0 (pv 0) rfl)) (jg_name (i := 1) hN rfl (.inl rfl))
 (jss_one (js_expr (je_callH (ks := [none]) H_check_number hr (by decide) hq rfl (takes_of rfl rfl rfl rfl) (jp_d (jd_name 1 (pv 1) rfl) jp_nil) (by decide) rfl))))
 (jss_cons (js_par2 (i := 2) (j := 3) rfl hN rfl rfl (by decide) rfl rfl (jr_cons (je_bin opd_mul (JE.toD (je_lst (ja_cons jd_non ja_nil))) (JD.toB (JE.toD (je_call1 cd_len rfl z_len rfl (JD.toB (jd_name 0 (pv 0) rfl)))))) (jr_cons (je_lst ja_nil) jr_nil)) (by rfl))
 (jss_cons (js_for (passes_of rfl) rfl (ji_enumA rfl z_enumerate (ja_cons (jd_name 0 (pv 0) rfl) ja_nil)) (jg_tup rfl (jgs_cons (jg_name (i := 4) hN rfl (.inl rfl)) (jgs_cons (jg_name (i := 1) hN rfl (.inl rfl)) jgs_nil)))
 (jss_cons (js_while (passes_of rfl) (JW.t (jw_and (jt_cmpN (i := 3) (opd_neS hu) (pv 3) (JD.toB (JE.toD (je_lst ja_nil))) (nomark _)) (jw_and1 (jt_cmp opd_lt (JE.toD (je_ix (jd_name 0 (pv 0) rfl) (JE.toD (je_ixN (i := 3) (pv 3) (JE.toD (je_neg jd_int)))))) (JD.toB (jd_name 1 (pv 1) rfl)) (nomark _)))))
 (jss_one (js_put (i := 2) (pv 2) (jd_pop (i := 3) (pv 3)) (jd_name 4 (pv 4) rfl))))
 (jss_one (js_expr (je_append (i := 3) (pv 3) (jd_name 4 (pv 4) rfl))))))
 (jss_one (js_retName (i := 2) (pv 2))))))
abbrev st__law_hidden : Stmt := topS 15
theorem sc__law_hidden : FnScope ["_law_row_here"] ["_law_row_here"] (defScope st__law_hidden) := ⟨rfl, rfl, rfl, by decide +kernel, rfl, by decide +kernel, by decide +kernel⟩
theorem has__law_hidden {P : Program} {w : World} {K : PySem.W.Frag} {mg : Str → Option Value} {base : Heap} {f : Addr} {fd : FuncData} (D : Def K mg "_law_hidden" st__law_hidden ["_law_row_here"] f fd) (H_hidden_by : HasS P w K mg base "hidden_by" 4 0 m_hidden_by) (z_len : mg "len" = none) : Has P w K mg base "_law_hidden" 5 ["_law_row_here"] m__law_hidden :=
 has_of D sc__law_hidden fun cdv A outer s H E hr hq => by
  have hu := hr.units
  have hN := sc__law_hidden.nd
  exact (jss_cons (js_if (jt_cmp opd_lt (JE.toD (je_call1 cd_len rfl z_len rfl (JD.toB (jd_name 0 (pv 0) rfl)))) (JD.toB jd_int) (nomark _))
 (jss_one (js_ret (je_if (jt_cmp (opd_eqS hu) (jd_name 0 (pv 0) rfl) (JD.toB (JE.toD (je_lst ja_nil))) (nomark _)) (je_callV0 H_hidden_by hr (by decide) hq rfl (takes_of rfl rfl rfl rfl)) (je_callV H_hidden_by hr (by decide) hq rfl (takes_of rfl rfl rfl rfl) (ja_cons (JE.toD (je_ix (jd_name 0 (pv 0) rfl) jd_int)) ja_nil)))))
 jss_nil)
 (jss_cons (js_if (jt_cmp (opd_eqS hu) (JE.toD (je_call1 cd_len rfl z_len rfl (JD.toB (jd_name 0 (pv 0) rfl)))) (JD.toB jd_int) (nomark _))
 (jss_one (js_ret (je_callV H_hidden_by hr (by decide) hq rfl (takes_of rfl rfl rfl rfl) (ja_cons (JE.toD (je_ix (jd_name 0 (pv 0) rfl) jd_int)) (ja_cons (JE.toD (je_ix (jd_name 0 (pv 0) rfl) jd_int)) ja_nil)))))
 jss_nil)
 (jss_cons (js_if (jt_cmp (opd_eqS hu) (JE.toD (je_call1 cd_len rfl z_len rfl (JD.toB (jd_name 0 (pv 0) rfl)))) (JD.toB jd_int) (nomark _))
 (jss_one (js_ret (je_callV H_hidden_by hr (by decide) hq rfl (takes_of rfl rfl rfl rfl) (ja_cons (JE.toD (je_ix (jd_name 0 (pv 0) rfl) jd_int)) (ja_cons (JE.toD (je_ix (jd_name 0 (pv 0) rfl) jd_int)) (ja_cons (JE.toD (je_ix (jd_name 0 (pv 0) rfl) jd_int)) ja_nil))))))
 jss_nil)
 (jss_cons (js_if (jt_cmp (opd_eqS hu) (JE.toD (je_call1 cd_len rfl z_len rfl (JD.toB (jd_name 0 (pv 0) rfl)))) (JD.toB jd_int) (nomark _))
 (jss_one (js_ret (je_callV H_hidden_by hr (by decide) hq rfl (takes_of rfl rfl rfl rfl) (ja_cons (JE.toD (je_ix (jd_name 0 (pv 0) rfl) jd_int)) (ja_cons (JE.toD (je_ix (jd_name 0 (pv 0) rfl) jd_int)) (ja_cons (JE.toD (je_ix (jd_name 0 (pv 0) rfl) jd_int)) (ja_cons (JE.toD (je_ix (jd_name 0 (pv 0) rfl) jd_int)) ja_nil)))))))
 jss_nil)
 (jss_cons (js_if (jt_cmp (opd_eqS hu) (JE.toD (je_call1 cd_len rfl z_len rfl (JD.toB (jd_name 0 (pv 0) rfl)))) (JD.toB jd_int) (nomark _))
 (jss_one (js_ret (je_callV H_hidden_by hr (by decide) hq rfl (takes_of rfl rfl rfl rfl) (ja_cons (JE.toD (je_ix (jd_name 0 (pv 0) rfl) jd_int)) (ja_cons (JE.toD (je_ix (jd_name 0 (pv 0) rfl) jd_int)) (ja_cons (JE.toD (je_ix (jd_name 0 (pv 0) rfl) jd_int)) (ja_cons (JE.toD (je_ix (jd_name 0 (pv 0) rfl) jd_int)) (ja_cons (JE.toD (je_ix (jd_name 0 (pv 0) rfl) jd_int)) ja_nil))))))))
 jss_nil)
 (jss_one (js_ret (je_callV H_hidden_by hr (by decide) hq rfl (takes_of rfl rfl rfl rfl) (ja_cons (JE.toD (je_ix (jd_name 0 (pv 0) rfl) jd_int)) (ja_cons (JE.toD (je_ix (jd_name 0 (pv 0) rfl) jd_int)) (ja_cons (JE.toD (je_ix (jd_name 0 (pv 0) rfl) jd_int)) (ja_cons (JE.toD (je_ix (jd_name 0 (pv 0) rfl) jd_int)) (ja_cons (JE.toD (je_ix (jd_name 0 (pv 0) rfl) jd_int)) (ja_cons (JE.toD (je_ix (jd_name 0 (pv 0) rfl) jd_int)) ja_nil))))))))))))))
abbrev st__law_dozen_right : Stmt := topS 18
theorem sc__law_dozen_right : FnScope ["_law_row_here", "_law_told"] ["_law_row_here"] (defScope st__law_dozen_right) := ⟨rfl, rfl, rfl, by decide +kernel, rfl, by decide +kernel, by decide +kernel⟩
theorem has__law_dozen_right {P : Program} {w : World} {K : PySem.W.Frag} {mg : Str → Option Value} {base : Heap} {f : Addr} {fd : FuncData} (D : Def K mg "_law_dozen_right" st__law_dozen_right ["_law_row_here"] f fd) (H_hidden_by : HasS P w K mg base "hidden_by" 4 0 m_hidden_by) (H__law_due : Has P w K mg base "_law_due" 1 ["_law_row_here"] m__law_due_k44) : Has P w K mg base "_law_dozen_right" 5 ["_law_row_here"] m__law_dozen_right :=
 has_of D sc__law_dozen_right fun cdv A outer s H E hr hq => by
  have hu := hr.units
  have hN := sc__law_dozen_right.nd
  exact (jss_cons (js_set (i := 1) hN rfl (.inl rfl) (je_callV H_hidden_by hr (by decide) hq rfl (takes_of rfl rfl rfl rfl) (ja_cons (JE.toD (je_ix (jd_name 0 (pv 0) rfl) jd_int)) (ja_cons (JE.toD (je_ix (jd_name 0 (pv 0) rfl) jd_int)) (ja_cons (JE.toD (je_ix (jd_name 0 (pv 0) rfl) jd_int)) (ja_cons (JE.toD (je_ix (jd_name 0 (pv 0) rfl) jd_int)) (ja_cons (JE.toD (je_ix (jd_name 0 (pv 0) rfl) jd_int)) (ja_cons (JE.toD (je_ix (jd_name 0 (pv 0) rfl) jd_int)) (ja_cons (JE.toD (je_ix (jd_name 0 (pv 0) rfl) jd_int)) (ja_cons (JE.toD (je_ix (jd_name 0 (pv 0) rfl) jd_int)) (ja_cons (JE.toD (je_ix (jd_name 0 (pv 0) rfl) jd_int)) (ja_cons (JE.toD (je_ix (jd_name 0 (pv 0) rfl) jd_int)) (ja_cons (JE.toD (je_ix (jd_name 0 (pv 0) rfl) jd_int)) (ja_cons (JE.toD (je_ix (jd_name 0 (pv 0) rfl) jd_int)) ja_nil))))))))))))))
 (jss_one (js_ret (je_cmp (opd_eqS hu) (jd_name 1 (pv 1) rfl) (JD.toB (JE.toD (je_callH (ks := [none]) H__law_due hr (by decide) hq rfl (takes_of rfl rfl rfl rfl) (jp_d (jd_name 0 (pv 0) rfl) jp_nil) (by decide) rfl))) (nomark _)))))
abbrev st__law_refused : Stmt := topS 17
theorem sc__law_refused : FnScope ["_law_row_here", "_law_kept", "e"] ["_law_row_here"] (defScope st__law_refused) := ⟨rfl, rfl, rfl, by decide +kernel, rfl, by decide +kernel, by decide +kernel⟩
theorem has__law_refused {P : Program} {w : World} {K : PySem.W.Frag} {mg : Str → Option Value} {base : Heap} {f : Addr} {fd : FuncData} (D : Def K mg "_law_refused" st__law_refused ["_law_row_here"] f fd) (H__law_hidden : Has P w K mg base "_law_hidden" 5 ["_law_row_here"] m__law_hidden) {A_InvalidNumber : Addr} (n_InvalidNumber : mg "InvalidNumber" = some (.ref A_InvalidNumber)) (hx_InvalidNumber : ∀ c b C, tabE "InvalidNumber" c = some b → mg c = some (.ref C) → PySem.W.exmOne K (.ref C) (.ref A_InvalidNumber) = some b) {A_SkylineError : Addr} (n_SkylineError : mg "SkylineError" = some (.ref A_SkylineError)) (hx_SkylineError : ∀ c b C, tabE "SkylineError" c = some b → mg c = some (.ref C) → PySem.W.exmOne K (.ref C) (.ref A_SkylineError) = some b) (hf_InvalidNumber : ∀ c C, tabE "InvalidNumber" c = some true → mg c = some (.ref C) → fieldOf c = "value" ∧ FldC K C "value") (z_repr : mg "repr" = none) : Has P w K mg base "_law_refused" 6 ["_law_row_here"] m__law_refused_k44 :=
 has_of D sc__law_refused fun cdv A outer s H E hr hq => by
  have hu := hr.units
  have hN := sc__law_refused.nd
  exact (jss_cons (js_set (i := 1) hN rfl (.inl rfl) (JD.toE jd_str))
 (jss_cons (js_tryE1 rfl rfl hN (takes_of rfl rfl rfl rfl) (je_callW (ks := [none]) H__law_hidden hr (by decide) hq rfl (jpw_d (jdu_name (i := 0) fun _ _ => (pv 0)) jpw_nil) (by decide) rfl)
 (cls_named (i := 2) ⟨rfl, by decide, .inl n_InvalidNumber⟩ rfl rfl hx_InvalidNumber (jsn_set (j := 1) (jfe_repr hu hq rfl z_repr hf_InvalidNumber (fun _ _ _ => (pv 2))) hN rfl (.inl rfl))
 (cls_plain ⟨rfl, by decide, .inl n_SkylineError⟩ hx_SkylineError (jsu_setC (j := 1) (fun _ _ _ => pe_str) (fun _ _ => .str _) hN rfl (.inl rfl)) cls_nil)) (fun Y t p => ps_expr p))
 (jss_one (js_retName (i := 1) (pv 1)))))
abbrev st_law : Stmt := topS 19
theorem sc_law : FnScope ["_law_script", "_law_k", "_law_pool_here", "_law_row_here", "_law_turn", "_law_told", "_law_odd", "_law_at"] ["_law_script"] (defScope st_law) := ⟨rfl, rfl, rfl, by decide +kernel, rfl, by decide +kernel, by decide +kernel⟩
theorem fd_law {P : Program} {w : World} {K : PySem.W.Frag} {mg : Str → Option Value} {base : Heap} {f : Addr} {fd : FuncData} (D : Def K mg "law" st_law ["_law_script"] f fd) (H__law_pool : Has P w K mg base "_law_pool" 1 ["_law_script", "_law_k"] m__law_pool_k40) (H__law_row : Has P w K mg base "_law_row" 3 ["_law_pool_here", "_law_most"] m__law_row_k44) (H__law_hidden : Has P w K mg base "_law_hidden" 5 ["_law_row_here"] m__law_hidden) (H__law_due : Has P w K mg base "_law_due" 1 ["_law_row_here"] m__law_due_k44) (H__law_dozen_right : Has P w K mg base "_law_dozen_right" 5 ["_law_row_here"] m__law_dozen_right) (H__law_take : Has P w K mg base "_law_take" 1 ["_law_pool_here", "_law_sides"] m__law_take) (H__law_refused : Has P w K mg base "_law_refused" 6 ["_law_row_here"] m__law_refused_k44) (z_len : mg "len" = none) (z_max : mg "max" = none) (z_min : mg "min" = none) (z_range : mg "range" = none) (z_repr : mg "repr" = none) : FD P w K mg base 7 f fd ["_law_script"] m_law_k44 :=
 fd_of D.fn sc_law fun cdv A outer s H E hr hq => by
  have hu := hr.units
  have hN := sc_law.nd
  exact (jss_cons (js_for (passes_of rfl) rfl (ji_range1 rfl z_range (ja_cons (JE.toD (je_callB (cd_max2 rfl) rfl z_max rfl (ja_cons jd_int (ja_cons (JE.toD (je_callB (cd_min2 rfl) rfl z_min rfl (ja_cons (JE.toD (je_lenScr (i := 0) rfl z_len rfl (pv 0))) (ja_cons jd_int ja_nil)))) ja_nil)))) ja_nil)) (jg_name (i := 1) hN rfl (.inl rfl))
 (jss_cons (js_set (i := 2) hN rfl (.inr rfl) (je_callH (ks := [some 0, none]) H__law_pool hr (by decide) hq rfl (takes_of rfl rfl rfl rfl) (jp_ref (pv 0) (jp_d (jd_name 1 (pv 1) rfl) jp_nil)) (by decide) rfl))
 (jss_cons (js_set (i := 3) hN rfl (.inl rfl) (je_callH (ks := [some 2, none]) H__law_row hr (by decide) hq rfl (takes_of rfl rfl rfl rfl) (jp_ref (pv 2) (jp_d jd_int jp_nil)) (by decide) rfl))
 (jss_cons (js_for (passes_of rfl) rfl (ji_range1 rfl z_range (ja_cons jd_int ja_nil)) (jg_name (i := 4) hN rfl (.inl rfl))
 (jss_cons (js_set (i := 5) hN rfl (.inl rfl) (je_callH (ks := [none]) H__law_hidden hr (by decide) hq rfl (takes_of rfl rfl rfl rfl) (jp_d (jd_name 3 (pv 3) rfl) jp_nil) (by decide) rfl))
 (jss_cons (js_if (jt_cmpN (i := 5) (opd_neS hu) (pv 5) (JD.toB (JE.toD (je_callH (ks := [none]) H__law_due hr (by decide) hq rfl (takes_of rfl rfl rfl rfl) (jp_d (jd_name 3 (pv 3) rfl) jp_nil) (by decide) rfl))) (nomark _))
 (jss_one (js_ret (JD.toE jd_bl)))
 jss_nil)
 (jss_one (js_expr (je_append (i := 5) (pv 5) jd_int))))))
 (jss_cons (js_if (jt_not (jt_val (je_callH (ks := [none]) H__law_dozen_right hr (by decide) hq rfl (takes_of rfl rfl rfl rfl) (jp_d (JE.toD (je_lc rfl hN (ji_range1 rfl z_range (ja_cons jd_int ja_nil)) (own := [(("_law_turn" : Str), 4)]) (blkOk_by (by kernel_rfl)) (fun _ _ _ _ _ => (jgw_name (i := 4) (by decide) hN rfl (.inl rfl))) (fun _ _ _ _ _ => jts_nil) (fun _ _ _ _ _ => (JE.toD (je_bin opd_sub (JE.toD (je_callH (ks := [some 2, none]) H__law_take hr (by decide) hq rfl takes0 (jp_ref (pv 2) (jp_d jd_int jp_nil)) (by decide) rfl)) (JD.toB jd_int)))))) jp_nil) (by decide) rfl)))
 (jss_one (js_ret (JD.toE jd_bl)))
 jss_nil)
 (jss_one (js_for (passes_of rfl) rfl (ji_any (JE.toD (je_lst (ja_cons jd_non (ja_cons jd_bl (ja_cons jd_str (ja_cons (JE.toD (je_tup (ja_cons jd_int ja_nil))) (ja_cons (JE.toD (je_lst (ja_cons jd_int ja_nil))) (ja_cons jd_bl ja_nil))))))))) (jg_name (i := 6) hN rfl (.inl rfl))
 (jss_cons (js_set (i := 7) hN rfl (.inl rfl) (je_callH (ks := [some 2, none]) H__law_take hr (by decide) hq rfl (takes_of rfl rfl rfl rfl) (jp_ref (pv 2) (jp_d (JE.toD (je_bin opd_add (JE.toD (je_call1 cd_len rfl z_len rfl (JD.toB (JE.toD (je_sl (jd_name 3 (pv 3) rfl) jo_none (jo_some jd_int)))))) (JD.toB jd_int))) jp_nil)) (by decide) rfl))
 (jss_one (js_if (jt_cmp (opd_neS hu) (JE.toD (je_callH (ks := [none]) H__law_refused hr (by decide) hq rfl (takes_of rfl rfl rfl rfl) (jp_d (JE.toD (je_bin opd_add (JE.toD (je_bin opd_add (JE.toD (je_bin opd_add (JE.toD (je_sl (jd_name 3 (pv 3) rfl) jo_none (jo_some (jd_name 7 (pv 7) rfl)))) (JD.toB (JE.toD (je_lst (ja_cons (jd_name 6 (pv 6) rfl) ja_nil)))))) (JD.toB (JE.toD (je_sl (jd_name 3 (pv 3) rfl) (jo_some (jd_name 7 (pv 7) rfl)) (jo_some jd_int)))))) (JD.toB (JE.toD (je_lst (ja_cons jd_str ja_nil)))))) jp_nil) (by decide) rfl)) (JD.toB (JE.toD (je_call1 (cd_repr hu hq) rfl z_repr rfl (JD.toB (jd_name 6 (pv 6) rfl))))) (nomark _))
 (jss_one (js_ret (JD.toE jd_bl)))
 jss_nil))))))))))
 (jss_one (js_ret (JD.toE jd_bl))))
theorem all_mk {w : World} {K : PySem.W.Frag} {h : Heap} {mg : Str → Option Value} {fa : Addr} (X : K.In h) (G : h.Ns mainGlobals mg) (hfa : mg "law" = some (.ref fa))
 {f_is_integer : Addr} {od_is_integer an_is_integer : Option Addr} {sl_is_integer : Array (Option Value)} {oc_is_integer kV_is_integer dc_is_integer pm_is_integer cd_is_integer ct_is_integer : Value}  (a_is_integer : PySem.W.nsIn K mainGlobals "is_integer" = some (some (.ref f_is_integer))) (l_is_integer : K.lookup f_is_integer = some ⟨oc_is_integer, od_is_integer, .func (PySem.W.fnOf "is_integer" "is_integer" (defArgs st_is_integer) (defBody st_is_integer) (defScope st_is_integer) .none kV_is_integer dc_is_integer pm_is_integer an_is_integer cd_is_integer ct_is_integer), sl_is_integer⟩) (c_is_integer : PySem.W.codeIn K cd_is_integer "is_integer" = true) (k_is_integer : PySem.W.keepIn K (.ref f_is_integer) = true)
 {f__law_pool : Addr} {od__law_pool an__law_pool : Option Addr} {sl__law_pool : Array (Option Value)} {oc__law_pool kV__law_pool dc__law_pool pm__law_pool cd__law_pool ct__law_pool : Value}  (a__law_pool : PySem.W.nsIn K mainGlobals "_law_pool" = some (some (.ref f__law_pool))) (l__law_pool : K.lookup f__law_pool = some ⟨oc__law_pool, od__law_pool, .func (PySem.W.fnOf "_law_pool" "_law_pool" (defArgs st__law_pool) (defBody st__law_pool) (defScope st__law_pool) .none kV__law_pool dc__law_pool pm__law_pool an__law_pool cd__law_pool ct__law_pool), sl__law_pool⟩) (c__law_pool : PySem.W.codeIn K cd__law_pool "_law_pool" = true) (k__law_pool : PySem.W.keepIn K (.ref f__law_pool) = true)
 {f__law_take : Addr} {od__law_take an__law_take : Option Addr} {sl__law_take : Array (Option Value)} {oc__law_take kV__law_take dc__law_take pm__law_take cd__law_take ct__law_take : Value}  (a__law_take : PySem.W.nsIn K mainGlobals "_law_take" = some (some (.ref f__law_take))) (l__law_take : K.lookup f__law_take = some ⟨oc__law_take, od__law_take, .func (PySem.W.fnOf "_law_take" "_law_take" (defArgs st__law_take) (defBody st__law_take) (defScope st__law_take) .none kV__law_take dc__law_take pm__law_take an__law_take cd__law_take ct__law_take), sl__law_take⟩) (c__law_take : PySem.W.codeIn K cd__law_take "_law_take" = true) (k__law_take : PySem.W.keepIn K (.ref f__law_take) = true)
 {f__law_due : Addr} {od__law_due an__law_due : Option Addr} {sl__law_due : Array (Option Value)} {oc__law_due kV__law_due dc__law_due pm__law_due cd__law_due ct__law_due : Value}  (a__law_due : PySem.W.nsIn K mainGlobals "_law_due" = some (some (.ref f__law_due))) (l__law_due : K.lookup f__law_due = some ⟨oc__law_due, od__law_due, .func (PySem.W.fnOf "_law_due" "_law_due" (defArgs st__law_due) (defBody st__law_due) (defScope st__law_due) .none kV__law_due dc__law_due pm__law_due an__law_due cd__law_due ct__law_due), sl__law_due⟩) (c__law_due : PySem.W.codeIn K cd__law_due "_law_due" = true) (k__law_due : PySem.W.keepIn K (.ref f__law_due) = true)
 {f__law_numbers : Addr} {od__law_numbers an__law_numbers : Option Addr} {sl__law_numbers : Array (Option Value)} {oc__law_numbers kV__law_numbers dc__law_numbers pm__law_numbers cd__law_numbers ct__law_numbers : Value}  (a__law_numbers : PySem.W.nsIn K mainGlobals "_law_numbers" = some (some (.ref f__law_numbers))) (l__law_numbers : K.lookup f__law_numbers = some ⟨oc__law_numbers, od__law_numbers, .func (PySem.W.fnOf "_law_numbers" "_law_numbers" (defArgs st__law_numbers) (defBody st__law_numbers) (defScope st__law_numbers) .none kV__law_numbers dc__law_numbers pm__law_numbers an__law_numbers cd__law_numbers ct__law_numbers), sl__law_numbers⟩) (c__law_numbers : PySem.W.codeIn K cd__law_numbers "_law_numbers" = true) (k__law_numbers : PySem.W.keepIn K (.ref f__law_numbers) = true)
 {f_check_number : Addr} {od_check_number an_check_number : Option Addr} {sl_check_number : Array (Option Value)} {oc_check_number kV_check_number dc_check_number pm_check_number cd_check_number ct_check_number : Value}  (a_check_number : PySem.W.nsIn K mainGlobals "check_number" = some (some (.ref f_check_number))) (l_check_number : K.lookup f_check_number = some ⟨oc_check_number, od_check_number, .func (PySem.W.fnOf "check_number" "check_number" (defArgs st_check_number) (defBody st_check_number) (defScope st_check_number) .none kV_check_number dc_check_number pm_check_number an_check_number cd_check_number ct_check_number), sl_check_number⟩) (c_check_number : PySem.W.codeIn K cd_check_number "check_number" = true) (k_check_number : PySem.W.keepIn K (.ref f_check_number) = true)
 {f__law_row : Addr} {od__law_row an__law_row : Option Addr} {sl__law_row : Array (Option Value)} {oc__law_row kV__law_row dc__law_row pm__law_row cd__law_row ct__law_row : Value}  (a__law_row : PySem.W.nsIn K mainGlobals "_law_row" = some (some (.ref f__law_row))) (l__law_row : K.lookup f__law_row = some ⟨oc__law_row, od__law_row, .func (PySem.W.fnOf "_law_row" "_law_row" (defArgs st__law_row) (defBody st__law_row) (defScope st__law_row) .none kV__law_row dc__law_row pm__law_row an__law_row cd__law_row ct__law_row), sl__law_row⟩) (c__law_row : PySem.W.codeIn K cd__law_row "_law_row" = true) (k__law_row : PySem.W.keepIn K (.ref f__law_row) = true)
 {f_hidden_by : Addr} {od_hidden_by an_hidden_by : Option Addr} {sl_hidden_by : Array (Option Value)} {oc_hidden_by kV_hidden_by dc_hidden_by pm_hidden_by cd_hidden_by ct_hidden_by : Value}  (a_hidden_by : PySem.W.nsIn K mainGlobals "hidden_by" = some (some (.ref f_hidden_by))) (l_hidden_by : K.lookup f_hidden_by = some ⟨oc_hidden_by, od_hidden_by, .func (PySem.W.fnOf "hidden_by" "hidden_by" (defArgs st_hidden_by) (defBody st_hidden_by) (defScope st_hidden_by) .none kV_hidden_by dc_hidden_by pm_hidden_by an_hidden_by cd_hidden_by ct_hidden_by), sl_hidden_by⟩) (c_hidden_by : PySem.W.codeIn K cd_hidden_by "hidden_by" = true) (k_hidden_by : PySem.W.keepIn K (.ref f_hidden_by) = true)
 {f__law_hidden : Addr} {od__law_hidden an__law_hidden : Option Addr} {sl__law_hidden : Array (Option Value)} {oc__law_hidden kV__law_hidden dc__law_hidden pm__law_hidden cd__law_hidden ct__law_hidden : Value}  (a__law_hidden : PySem.W.nsIn K mainGlobals "_law_hidden" = some (some (.ref f__law_hidden))) (l__law_hidden : K.lookup f__law_hidden = some ⟨oc__law_hidden, od__law_hidden, .func (PySem.W.fnOf "_law_hidden" "_law_hidden" (defArgs st__law_hidden) (defBody st__law_hidden) (defScope st__law_hidden) .none kV__law_hidden dc__law_hidden pm__law_hidden an__law_hidden cd__law_hidden ct__law_hidden), sl__law_hidden⟩) (c__law_hidden : PySem.W.codeIn K cd__law_hidden "_law_hidden" = true) (k__law_hidden : PySem.W.keepIn K (.ref f__law_hidden) = true)
 {f__law_dozen_right : Addr} {od__law_dozen_right an__law_dozen_right : Option Addr} {sl__law_dozen_right : Array (Option Value)} {oc__law_dozen_right kV__law_dozen_right dc__law_dozen_right pm__law_dozen_right cd__law_dozen_right ct__law_dozen_right : Value}  (a__law_dozen_right : PySem.W.nsIn K mainGlobals "_law_dozen_right" = some (some (.ref f__law_dozen_right))) (l__law_dozen_right : K.lookup f__law_dozen_right = some ⟨oc__law_dozen_right, od__law_dozen_right, .func (PySem.W.fnOf "_law_dozen_right" "_law_dozen_right" (defArgs st__law_dozen_right) (defBody st__law_dozen_right) (defScope st__law_dozen_right) .none kV__law_dozen_right dc__law_dozen_right pm__law_dozen_right an__law_dozen_right cd__law_dozen_right ct__law_dozen_right), sl__law_dozen_right⟩) (c__law_dozen_right : PySem.W.codeIn K cd__law_dozen_right "_law_dozen_right" = true) (k__law_dozen_right : PySem.W.keepIn K (.ref f__law_dozen_right) = true)
 {f__law_refused : Addr} {od__law_refused an__law_refused : Option Addr} {sl__law_refused : Array (Option Value)} {oc__law_refused kV__law_refused dc__law_refused pm__law_refused cd__law_refused ct__law_refused : Value}  (a__law_refused : PySem.W.nsIn K mainGlobals "_law_refused" = some (some (.ref f__law_refused))) (l__law_refused : K.lookup f__law_refused = some ⟨oc__law_refused, od__law_refused, .func (PySem.W.fnOf "_law_refused" "_law_refused" (defArgs st__law_refused) (defBody st__law_refused) (defScope st__law_refused) .none kV__law_refused dc__law_refused pm__law_refused an__law_refused cd__law_refused ct__law_refused), sl__law_refused⟩) (c__law_refused : PySem.W.codeIn K cd__law_refused "_law_refused" = true) (k__law_refused : PySem.W.keepIn K (.ref f__law_refused) = true)
 {f_law : Addr} {od_law an_law : Option Addr} {sl_law : Array (Option Value)} {oc_law kV_law dc_law pm_law cd_law ct_law : Value}  (a_law : PySem.W.nsIn K mainGlobals "law" = some (some (.ref f_law))) (l_law : K.lookup f_law = some ⟨oc_law, od_law, .func (PySem.W.fnOf "law" "law" (defArgs st_law) (defBody st_law) (defScope st_law) .none kV_law dc_law pm_law an_law cd_law ct_law), sl_law⟩) (c_law : PySem.W.codeIn K cd_law "law" = true) (k_law : PySem.W.keepIn K (.ref f_law) = true)
 (z_abs : PySem.W.nsIn K mainGlobals "abs" = some none)
 (z_bool : PySem.W.nsIn K mainGlobals "bool" = some none)
 (z_enumerate : PySem.W.nsIn K mainGlobals "enumerate" = some none)
 (z_int : PySem.W.nsIn K mainGlobals "int" = some none)
 (z_isinstance : PySem.W.nsIn K mainGlobals "isinstance" = some none)
 (z_len : PySem.W.nsIn K mainGlobals "len" = some none)
 (z_max : PySem.W.nsIn K mainGlobals "max" = some none)
 (z_min : PySem.W.nsIn K mainGlobals "min" = some none)
 (z_range : PySem.W.nsIn K mainGlobals "range" = some none)
 (z_repr : PySem.W.nsIn K mainGlobals "repr" = some none)
 {C_SkylineError : Addr} (a_SkylineError : PySem.W.nsIn K mainGlobals "SkylineError" = some (some (.ref C_SkylineError)))
 {C_InvalidNumber f_InvalidNumber N_InvalidNumber SkylineErrorS_InvalidNumber : Addr} {nm_InvalidNumber q_InvalidNumber : Str} {bs_InvalidNumber : List Value} {sn_InvalidNumber : List Str} {sub_InvalidNumber : List Value} {ab_InvalidNumber : Bool} {col_InvalidNumber : Option Bool} {dd_InvalidNumber : Option Addr} {m0_InvalidNumber m1_InvalidNumber m2_InvalidNumber m3_InvalidNumber m5_InvalidNumber : Option Value} {od_InvalidNumber an_InvalidNumber : Option Addr} {sl_InvalidNumber : Array (Option Value)} {oc_InvalidNumber kV_InvalidNumber dc_InvalidNumber pm_InvalidNumber cd_InvalidNumber ct_InvalidNumber : Value} (a_InvalidNumber : PySem.W.nsIn K mainGlobals "InvalidNumber" = some (some (.ref C_InvalidNumber))) (x_InvalidNumber : K.lookup C_InvalidNumber = some (excClassObj nm_InvalidNumber q_InvalidNumber C_InvalidNumber N_InvalidNumber bs_InvalidNumber [.ref SkylineErrorS_InvalidNumber, .type "ValueError", .type "Exception", .type "BaseException", .type "object"] true sn_InvalidNumber sub_InvalidNumber ab_InvalidNumber col_InvalidNumber dd_InvalidNumber m0_InvalidNumber m1_InvalidNumber m2_InvalidNumber m3_InvalidNumber m5_InvalidNumber "ValueError.__new__")) (sa_InvalidNumber : PySem.W.findIn K (.ref C_InvalidNumber) "__setattr__" = some (some (.builtin "object.__setattr__"))) (nb_InvalidNumber : PySem.W.findIn K (.ref C_InvalidNumber) "value" = some none) (i_InvalidNumber : PySem.W.findIn K (.ref C_InvalidNumber) "__init__" = some (some (.ref f_InvalidNumber))) (t_InvalidNumber : PySem.W.typeIn K (.ref f_InvalidNumber) = some (.type "function")) (l_InvalidNumber : K.lookup f_InvalidNumber = some ⟨oc_InvalidNumber, od_InvalidNumber, .func (PySem.W.fnOf "__init__" "InvalidNumber.__init__" (defArgs st_InvalidNumber) (defBody st_InvalidNumber) (defScope st_InvalidNumber) .none kV_InvalidNumber dc_InvalidNumber pm_InvalidNumber an_InvalidNumber cd_InvalidNumber ct_InvalidNumber), sl_InvalidNumber⟩) (c_InvalidNumber : PySem.W.codeIn K cd_InvalidNumber "InvalidNumber.__init__" = true) (k_InvalidNumber : PySem.W.keepIn K (.ref f_InvalidNumber) = true) (kC_InvalidNumber : PySem.W.keepIn K (.ref C_InvalidNumber) = true) (e_InvalidNumber : PySem.W.subIn K (.ref C_InvalidNumber) (.type "BaseException") = some true) (tC_InvalidNumber : PySem.W.typeIn K (.ref C_InvalidNumber) = some (.type "type"))
 (za_InvalidStack : PySem.W.nsIn K mainGlobals "InvalidStack" = some none)
 (za_InvalidSequence : PySem.W.nsIn K mainGlobals "InvalidSequence" = some none)
 (za_InvalidEffect : PySem.W.nsIn K mainGlobals "InvalidEffect" = some none)
 (za_InvalidText : PySem.W.nsIn K mainGlobals "InvalidText" = some none)
 (za_InvalidCommand : PySem.W.nsIn K mainGlobals "InvalidCommand" = some none)
 (za_StepFailed : PySem.W.nsIn K mainGlobals "StepFailed" = some none)
 (za_LimitExceeded : PySem.W.nsIn K mainGlobals "LimitExceeded" = some none)
 (za_UnknownUser : PySem.W.nsIn K mainGlobals "UnknownUser" = some none)
 (za_UnknownName : PySem.W.nsIn K mainGlobals "UnknownName" = some none)
 (za_NothingToUndo : PySem.W.nsIn K mainGlobals "NothingToUndo" = some none)
 (ic_InvalidNumber : PySem.W.isClsIn K C_InvalidNumber = true)
 (u_InvalidNumber_InvalidNumber : PySem.W.subIn K (.ref C_InvalidNumber) (.ref C_InvalidNumber) = some true)
 (ga_InvalidNumber : PySem.W.findIn K (.ref C_InvalidNumber) "__getattribute__" = some (some (.builtin "BaseException.__getattribute__"))) (gg_InvalidNumber : PySem.W.findIn K (.ref C_InvalidNumber) "__getattr__" = some none) (hd_InvalidNumber : PySem.W.hasDictIn K C_InvalidNumber = true)
 (e_SkylineError : PySem.W.subIn K (.ref C_SkylineError) (.type "BaseException") = some true) (tC_SkylineError : PySem.W.typeIn K (.ref C_SkylineError) = some (.type "type"))
 (ic_SkylineError : PySem.W.isClsIn K C_SkylineError = true)
 (u_InvalidNumber_SkylineError : PySem.W.subIn K (.ref C_InvalidNumber) (.ref C_SkylineError) = some true) :
 ∃ fd : FuncData, (∀ (s : Shared) (v : Value), BindsTo s fd ⟨[v], []⟩ [("_law_script", v)]) ∧ ∀ base : Heap, K.In base → base.Ns mainGlobals mg → FD PySem.Challenge.rw_skylineeffect_k44_hidden_by.prog w K mg base 7 fa fd ["_law_script"] m_law_k44 := by
  have e := hfa.symm.trans (PySem.W.mg_of X G a_law)
  cases e
  refine ⟨PySem.W.fnOf "law" "law" (defArgs st_law) (defBody st_law) (defScope st_law) .none kV_law dc_law pm_law an_law cd_law ct_law, fun s v => .of_eq rfl, fun base _ _ => ?_⟩
  have z_abs := PySem.W.mg_none_of X G z_abs
  have z_bool := PySem.W.mg_none_of X G z_bool
  have z_enumerate := PySem.W.mg_none_of X G z_enumerate
  have z_int := PySem.W.mg_none_of X G z_int
  have z_isinstance := PySem.W.mg_none_of X G z_isinstance
  have z_len := PySem.W.mg_none_of X G z_len
  have z_max := PySem.W.mg_none_of X G z_max
  have z_min := PySem.W.mg_none_of X G z_min
  have z_range := PySem.W.mg_none_of X G z_range
  have z_repr := PySem.W.mg_none_of X G z_repr
  have T_InvalidNumber : OexT K C_InvalidNumber := ⟨⟨_, _, nm_InvalidNumber, q_InvalidNumber, N_InvalidNumber, bs_InvalidNumber, _, sn_InvalidNumber, sub_InvalidNumber, ab_InvalidNumber, col_InvalidNumber, dd_InvalidNumber, m0_InvalidNumber, m1_InvalidNumber, m2_InvalidNumber, m3_InvalidNumber, m5_InvalidNumber, baseV, x_InvalidNumber, rfl⟩, sa_InvalidNumber, e_InvalidNumber, tC_InvalidNumber, kC_InvalidNumber⟩
  have F_InvalidNumber := fun_mk (st := st_InvalidNumber) l_InvalidNumber c_InvalidNumber k_InvalidNumber
  have H_InvalidNumber : ErrC PySem.Challenge.rw_skylineeffect_k44_hidden_by.prog w K mg base 1 "InvalidNumber" := errC_of F_InvalidNumber sc_InvalidNumber T_InvalidNumber nb_InvalidNumber i_InvalidNumber t_InvalidNumber (F_InvalidNumber.binds (ps := ["self", "value"]) fun _ _ _ _ _ _ us hl => match us, hl with | [_, _], _ => rfl) (PySem.W.mg_of X G a_InvalidNumber) fun cdv A outer s H E => pss_one (ps_ost1 (pv 0) (pv 1))
  have n_InvalidNumber := PySem.W.mg_of X G a_InvalidNumber
  have hx_InvalidNumber := hx_of (mg := mg) (cl := "InvalidNumber") e_InvalidNumber ic_InvalidNumber tC_InvalidNumber (List.forall_mem_cons.mpr ⟨.inr ⟨_, _, PySem.W.mg_of X G a_InvalidNumber, u_InvalidNumber_InvalidNumber, tab_InvalidNumber_InvalidNumber⟩, List.forall_mem_cons.mpr ⟨.inl (PySem.W.mg_none_of X G za_InvalidStack), List.forall_mem_cons.mpr ⟨.inl (PySem.W.mg_none_of X G za_InvalidSequence), List.forall_mem_cons.mpr ⟨.inl (PySem.W.mg_none_of X G za_InvalidEffect), List.forall_mem_cons.mpr ⟨.inl (PySem.W.mg_none_of X G za_InvalidText), List.forall_mem_cons.mpr ⟨.inl (PySem.W.mg_none_of X G za_InvalidCommand), List.forall_mem_cons.mpr ⟨.inl (PySem.W.mg_none_of X G za_StepFailed), List.forall_mem_cons.mpr ⟨.inl (PySem.W.mg_none_of X G za_LimitExceeded), List.forall_mem_cons.mpr ⟨.inl (PySem.W.mg_none_of X G za_UnknownUser), List.forall_mem_cons.mpr ⟨.inl (PySem.W.mg_none_of X G za_UnknownName), List.forall_mem_cons.mpr ⟨.inl (PySem.W.mg_none_of X G za_NothingToUndo), fun _ h => nomatch h⟩⟩⟩⟩⟩⟩⟩⟩⟩⟩⟩)
  have hf_InvalidNumber := hf_of (cl := "InvalidNumber") (by decide +kernel) fld_InvalidNumber n_InvalidNumber ⟨ga_InvalidNumber, gg_InvalidNumber, nb_InvalidNumber, e_InvalidNumber, hd_InvalidNumber⟩
  have n_SkylineError := PySem.W.mg_of X G a_SkylineError
  have hx_SkylineError := hx_of (mg := mg) (cl := "SkylineError") e_SkylineError ic_SkylineError tC_SkylineError (List.forall_mem_cons.mpr ⟨.inr ⟨_, _, PySem.W.mg_of X G a_InvalidNumber, u_InvalidNumber_SkylineError, tab_SkylineError_InvalidNumber⟩, List.forall_mem_cons.mpr ⟨.inl (PySem.W.mg_none_of X G za_InvalidStack), List.forall_mem_cons.mpr ⟨.inl (PySem.W.mg_none_of X G za_InvalidSequence), List.forall_mem_cons.mpr ⟨.inl (PySem.W.mg_none_of X G za_InvalidEffect), List.forall_mem_cons.mpr ⟨.inl (PySem.W.mg_none_of X G za_InvalidText), List.forall_mem_cons.mpr ⟨.inl (PySem.W.mg_none_of X G za_InvalidCommand), List.forall_mem_cons.mpr ⟨.inl (PySem.W.mg_none_of X G za_StepFailed), List.forall_mem_cons.mpr ⟨.inl (PySem.W.mg_none_of X G za_LimitExceeded), List.forall_mem_cons.mpr ⟨.inl (PySem.W.mg_none_of X G za_UnknownUser), List.forall_mem_cons.mpr ⟨.inl (PySem.W.mg_none_of X G za_UnknownName), List.forall_mem_cons.mpr ⟨.inl (PySem.W.mg_none_of X G za_NothingToUndo), fun _ h => nomatch h⟩⟩⟩⟩⟩⟩⟩⟩⟩⟩⟩)
  have F_is_integer := fun_mk (st := st_is_integer) l_is_integer c_is_integer k_is_integer
  have D_is_integer : Def K mg "is_integer" st_is_integer ["value"] _ _ := ⟨F_is_integer, PySem.W.mg_of X G a_is_integer, F_is_integer.binds (ps := ["value"]) fun _ _ _ _ _ _ us hl => match us, hl with | [_], _ => rfl⟩
  have H_is_integer := has_is_integer (P := PySem.Challenge.rw_skylineeffect_k44_hidden_by.prog) (w := w) (base := base) D_is_integer z_bool z_int z_isinstance
  have F__law_pool := fun_mk (st := st__law_pool) l__law_pool c__law_pool k__law_pool
  have D__law_pool : Def K mg "_law_pool" st__law_pool ["_law_script", "_law_k"] _ _ := ⟨F__law_pool, PySem.W.mg_of X G a__law_pool, F__law_pool.binds (ps := ["_law_script", "_law_k"]) fun _ _ _ _ _ _ us hl => match us, hl with | [_, _], _ => rfl⟩
  have H__law_pool := has__law_pool (P := PySem.Challenge.rw_skylineeffect_k44_hidden_by.prog) (w := w) (base := base) D__law_pool z_abs z_int z_len
  have F__law_take := fun_mk (st := st__law_take) l__law_take c__law_take k__law_take
  have D__law_take : Def K mg "_law_take" st__law_take ["_law_pool_here", "_law_sides"] _ _ := ⟨F__law_take, PySem.W.mg_of X G a__law_take, F__law_take.binds (ps := ["_law_pool_here", "_law_sides"]) fun _ _ _ _ _ _ us hl => match us, hl with | [_, _], _ => rfl⟩
  have H__law_take := has__law_take (P := PySem.Challenge.rw_skylineeffect_k44_hidden_by.prog) (w := w) (base := base) D__law_take 
  have F__law_due := fun_mk (st := st__law_due) l__law_due c__law_due k__law_due
  have D__law_due : Def K mg "_law_due" st__law_due ["_law_row_here"] _ _ := ⟨F__law_due, PySem.W.mg_of X G a__law_due, F__law_due.binds (ps := ["_law_row_here"]) fun _ _ _ _ _ _ us hl => match us, hl with | [_], _ => rfl⟩
  have H__law_due := has__law_due (P := PySem.Challenge.rw_skylineeffect_k44_hidden_by.prog) (w := w) (base := base) D__law_due z_enumerate z_len z_range
  have F__law_numbers := fun_mk (st := st__law_numbers) l__law_numbers c__law_numbers k__law_numbers
  have D__law_numbers : Def K mg "_law_numbers" st__law_numbers ["_law_pool_here", "_law_many"] _ _ := ⟨F__law_numbers, PySem.W.mg_of X G a__law_numbers, F__law_numbers.binds (ps := ["_law_pool_here", "_law_many"]) fun _ _ _ _ _ _ us hl => match us, hl with | [_, _], _ => rfl⟩
  have H__law_numbers := has__law_numbers (P := PySem.Challenge.rw_skylineeffect_k44_hidden_by.prog) (w := w) (base := base) D__law_numbers H__law_take z_range
  have F_check_number := fun_mk (st := st_check_number) l_check_number c_check_number k_check_number
  have D_check_number : Def K mg "check_number" st_check_number ["value"] _ _ := ⟨F_check_number, PySem.W.mg_of X G a_check_number, F_check_number.binds (ps := ["value"]) fun _ _ _ _ _ _ us hl => match us, hl with | [_], _ => rfl⟩
  have H_check_number := has_check_number (P := PySem.Challenge.rw_skylineeffect_k44_hidden_by.prog) (w := w) (base := base) D_check_number H_is_integer H_InvalidNumber
  have F__law_row := fun_mk (st := st__law_row) l__law_row c__law_row k__law_row
  have D__law_row : Def K mg "_law_row" st__law_row ["_law_pool_here", "_law_most"] _ _ := ⟨F__law_row, PySem.W.mg_of X G a__law_row, F__law_row.binds (ps := ["_law_pool_here", "_law_most"]) fun _ _ _ _ _ _ us hl => match us, hl with | [_, _], _ => rfl⟩
  have H__law_row := has__law_row (P := PySem.Challenge.rw_skylineeffect_k44_hidden_by.prog) (w := w) (base := base) D__law_row H__law_numbers H__law_take z_len z_range
  have F_hidden_by := fun_mk (st := st_hidden_by) l_hidden_by c_hidden_by k_hidden_by
  have D_hidden_by : DefS K mg "hidden_by" st_hidden_by [] "numbers" _ _ := ⟨F_hidden_by, PySem.W.mg_of X G a_hidden_by, bind_star0 (B := fun xs => bindArgs (PySem.W.fnOf "hidden_by" "hidden_by" (defArgs st_hidden_by) (defBody st_hidden_by) (defScope st_hidden_by) .none kV_hidden_by dc_hidden_by pm_hidden_by an_hidden_by cd_hidden_by ct_hidden_by) ⟨xs, []⟩) (rfl) (fun  r rs => rfl)⟩
  have H_hidden_by := has_hidden_by (P := PySem.Challenge.rw_skylineeffect_k44_hidden_by.prog) (w := w) (base := base) D_hidden_by H_check_number z_enumerate z_len
  have F__law_hidden := fun_mk (st := st__law_hidden) l__law_hidden c__law_hidden k__law_hidden
  have D__law_hidden : Def K mg "_law_hidden" st__law_hidden ["_law_row_here"] _ _ := ⟨F__law_hidden, PySem.W.mg_of X G a__law_hidden, F__law_hidden.binds (ps := ["_law_row_here"]) fun _ _ _ _ _ _ us hl => match us, hl with | [_], _ => rfl⟩
  have H__law_hidden := has__law_hidden (P := PySem.Challenge.rw_skylineeffect_k44_hidden_by.prog) (w := w) (base := base) D__law_hidden H_hidden_by z_len
  have F__law_dozen_right := fun_mk (st := st__law_dozen_right) l__law_dozen_right c__law_dozen_right k__law_dozen_right
  have D__law_dozen_right : Def K mg "_law_dozen_right" st__law_dozen_right ["_law_row_here"] _ _ := ⟨F__law_dozen_right, PySem.W.mg_of X G a__law_dozen_right, F__law_dozen_right.binds (ps := ["_law_row_here"]) fun _ _ _ _ _ _ us hl => match us, hl with | [_], _ => rfl⟩
  have H__law_dozen_right := has__law_dozen_right (P := PySem.Challenge.rw_skylineeffect_k44_hidden_by.prog) (w := w) (base := base) D__law_dozen_right H_hidden_by H__law_due
  have F__law_refused := fun_mk (st := st__law_refused) l__law_refused c__law_refused k__law_refused
  have D__law_refused : Def K mg "_law_refused" st__law_refused ["_law_row_here"] _ _ := ⟨F__law_refused, PySem.W.mg_of X G a__law_refused, F__law_refused.binds (ps := ["_law_row_here"]) fun _ _ _ _ _ _ us hl => match us, hl with | [_], _ => rfl⟩
  have H__law_refused := has__law_refused (P := PySem.Challenge.rw_skylineeffect_k44_hidden_by.prog) (w := w) (base := base) D__law_refused H__law_hidden n_InvalidNumber hx_InvalidNumber n_SkylineError hx_SkylineError hf_InvalidNumber z_repr
  have F_law := fun_mk (st := st_law) l_law c_law k_law
  have D_law : Def K mg "law" st_law ["_law_script"] _ _ := ⟨F_law, PySem.W.mg_of X G a_law, F_law.binds (ps := ["_law_script"]) fun _ _ _ _ _ _ us hl => match us, hl with | [_], _ => rfl⟩
  exact fd_law (P := PySem.Challenge.rw_skylineeffect_k44_hidden_by.prog) (w := w) (base := base) D_law H__law_pool H__law_row H__law_hidden H__law_due H__law_dozen_right H__law_take H__law_refused z_len z_max z_min z_range z_repr
end Lk44
namespace Qa
open PySem PySem.Spec PyProof.Rows L2 Evl Mi Pg Pu
theorem law44_twice (a : Sl) (k : D) (P : Sl) (L : List Int) (hL : L.length ≤ 6) (t4 t5 t6 t7 : Sl) : ∃ (u4 u5 : Sl), l1_law_k44 [a, .d k, P, .own false (L.map .int), t4, t5, t6, t7] = .ok ([a, .d k, P, .d (.list (L.map .int)), u4, u5, t6, t7], .nx) := by
  obtain ⟨B, e1, e2, hB, hl⟩ := hid44 L hL
  have e3 : neS (.list B) (.list B) = .ok (.d (.bool false)) := neS_same (by simpa using hB)
  have hl : B.length < 16777216 := by omega
  generalize L.map PyData.int = A at *
  refine ⟨.d (.int 1), .own false (B ++ [.int 0]), ?_⟩
  unfold l1_law_k44
  have q1 := law44_b1 a k P A B _ (.inl rfl) (.int 0) t5 t6 t7 e1 e2 e3 hl
  have q2 := law44_b1 a k P A B _ (.inr rfl) (.int 1) (.own false (B ++ [.int 0])) t6 t7 e1 e2 e3 hl
  exact two44 rfl q1 rfl q2
theorem law44_dozen (a : Sl) (k : D) (p : Pool) (A t4 t5 t6 t7 : Sl) : ∃ (q : Pool) (v : Nat → Int), l2_law_k44 [a, .d k, .own false (pl p), A, t4, t5, t6, t7] = .ok ([a, .d k, .own false (pl q), A, t4, t5, t6, t7], .f (rowD 12 v)) := by
  have r1 := z_rng1 (k := 12) (by decide) (by decide)
  obtain ⟨Γ2, ys, e, ⟨q, rfl⟩, hlen, hy⟩ := sLc_invW (it := sItA rng1 (sCons (sC (.int 12)) sNil)) (g := gN 4) (te := sPub (sBin subG (sPub (callS m__law_take [some 2, none] (sRef 2 (sCons (sC (.int 9)) sNil)))) (sC (.int 4))))
    (vs := [4]) (Γ := [a, .d k, .own false (pl p), A, t4, t5, t6, t7]) (Γ1 := [a, .d k, .own false (pl p), A, t4, t5, t6, t7]) (xs := rangeD 0 12) (Γw := [a, .d k, .own false (pl p), A, .un, t5, t6, t7])
    (fun Γ => ∃ q : Pool, Γ = [a, .d k, .own false (pl q), A, .un, t5, t6, t7]) (fun y => ∃ n : Int, y = .int n) (by simp [r1]) rfl ⟨_, rfl⟩ (by rw [rangeD_length]; omega) (fun x hx Γ hΓ => by
      obtain ⟨q, rfl⟩ := hΓ
      have t9 := take_ok q (n := 9) (by decide) (by decide)
      exact ⟨_, [a, .d k, .own false (pl (nx q 9)), A, .d x, t5, t6, t7], .int (tv q 9 - 4), rfl, by simp [t9], ⟨_, rfl⟩, _, rfl⟩)
  obtain ⟨L, rfl, -⟩ := pick (f := PyData.int) (P := fun _ => True) (fun y hy' => by obtain ⟨n, e⟩ := hy y hy'; exact ⟨n, e, trivial⟩)
  rw [rangeD_length, List.length_map] at hlen
  refine ⟨q, fun i => L.getD i 0, ?_⟩
  have := row_of L
  rw [hlen] at this
  rw [← this]
  exact e
theorem cut_len (xs : List D) (i j : Nat) : (Mi.cutD xs (some (i : Int)) (some (j : Int))).length ≤ j - i := by
  unfold Mi.cutD
  have e1 : HT.sIx xs.length 0 (some (i : Int)) = min i xs.length := HT.sIx_nat xs.length 0 i
  have e2 : HT.sIx xs.length xs.length (some (j : Int)) = min j xs.length := HT.sIx_nat xs.length xs.length j
  rw [e1, e2, List.length_take, List.length_drop]
  omega
theorem law44_odd1 (a : Sl) (k : D) (p : Pool) (L : List Int) (hL : L.length ≤ 6) (t4 t5 t7 : Sl) (o : D) (z : Str) (h : m_is_integer [.d o] = .ok ([.d o], .d (.bool false))) (hz : reprG o = .ok (.d (.str z))) : ∃ (q : Pool) (u7 : Sl), l3b_law_k44 [a, .d k, .own false (pl p), .d (.list (L.map .int)), t4, t5, .d o, t7] = .ok ([a, .d k, .own false (pl q), .d (.list (L.map .int)), t4, t5, .d o, u7], .nx) := by
  have hq : (Mi.cutD (L.map .int) none (some ((4 : Nat) : Int))).length + 1 ≤ 5 := by
    rw [cut_take, List.length_take]; omega
  have hm : (Mi.cutD (L.map .int) none (some ((4 : Nat) : Int))).length ≤ L.length := by
    rw [cut_take, List.length_take, List.length_map]; omega
  have hm4 : (Mi.cutD (L.map .int) none (some (4 : Int))) = Mi.cutD (L.map .int) none (some ((4 : Nat) : Int)) := rfl
  have hm3 : (Mi.cutD (L.map .int) none (some ((4 : Nat) : Int))).length ≤ 4 := by omega
  obtain ⟨m, hmm⟩ : ∃ m : Nat, m = (Mi.cutD (L.map .int) none (some ((4 : Nat) : Int))).length := ⟨_, rfl⟩
  have t1 := take_ok p (n := (m : Int) + 1) (by omega) (by
    have : (2 : Int) ^ 10 ≤ 2 ^ 4000 := by decide +kernel
    omega)
  obtain ⟨a0, a1⟩ := tv_lt p (n := (m : Int) + 1) (by omega)
  obtain ⟨j, hj⟩ : ∃ j : Nat, tv p ((m : Int) + 1) = (j : Int) := ⟨(tv p ((m : Int) + 1)).toNat, by omega⟩
  rw [hj] at t1 a1
  rw [← hmm] at hm3
  have c1 : Mi.cutD (L.map .int) none (some (j : Int)) = (L.take j).map .int := by rw [cut_take, List.map_take]
  have c2 := cut_len (L.map .int) j 4
  have c3 : (L.take j).length ≤ j := by rw [List.length_take]; omega
  have e := refused44 o (.str z) h hz (Mi.cutD (L.map .int) (some (j : Int)) (some ((4 : Nat) : Int)) ++ [.str "x"]) (L.take j) (by rw [List.length_append, List.length_singleton]; omega) (by rw [List.length_append, List.length_singleton]; omega)
  have e : m__law_refused_k44 [.d (.list (((L.take j).map PyData.int ++ [o]) ++ Mi.cutD (L.map .int) (some (j : Int)) (some (4 : Int)) ++ [.str "x"]))] = .ok ([.d (.list (((L.take j).map PyData.int ++ [o]) ++ Mi.cutD (L.map .int) (some (j : Int)) (some (4 : Int)) ++ [.str "x"]))], .d (.str z)) := by
    have q : ((L.take j).map PyData.int ++ [o]) ++ Mi.cutD (L.map .int) (some (j : Int)) (some (4 : Int)) ++ [.str "x"] = (L.take j).map .int ++ o :: (Mi.cutD (L.map .int) (some (j : Int)) (some ((4 : Nat) : Int)) ++ [.str "x"]) := by simp
    rw [q]; exact e
  have c2 : (Mi.cutD (L.map .int) (some (j : Int)) (some (4 : Int))).length ≤ 4 - j := c2
  have c4 : (Mi.cutD (L.map .int) none (some (j : Int))).length ≤ j := by rw [c1, List.length_map]; exact c3
  rw [← c1] at e
  rw [← hm4] at hmm
  refine ⟨nx p ((m : Int) + 1), .d (.int j), ?_⟩
  clear h hj a0 c1 c3 hm4 hm hq hL
  generalize L.map PyData.int = A at *
  generalize hR : Mi.cutD A (some (j : Int)) (some (4 : Int)) = R at *
  generalize hS : Mi.cutD A none (some (4 : Int)) = S at *
  generalize hX : Mi.cutD A none (some (j : Int)) = X at *
  have l1 : X.length + 1 ≤ 16777216 := by omega
  have l2 : X.length + 1 + R.length ≤ 16777216 := by omega
  have l3 : X.length + 1 + R.length + 1 ≤ 16777216 := by omega
  have n4 : ((S.length : Nat) : Int) = (m : Int) := by rw [hmm]
  have e2 : m__law_refused_k44 [.d (.list (X ++ o :: (R ++ [.str "x"])))] = .ok ([.d (.list (X ++ o :: (R ++ [.str "x"])))], .d (.str z)) := by
    have q : X ++ o :: (R ++ [.str "x"]) = X ++ [o] ++ R ++ [.str "x"] := by simp
    rw [q]; exact e
  have k1 : X.length ≤ 16777215 := by omega
  have k2 : X.length + (R.length + 1) ≤ 16777216 := by omega
  have k3 : X.length + (R.length + 1) ≤ 16777215 := by omega
  simp [l3b_law_k44, hX, hR, hS, n4, t1, l1, l2, l3, k1, k2, k3, e2, hz]
theorem law44_odd (a : Sl) (k : D) (p : Pool) (L : List Int) (hL : L.length ≤ 6) (t4 t5 t6 t7 : Sl) : ∃ (q : Pool) (u6 u7 : Sl), l3_law_k44 [a, .d k, .own false (pl p), .d (.list (L.map .int)), t4, t5, t6, t7] = .ok ([a, .d k, .own false (pl q), .d (.list (L.map .int)), t4, t5, u6, u7], .nx) := by
  have two : ∀ x : D, sm x = true → x.depth ≤ 40 → nodes x ≤ 250000 → m_is_integer [.d x] = .ok ([.d x], .d (.bool false)) → ∀ (p : Pool) (t7 : Sl), ∃ (q : Pool) (u7 : Sl), l3b_law_k44 [a, .d k, .own false (pl p), .d (.list (L.map .int)), t4, t5, .d x, t7] = .ok ([a, .d k, .own false (pl q), .d (.list (L.map .int)), t4, t5, .d x, u7], .nx) := fun x h1 h2 h3 h5 p t7 =>
    law44_odd1 a k p L hL t4 t5 t7 x _ h5 (reprG_sm h1 h2 h3)
  have ok1 : PyData.strOk ("1" : Str) = true := by decide +kernel
  obtain ⟨p1, v1, b1⟩ := two .none (by simp) (by simp [PyData.depth]) (by simp) (by simp [m_is_integer, b_is_integer]) p t7
  obtain ⟨p2, v2, b2⟩ := two (.bool true) (by simp) (by simp [PyData.depth]) (by decide) (by simp [m_is_integer, b_is_integer]) p1 v1
  obtain ⟨p3, v3, b3⟩ := two (.str "1") (by simp [ok1]) (by simp [PyData.depth]) (by decide +kernel) (by simp [m_is_integer, b_is_integer]) p2 v2
  obtain ⟨p4, v4, b4⟩ := two (.tuple [.int 1]) (by simp) (by decide +kernel) (by simp) (by simp [m_is_integer, b_is_integer]) p3 v3
  obtain ⟨p5, v5, b5⟩ := two (.list [.int 1]) (by simp) (by decide +kernel) (by simp) (by simp [m_is_integer, b_is_integer]) p4 v4
  obtain ⟨p6, v6, b6⟩ := two (.bool false) (by simp) (by simp [PyData.depth]) (by decide) (by simp [m_is_integer, b_is_integer]) p5 v5
  refine ⟨p6, .d (.bool false), v6, ?_⟩
  clear two
  generalize L.map PyData.int = A at *
  have e : forL (gN 6) l3b_law_k44 [.none, .bool true, .str "1", .tuple [.int 1], .list [.int 1], .bool false] [a, .d k, .own false (pl p), .d (.list A), t4, t5, t6, t7] = .ok ([a, .d k, .own false (pl p6), .d (.list A), t4, t5, .d (.bool false), v6], .nx) := by
    rw [forL_nx rfl b1, forL_nx rfl b2, forL_nx rfl b3, forL_nx rfl b4, forL_nx rfl b5, forL_nx rfl b6]
    rfl
  unfold l3_law_k44 sFor
  simp [e]
theorem law44_turn (ns : List Int) (k : Nat) (hk : k < 64) (t2 t3 t4 t5 t6 t7 : Sl) : ∃ u2 u3 u4 u5 u6 u7, l4b_law_k44 [.scr ns, .d (.int k), t2, t3, t4, t5, t6, t7] = .ok ([.scr ns, .d (.int k), u2, u3, u4, u5, u6, u7], .nx) := by
  obtain ⟨p, e1⟩ := pool40_ok ns k hk
  obtain ⟨q, L, e2, hL⟩ := row44_ok p 6 (by decide)
  obtain ⟨u4, u5, e3⟩ := law44_twice (.scr ns) (.int k) (.own false (pl q)) L hL t4 t5 t6 t7
  obtain ⟨q2, v, e4⟩ := law44_dozen (.scr ns) (.int k) q (.d (.list (L.map .int))) u4 u5 t6 t7
  have e5 := dozen_ok v
  obtain ⟨q3, u6, u7, e6⟩ := law44_odd (.scr ns) (.int k) q2 L hL u4 u5 t6 t7
  have e2 : m__law_row_k44 [.own true (pl p), .d (.int 6)] = .ok ([.own true (pl q), .d (.int 6)], .f (L.map .int)) := e2
  refine ⟨.own false (pl q3), .d (.list (L.map .int)), u4, u5, u6, u7, ?_⟩
  generalize L.map PyData.int = A at *
  generalize rowD 12 v = C at *
  simp [l4b_law_k44, e1, e2, e3, e4, e5, e6]
theorem law_k44_true (ns : List Int) (hn : ns.length ≤ 63) : ∃ Γ, m_law_k44 [.scr ns] = .ok (Γ, .d (.bool true)) := by
  obtain ⟨⟨u1, u2, u3, u4, u5, u6, u7⟩, e⟩ := forL_same (g := gN 1) (b := l4b_law_k44) (fun t : Sl × Sl × Sl × Sl × Sl × Sl × Sl => [.scr ns, t.1, t.2.1, t.2.2.1, t.2.2.2.1, t.2.2.2.2.1, t.2.2.2.2.2.1, t.2.2.2.2.2.2]) (rangeD 0 (max 1 (min (ns.length : Int) 10)).toNat) (.un, .un, .un, .un, .un, .un, .un) fun x hx t => by
    obtain ⟨i, hi, rfl⟩ := List.mem_map.mp hx
    have hk : i < 64 := by have := List.mem_range.mp hi; omega
    obtain ⟨u2, u3, u4, u5, u6, u7, e⟩ := law44_turn ns i hk t.2.1 t.2.2.1 t.2.2.2.1 t.2.2.2.2.1 t.2.2.2.2.2.1 t.2.2.2.2.2.2
    have e0 : (0 : Int) + (i : Int) = i := by omega
    exact ⟨_, (.d (.int i), u2, u3, u4, u5, u6, u7), rfl, by rw [e0]; exact e⟩
  have hl : l4_law_k44 [.scr ns, .un, .un, .un, .un, .un, .un, .un] = .ok ([.scr ns, u1, u2, u3, u4, u5, u6, u7], .nx) := by
    unfold l4_law_k44 sFor
    have r := z_rng1 (k := max 1 (min (ns.length : Int) 10)) (by omega) (by omega)
    simp [sLenScr, r]
    exact e
  exact ⟨_, by simp [m_law_k44, b_law_k44, hl]; rfl⟩
end Qa
theorem Lk44.the_law (ns : List Int) (h1 : ns.length ≤ 63) (h2 : ∀ z ∈ ns, PySem.Builtin.Int.intBits z ≤ 1048576) : ∃ Γ, Pg.m_law_k44 [.scr ns] = .ok (Γ, .d (.bool true)) := Qa.law_k44_true ns h1
open PySem PySem.W PyProof.Rows
set_option maxHeartbeats 0 in
theorem PySem.Challenge.cw_skylineeffect_k44_hidden_by_holds : PySem.Challenge.rw_skylineeffect_k44_hidden_by.Holds := by
  w_on; o_law; k_head; (case hw => w_witness2)
  k_fill
  refine Mi.walkG (l := PySem.Challenge.rw_skylineeffect_k44_hidden_by) (n := 63) (k := 7) (x := "_law_script") (m := Pg.m_law_k44) rfl (by decide) rfl ⟨rfl, by decide, by decide⟩ (fun w h Y => PySem.W.kIn_of Y) ?F Lk44.the_law
  case F =>
    intro w mg fa h Y KX G hmg
    refine Mi.wG0 ?_
    intro inst
    refine' Lk44.all_mk KX G hmg ?a_is_integer ?l_is_integer ?c_is_integer ?k_is_integer ?a__law_pool ?l__law_pool ?c__law_pool ?k__law_pool ?a__law_take ?l__law_take ?c__law_take ?k__law_take ?a__law_due ?l__law_due ?c__law_due ?k__law_due ?a__law_numbers ?l__law_numbers ?c__law_numbers ?k__law_numbers ?a_check_number ?l_check_number ?c_check_number ?k_check_number ?a__law_row ?l__law_row ?c__law_row ?k__law_row ?a_hidden_by ?l_hidden_by ?c_hidden_by ?k_hidden_by ?a__law_hidden ?l__law_hidden ?c__law_hidden ?k__law_hidden ?a__law_dozen_right ?l__law_dozen_right ?c__law_dozen_right ?k__law_dozen_right ?a__law_refused ?l__law_refused ?c__law_refused ?k__law_refused ?a_law ?l_law ?c_law ?k_law ?z_abs ?z_bool ?z_enumerate ?z_int ?z_isinstance ?z_len ?z_max ?z_min ?z_range ?z_repr ?a_SkylineError ?a_InvalidNumber ?x_InvalidNumber ?sa_InvalidNumber ?nb_InvalidNumber ?i_InvalidNumber ?t_InvalidNumber ?l_InvalidNumber ?c_InvalidNumber ?k_InvalidNumber ?kC_InvalidNumber ?e_InvalidNumber ?tC_InvalidNumber ?za_InvalidStack ?za_InvalidSequence ?za_InvalidEffect ?za_InvalidText ?za_InvalidCommand ?za_StepFailed ?za_LimitExceeded ?za_UnknownUser ?za_UnknownName ?za_NothingToUndo ?ic_InvalidNumber ?u_InvalidNumber_InvalidNumber ?ga_InvalidNumber ?gg_InvalidNumber ?hd_InvalidNumber ?e_SkylineError ?tC_SkylineError ?ic_SkylineError ?u_InvalidNumber_SkylineError
    (case a_is_integer => k_is); (case l_is_integer => k_is); (case c_is_integer => k_is); (case k_is_integer => k_is); (case a__law_pool => k_is); (case l__law_pool => k_is); (case c__law_pool => k_is); (case k__law_pool => k_is); (case a__law_take => k_is); (case l__law_take => k_is); (case c__law_take => k_is); (case k__law_take => k_is); (case a__law_due => k_is); (case l__law_due => k_is); (case c__law_due => k_is); (case k__law_due => k_is); (case a__law_numbers => k_is); (case l__law_numbers => k_is); (case c__law_numbers => k_is); (case k__law_numbers => k_is); (case a_check_number => k_is); (case l_check_number => k_is); (case c_check_number => k_is); (case k_check_number => k_is); (case a__law_row => k_is); (case l__law_row => k_is); (case c__law_row => k_is); (case k__law_row => k_is); (case a_hidden_by => k_is); (case l_hidden_by => k_is); (case c_hidden_by => k_is); (case k_hidden_by => k_is); (case a__law_hidden => k_is); (case l__law_hidden => k_is); (case c__law_hidden => k_is); (case k__law_hidden => k_is); (case a__law_dozen_right => k_is); (case l__law_dozen_right => k_is); (case c__law_dozen_right => k_is); (case k__law_dozen_right => k_is); (case a__law_refused => k_is); (case l__law_refused => k_is); (case c__law_refused => k_is); (case k__law_refused => k_is); (case a_law => k_is); (case l_law => k_is); (case c_law => k_is); (case k_law => k_is); (case z_abs => k_is); (case z_bool => k_is); (case z_enumerate => k_is); (case z_int => k_is); (case z_isinstance => k_is); (case z_len => k_is); (case z_max => k_is); (case z_min => k_is); (case z_range => k_is); (case z_repr => k_is); (case a_SkylineError => k_is); (case a_InvalidNumber => k_is); (case x_InvalidNumber => k_is); (case sa_InvalidNumber => k_is); (case nb_InvalidNumber => k_is); (case i_InvalidNumber => k_is); (case t_InvalidNumber => k_is); (case l_InvalidNumber => k_is); (case c_InvalidNumber => k_is); (case k_InvalidNumber => k_is); (case kC_InvalidNumber => k_is); (case e_InvalidNumber => k_is); (case tC_InvalidNumber => k_is); (case za_InvalidStack => k_is); (case za_InvalidSequence => k_is); (case za_InvalidEffect => k_is); (case za_InvalidText => k_is); (case za_InvalidCommand => k_is); (case za_StepFailed => k_is); (case za_LimitExceeded => k_is); (case za_UnknownUser => k_is); (case za_UnknownName => k_is); (case za_NothingToUndo => k_is); (case ic_InvalidNumber => k_is); (case u_InvalidNumber_InvalidNumber => k_is); (case ga_InvalidNumber => k_is); (case gg_InvalidNumber => k_is); (case hd_InvalidNumber => k_is); (case e_SkylineError => k_is); (case tC_SkylineError => k_is); (case ic_SkylineError => k_is); (case u_InvalidNumber_SkylineError => k_is)
