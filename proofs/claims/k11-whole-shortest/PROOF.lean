import PyProof.Rows.All
import Wide.All
import OpenK.AllK
import Wide.FinOn
import HandS.ForMost
import HandS.ForExc
import HandS.Evl
import HandS.Star
import HandS.Style
import HandS.TupAny
import HandS.IsInst
import HandS.Zip
import HandS.Lambda
import HandS.Wide
import HandS.TupMul
import HandS.WideBits
import KE.GoesMore
import KE.GoesEnumKw
import PyProof.Rows.CallKwBuiltin
import HandS.EndBits
import HandS.EndTab
import KE.KNestM
import PyProof.RulesMatchSeq
import PyProof.Rows.MatchSeqLen
import KE.SortData
import PyProof.TupleOfSeq
import PyProof.ReprRoads
import HandS.Deep
import KE.KDictZip
import KE.GoesZip
import HandS.GenList
import HandS.MapObj
import HandS.Conv
import KE.GoesEnum
import KE.DataMinMax
import HandS.TryOnly
import HandS.ExcInit
import KE.KExcInit
import HandS.TryMany
import HandS.ExcValue
import HandS.ExcIs
import KE.KDictKeyed
import HandS.Dict
import KE.KDictWalk
import KE.KDictDisplayH
import PyProof.DictRoadsH
import HandS.Iter
import PySem.Challenge.RW_skylineeffect_k11_whole_shortest
set_option Elab.async false
set_option linter.all false
set_option maxRecDepth 100000
set_option maxHeartbeats 4000000
namespace Mi
open PySem L2 Evl

abbrev D := PyData
class Tbl where
  T : List (Addr × Str)
  uniq : ∀ p ∈ T, ∀ q ∈ T, p.1 = q.1 → p.2 = q.2
  C : List (Addr × Str)
  M : Hp
  F : Addr
structure Tabs [Tbl] (H : Hp) : Prop where
  t : LamX.Tabs Tbl.T H
  c : ∀ p ∈ Tbl.C, H p.1 = some (LamX.CodeO p.1 p.2)
theorem tabs_upd [Tbl] {H : Hp} {a : Addr} {o : HO} (h : (∃ xs, H a = some (.lst xs)) ∨ H a = none) (t : Tabs H) : Tabs (upd H a o) := by
  have ne : ∀ {b : Addr} {u : HO}, H b = some u → (∀ xs, u ≠ .lst xs) → b ≠ a := fun {b u} e n z => by
    rcases h with ⟨xs, q⟩ | q
    · rw [z, q] at e; cases e; exact n xs rfl
    · rw [z, q] at e; cases e
  refine ⟨fun p hp => ?_, fun p hp => ?_⟩
  · obtain ⟨ps, h1, h2, h3⟩ := t.t p hp
    refine ⟨ps, by rw [upd_ne (ne h1 fun xs z => by cases z)]; exact h1, h2, fun pos cv hc => ?_⟩
    obtain ⟨c, e1, e2⟩ := h3 pos cv hc
    exact ⟨c, e1, by rw [upd_ne (ne e2 fun xs z => by unfold LamX.CodeO at z; cases z)]; exact e2⟩
  · rw [upd_ne (ne (t.c p hp) fun xs z => by unfold LamX.CodeO at z; cases z)]
    exact t.c p hp
def DctO (a : Addr) (es : List (V × Int × V)) : HO := .ext fun h => ∃ (ob : Obj) (ds : Array DictEntry) (ep : Nat), h.get? a = some ob ∧ ob.ExactDict ∧ ob.data = .dict ds ep ∧ Paired (fun (e : V × Int × V) (d : DictEntry) => RelV e.1 d.key ∧ d.hash = e.2.1 ∧ RelV e.2.2 d.val) es ds.toList
mutual
/-- Python's hash of ints and tuples of such -/
def hashD : D → Int
  | .int i => hashInt i
  | .none => reduceHash 0xFCA86420
  | .tuple xs => reduceHash (Builtin.Tuple.tupleHashOf (hashDs xs))
  | .bool _ => 0
  | .str _ => 0
  | .list _ => 0
  | .dict _ => 0
def hashDs : List D → List Int
  | [] => []
  | x :: xs => hashD x :: hashDs xs
end
mutual
/-- ints, None and tuples of such -/
def keyOk : D → Bool
  | .int _ => true
  | .none => true
  | .tuple xs => keyOks xs
  | .bool _ => false
  | .str _ => false
  | .list _ => false
  | .dict _ => false
def keyOks : List D → Bool
  | [] => true
  | x :: xs => keyOk x && keyOks xs
end
mutual
/-- how deep the tuples go -/
def deepD : D → Nat
  | .tuple xs => deepDs xs + 1
  | .int _ => 0
  | .none => 0
  | .bool _ => 0
  | .str _ => 0
  | .list _ => 0
  | .dict _ => 0
def deepDs : List D → Nat
  | [] => 0
  | x :: xs => max (deepD x) (deepDs xs)
end
def keyT (k : D) : Prop := keyOk k = true ∧ deepD k ≤ 8 ∧ ∃ xs, k = .tuple xs
structure KvsOk (kvs : List (D × D)) : Prop where
  len : kvs.length ≤ sizeLine
  nd : (kvs.map (·.1)).Nodup
  key : ∀ kv ∈ kvs, keyT kv.1
def svV : D → Option V
  | .int i => some (.int i)
  | .bool b => some (.bl b)
  | .none => some .non
  | .str _ => none
  | .tuple _ => none
  | .list _ => none
  | .dict _ => none
def EntR (K : PySem.W.Frag) (H : Hp) (e : V × Int × V) (kv : D × D) : Prop := Dp K H e.1 kv.1 ∧ e.2.1 = hashD kv.1 ∧ svV kv.2 = some e.2.2
structure DOk (K : PySem.W.Frag) (H : Hp) (a : Addr) (es : List (V × Int × V)) (kvs : List (D × D)) : Prop where
  ns : (a == sysModules) = false
  ok : KvsOk kvs
  ent : Paired (EntR K H) es kvs
mutual
theorem dp_mono {K : PySem.W.Frag} {H H' : Hp} (e : Ex H H') : ∀ (x : D) (v : V), Dp K H v x → Dp K H' v x
  | .none, _, h => by cases h; exact .non
  | .bool b, _, h => by cases h; exact .bl b
  | .int i, _, h => by cases h; exact .int i
  | .str s, _, h => by cases h; exact .str s
  | .list ds, _, h => by
    cases h with
    | lst h1 h2 => exact .lst (ex_l e h1) (dps_mono e ds _ h2)
  | .tuple ds, _, h => by
    cases h with
    | tup h1 h2 => exact .tup (ex_t e h1) (dps_mono e ds _ h2)
  | .dict _, _, h => by cases h
theorem dps_mono {K : PySem.W.Frag} {H H' : Hp} (e : Ex H H') : ∀ (xs : List D) (vs : List V), DpAll K H vs xs → DpAll K H' vs xs
  | [], _, h => by cases h; exact .nil
  | d :: ds, _, h => by
    cases h with
    | cons h1 h2 => exact .cons (dp_mono e d _ h1) (dps_mono e ds _ h2)
end
theorem DOk.m {K : PySem.W.Frag} {H H' : Hp} {a : Addr} {es : List (V × Int × V)} {kvs : List (D × D)} (h : DOk K H a es kvs) (e : Ex H H') : DOk K H' a es kvs :=
  ⟨h.ns, h.ok, L2.Paired.mapP h.ent fun x y ⟨a, b, c⟩ => ⟨dp_mono e _ _ a, b, c⟩⟩
mutual
inductive Rp (K : PySem.W.Frag) (H : Hp) : V → D → Prop
  | non : Rp K H .non .none
  | bl (b : Bool) : Rp K H (.bl b) (.bool b)
  | int (i : Int) : Rp K H (.int i) (.int i)
  | str (x : Str) : Rp K H (.str x) (.str x)
  | lst {a : Addr} {xs : List V} {ds : List D} : H a = some (.lst xs) → RpAll K H xs ds → Rp K H (.ref a) (.list ds)
  | tup {a : Addr} {xs : List V} {ds : List D} : SqT K H a xs → RpAll K H xs ds → Rp K H (.ref a) (.tuple ds)
  | dct {a : Addr} : H a = some (.dK []) → Rp K H (.ref a) (.dict [])
  | dctF {a : Addr} {ob : Obj} {es : List (V × Int × V)} {kv : D × D} {kvs : List (D × D)} : H a = some (.frz ob (DctO a es)) → DOk K H a es (kv :: kvs) → Rp K H (.ref a) (.dict (kv :: kvs))
inductive RpAll (K : PySem.W.Frag) (H : Hp) : List V → List D → Prop
  | nil : RpAll K H [] []
  | cons {v : V} {vs : List V} {d : D} {ds : List D} : Rp K H v d → RpAll K H vs ds → RpAll K H (v :: vs) (d :: ds)
end
section
variable {K : PySem.W.Frag} {H H' : Hp}
mutual
theorem Rp.mono (e : Ex H H') : ∀ (x : D) (v : V), Rp K H v x → Rp K H' v x
  | .none, _, h => by cases h; exact .non
  | .bool b, _, h => by cases h; exact .bl b
  | .int i, _, h => by cases h; exact .int i
  | .str s, _, h => by cases h; exact .str s
  | .list ds, _, h => by
    cases h with
    | lst h1 h2 => exact .lst (e _ _ h1) (RpAll.mono e ds _ h2)
  | .tuple ds, _, h => by
    cases h with
    | tup h1 h2 => exact .tup (ex_t e h1) (RpAll.mono e ds _ h2)
  | .dict _, _, h => by
    cases h with
    | dct h1 => exact .dct (e _ _ h1)
    | dctF h1 h2 => exact .dctF (e _ _ h1) (h2.m e)
theorem RpAll.mono (e : Ex H H') : ∀ (xs : List D) (vs : List V), RpAll K H vs xs → RpAll K H' vs xs
  | [], _, h => by cases h; exact .nil
  | d :: ds, _, h => by
    cases h with
    | cons h1 h2 => exact .cons (Rp.mono e d _ h1) (RpAll.mono e ds _ h2)
end
theorem noD_list {ds : List D} (h : (PyData.list ds).hasDict = false) : PyData.hasDictAll ds = false := by simpa [PyData.hasDict] using h
theorem noD_tup {ds : List D} (h : (PyData.tuple ds).hasDict = false) : PyData.hasDictAll ds = false := by simpa [PyData.hasDict] using h
mutual
theorem Rp.dp : ∀ (x : D) (v : V), Rp K H v x → x.hasDict = false → Dp K H v x
  | .none, _, h, _ => by cases h; exact .non
  | .bool b, _, h, _ => by cases h; exact .bl b
  | .int i, _, h, _ => by cases h; exact .int i
  | .str s, _, h, _ => by cases h; exact .str s
  | .list ds, _, h, q => by
    cases h with
    | lst h1 h2 => exact .lst (SqL.of h1) (RpAll.dp ds _ h2 (noD_list q))
  | .tuple ds, _, h, q => by
    cases h with
    | tup h1 h2 => exact .tup h1 (RpAll.dp ds _ h2 (noD_tup q))
  | .dict _, _, h, q => by simp [PyData.hasDict] at q
theorem RpAll.dp : ∀ (xs : List D) (vs : List V), RpAll K H vs xs → PyData.hasDictAll xs = false → DpAll K H vs xs
  | [], _, h, _ => by cases h; exact .nil
  | d :: ds, _, h, q => by
    cases h with
    | cons h1 h2 =>
      simp only [PyData.hasDictAll, Bool.or_eq_false_iff] at q
      exact .cons (Rp.dp d _ h1 q.1) (RpAll.dp ds _ h2 q.2)
end
theorem Rp.m {x : D} {v : V} (h : Rp K H v x) (e : Ex H H') : Rp K H' v x := Rp.mono e _ _ h
theorem RpAll.m {x : List D} {v : List V} (h : RpAll K H v x) (e : Ex H H') : RpAll K H' v x := RpAll.mono e _ _ h
theorem RpAll.len : ∀ {xs : List D} {vs : List V}, RpAll K H vs xs → vs.length = xs.length
  | [], _, h => by cases h; rfl
  | _ :: _, _, h => by
    cases h with
    | cons _ h2 => simp [RpAll.len h2]
theorem RpAll.app : ∀ {xs ys : List D} {vs ws : List V}, RpAll K H vs xs → RpAll K H ws ys → RpAll K H (vs ++ ws) (xs ++ ys)
  | [], _, _, _, h, h' => by cases h; exact h'
  | _ :: _, _, _, _, h, h' => by
    cases h with
    | cons h1 h2 => exact .cons h1 (RpAll.app h2 h')
theorem RpAll.one {x : D} {v : V} (h : Rp K H v x) : RpAll K H [v] [x] := .cons h .nil
theorem RpAll.get : ∀ {xs : List D} {vs : List V} {i : Nat} {x : D}, RpAll K H vs xs → xs[i]? = some x → ∃ v, vs[i]? = some v ∧ Rp K H v x
  | [], _, i, _, _, e => by simp at e
  | d :: ds, _, 0, x, h, e => by
    cases h with
    | cons h1 h2 => simp at e; subst e; exact ⟨_, rfl, h1⟩
  | d :: ds, _, i + 1, x, h, e => by
    cases h with
    | cons h1 h2 =>
      obtain ⟨v, e1, r⟩ := RpAll.get (i := i) h2 (by simpa using e)
      exact ⟨v, by simpa using e1, r⟩
theorem RpAll.take : ∀ {xs : List D} {vs : List V} (n : Nat), RpAll K H vs xs → RpAll K H (vs.take n) (xs.take n)
  | _, _, 0, h => by simp; exact .nil
  | [], _, _ + 1, h => by cases h; exact .nil
  | d :: ds, _, n + 1, h => by
    cases h with
    | cons h1 h2 => simp; exact .cons h1 (RpAll.take n h2)
theorem RpAll.drop : ∀ {xs : List D} {vs : List V} (n : Nat), RpAll K H vs xs → RpAll K H (vs.drop n) (xs.drop n)
  | _, _, 0, h => by simpa using h
  | [], _, _ + 1, h => by cases h; exact .nil
  | d :: ds, _, n + 1, h => by
    cases h with
    | cons h1 h2 => simp; exact RpAll.drop n h2
theorem RpAll.set : ∀ {xs : List D} {vs : List V} (n : Nat) {x : D} {v : V}, RpAll K H vs xs → Rp K H v x → RpAll K H (vs.set n v) (xs.set n x)
  | [], _, n, _, _, h, _ => by cases h; simp; exact .nil
  | d :: ds, _, 0, x, v, h, r => by
    cases h with
    | cons h1 h2 => simp; exact .cons r h2
  | d :: ds, _, n + 1, x, v, h, r => by
    cases h with
    | cons h1 h2 => simp; exact .cons h1 (RpAll.set n h2 r)
theorem RpAll.eraseIdx : ∀ {xs : List D} {vs : List V} (n : Nat), RpAll K H vs xs → RpAll K H (vs.eraseIdx n) (xs.eraseIdx n)
  | [], _, n, h => by cases h; simp; exact .nil
  | d :: ds, _, 0, h => by
    cases h with
    | cons h1 h2 => simp; exact h2
  | d :: ds, _, n + 1, h => by
    cases h with
    | cons h1 h2 => simp; exact .cons h1 (RpAll.eraseIdx n h2)
theorem RpAll.dropLast {xs : List D} {vs : List V} (h : RpAll K H vs xs) : RpAll K H vs.dropLast xs.dropLast := by
  rw [List.dropLast_eq_take, List.dropLast_eq_take, h.len]; exact h.take _
theorem RpAll.rev : ∀ {xs : List D} {vs : List V}, RpAll K H vs xs → RpAll K H vs.reverse xs.reverse
  | [], _, h => by cases h; exact .nil
  | d :: ds, _, h => by
    cases h with
    | cons h1 h2 => simp; exact (RpAll.rev h2).app (.one h1)
theorem RpAll.rep {xs : List D} {vs : List V} (h : RpAll K H vs xs) : ∀ k : Nat, RpAll K H (List.replicate k vs).flatten (List.replicate k xs).flatten
  | 0 => by simp; exact .nil
  | k + 1 => by
    rw [List.replicate_succ, List.replicate_succ, List.flatten_cons, List.flatten_cons]
    exact h.app (h.rep k)
end

inductive OT where
  | dct (kvs : List (D × D))
  | ins (c : Str) (fs : List (Str × D))
inductive Ow where
  | b (io : Bool)
  | o (io : Bool) (t : OT)
instance : Coe Bool Ow := ⟨Ow.b⟩
def Ow.io : Ow → Bool
  | .b k => k
  | .o k _ => k
inductive Sl where
  | un
  | d (x : D)
  | own (io : Ow) (xs : List D)
  | scr (ns : List Int)
  | cl
abbrev Ga := List Sl
inductive Res (α : Type) where
  | ok (a : α)
  | exc (c : Str) (x : D)
  | stuck
inductive R where
  | d (x : D)
  | f (xs : List D)
inductive Fl where
  | nx
  | rt (r : R)
  | bk
  | ct
def Res.bind {α β : Type} (r : Res α) (f : α → Res β) : Res β := match r with
  | .ok a => f a
  | .exc c x => .exc c x
  | .stuck => .stuck
@[simp] theorem bind_ok {α β : Type} (a : α) (f : α → Res β) : (Res.ok a).bind f = f a := rfl
@[simp] theorem bind_exc {α β : Type} (c : Str) (x : D) (f : α → Res β) : (Res.exc c x : Res α).bind f = .exc c x := rfl
@[simp] theorem bind_stuck {α β : Type} (f : α → Res β) : (Res.stuck : Res α).bind f = .stuck := rfl
def fieldOf (c : Str) : Str := if c = "InvalidSequence" ∨ c = "StepFailed" then "index" else if c = "InvalidCommand" then "word" else if c = "LimitExceeded" then "limit"
  else if c = "UnknownUser" ∨ c = "NothingToUndo" then "user" else if c = "UnknownName" then "name" else "value"

variable [Tbl]
structure Bg where
  He0 : Hp
  He : Hp
  io : Nat → Option Addr
def OwnOf (σ : L2.St) (Γ : Ga) (p : Addr) : Prop := ∃ (i : Nat) (b : Ow) (xs : List D), Γ[i]? = some (Sl.own b xs) ∧ σ[i]? = some (some (.ref p))
def NoT (H0 : Hp) : Prop := ∀ p ps, H0 p ≠ some (.tbl ps)
omit [Tbl] in
theorem NoT.upd {H0 : Hp} {a : Addr} {o : HO} (h : NoT H0) (ho : ∀ ps, o ≠ .tbl ps) : NoT (upd H0 a o) := fun p ps e => by
  unfold L2.upd at e
  split at e
  · exact ho ps (Option.some.inj e)
  · exact h p ps e
structure Past (H0 : Hp) : Prop where
  ex : Ex Tbl.M H0
  nt : NoT H0
theorem Past.upd {H0 : Hp} {a : Addr} {o : HO} (h : Past H0) (e : Ex H0 (upd H0 a o)) (ho : ∀ ps, o ≠ .tbl ps) : Past (upd H0 a o) := ⟨h.ex.trans e, h.nt.upd ho⟩
structure Grow (O : Addr → Prop) (H0 H H0' H' : Hp) : Prop where
  ex0 : Ex H0 H0'
  keep : ∀ p o, H p = some o → ¬ O p → (∀ ps, o ≠ .tbl ps) → H' p = some o
  old : ∀ p, H p ≠ none → ¬ O p → H0' p = H0 p
  live : ∀ p, H p ≠ none → H' p ≠ none
  tab : Tabs H → Tabs H'
  nt : NoT H0 → NoT H0'
theorem Grow.refl (O : Addr → Prop) (H0 H : Hp) : Grow O H0 H H0 H := ⟨Ex.refl _, fun _ _ h _ _ => h, fun _ _ _ => rfl, fun _ h => h, fun h => h, fun h => h⟩
theorem Grow.trans {O O' : Addr → Prop} {H0 H H01 H1 H02 H2 : Hp} (a : Grow O H0 H H01 H1) (b : Grow O' H01 H1 H02 H2) (h : ∀ p, O' p → O p ∨ H p = none) : Grow O H0 H H02 H2 where
  ex0 := a.ex0.trans b.ex0
  keep := fun p o e n y => b.keep p o (a.keep p o e n y) (fun z => (h p z).elim n fun q => by rw [e] at q; cases q) y
  old := fun p e n => by
    have n' : ¬ O' p := fun z => (h p z).elim n e
    rw [b.old p (a.live p e) n', a.old p e n]
  live := fun p e => b.live p (a.live p e)
  tab := fun t => b.tab (a.tab t)
  nt := fun t => b.nt (a.nt t)
theorem Grow.wide {O O' : Addr → Prop} {H0 H H01 H1 : Hp} (a : Grow O H0 H H01 H1) (h : ∀ p, O p → O' p) : Grow O' H0 H H01 H1 :=
  ⟨a.ex0, fun p o e n => a.keep p o e fun z => n (h p z), fun p e n => a.old p e fun z => n (h p z), a.live, a.tab, a.nt⟩

def OTR (K : PySem.W.Frag) (H0 : Hp) (a : Addr) (o : HO) : OT → Prop
  | .dct kvs => ∃ es, o = DctO a es ∧ DOk K H0 a es kvs
  | .ins _ _ => False
omit [Tbl] in
theorem OTR.m {K : PySem.W.Frag} {H0 H0' : Hp} {a : Addr} {o : HO} {t : OT} (h : OTR K H0 a o t) (e : Ex H0 H0') : OTR K H0' a o t := by
  cases t with
  | dct kvs =>
    obtain ⟨es, h1, h2⟩ := h
    exact ⟨es, h1, h2.m e⟩
  | ins c fs => exact h.elim
def OwnR (K : PySem.W.Frag) (H0 : Hp) (a : Addr) (b : Ow) (xs : List D) (o : HO) : Prop := match b with
  | .b _ => ∃ vs, o = .lst vs ∧ RpAll K H0 vs xs
  | .o _ t => OTR K H0 a o t
omit [Tbl] in
theorem OwnR.m {K : PySem.W.Frag} {H0 H0' : Hp} {a : Addr} {b : Ow} {xs : List D} {o : HO} (h : OwnR K H0 a b xs o) (e : Ex H0 H0') : OwnR K H0' a b xs o := by
  cases b with
  | b k =>
    obtain ⟨vs, h1, h2⟩ := h
    exact ⟨vs, h1, h2.m e⟩
  | o k t => exact OTR.m h e
omit [Tbl] in
theorem OwnR.notbl {K : PySem.W.Frag} {H0 : Hp} {a : Addr} {b : Ow} {xs : List D} {o : HO} (h : OwnR K H0 a b xs o) : ∀ ps, o ≠ .tbl ps := by
  intro ps z
  subst z
  cases b with
  | b k =>
    obtain ⟨vs, h1, _⟩ := h
    cases h1
  | o k t =>
    cases t with
    | dct kvs =>
      obtain ⟨es, h1, _⟩ := h
      unfold DctO at h1
      cases h1
    | ins c fs => exact h
structure EnvOk (K : PySem.W.Frag) (B : Bg) (σ : L2.St) (Γ : Ga) (H0 H : Hp) : Prop where
  sub : Ex H0 H
  len : Γ.length = σ.length
  dat : ∀ (i : Nat) x, Γ[i]? = some (.d x) → ∃ v, σ[i]? = some (some v) ∧ Rp K H0 v x
  scr : ∀ (i : Nat) ns, Γ[i]? = some (.scr ns) → ∃ a, σ[i]? = some (some (.ref a)) ∧ SqL K H0 a (ns.map V.int)
  own : ∀ (i : Nat) b xs, Γ[i]? = some (.own b xs) → ∃ a o, σ[i]? = some (some (.ref a)) ∧ H0 a = none ∧ H a = some o ∧ OwnR K H0 a b xs o ∧ (b.io = true → B.io i = some a) ∧ (b.io = false → B.He a = none)
  apart : ∀ (i j : Nat) b c xs ys a, i ≠ j → Γ[i]? = some (.own b xs) → Γ[j]? = some (.own c ys) → σ[i]? = some (some (.ref a)) → σ[j]? ≠ some (some (.ref a))
  grow : Grow (fun p => ∃ i, B.io i = some p) B.He0 B.He H0 H
  tabs : Tabs H
  past : Past H0
  cl : ∀ i : Nat, Γ[i]? = some .cl → σ[i]? = some (some (.ref Tbl.F))

omit [Tbl] in
theorem cl_of_set {Γ : Ga} {j : Nat} {s : Sl} (hs : s ≠ .cl) (i : Nat) (h : (Γ.set j s)[i]? = some .cl) : Γ[i]? = some .cl := by
  rw [List.getElem?_set] at h
  split at h
  · split at h
    · exact absurd (Option.some.inj h) hs
    · cases h
  · exact h
def Less (Γ Γ' : Ga) : Prop := ∀ (i : Nat) b ys, Γ'[i]? = some (.own b ys) → ∃ xs, Γ[i]? = some (.own b xs)
theorem Less.refl (Γ : Ga) : Less Γ Γ := fun _ _ _ h => ⟨_, h⟩
theorem Less.trans {Γ Γ1 Γ2 : Ga} (a : Less Γ Γ1) (b : Less Γ1 Γ2) : Less Γ Γ2 := fun i c ys h => let ⟨_, h1⟩ := b i c ys h; a i c _ h1
theorem Less.own {Γ Γ' : Ga} (l : Less Γ Γ') {σ : L2.St} {p : Addr} (h : OwnOf σ Γ' p) : OwnOf σ Γ p := by
  obtain ⟨i, b, xs, h1, h2⟩ := h
  obtain ⟨ys, h3⟩ := l i b xs h1
  exact ⟨i, b, ys, h3, h2⟩

section
variable {K : PySem.W.Frag} {B : Bg} {σ : L2.St} {Γ Γ' : Ga} {H0 H H0' H' : Hp}
theorem EnvOk.ownL (ok : EnvOk K B σ Γ H0 H) (i : Nat) (b : Bool) (xs : List D) (h : Γ[i]? = some (.own b xs)) : ∃ a vs, σ[i]? = some (some (.ref a)) ∧ H0 a = none ∧ H a = some (.lst vs) ∧ RpAll K H0 vs xs ∧ (b = true → B.io i = some a) ∧ (b = false → B.He a = none) := by
  obtain ⟨a, o, e1, e2, e3, ⟨vs, rfl, e4⟩, e5, e6⟩ := ok.own i b xs h
  exact ⟨a, vs, e1, e2, e3, e4, e5, e6⟩
theorem EnvOk.ownLive (ok : EnvOk K B σ Γ H0 H) {p : Addr} (h : OwnOf σ Γ p) : H p ≠ none ∧ H0 p = none := by
  obtain ⟨i, b, xs, h1, h2⟩ := h
  obtain ⟨a, vs, e1, e2, e3, _⟩ := ok.own i b xs h1
  rw [h2] at e1; cases e1
  exact ⟨by rw [e3]; simp, e2⟩
theorem EnvOk.ioOr (ok : EnvOk K B σ Γ H0 H) {p : Addr} (h : OwnOf σ Γ p) : (∃ i, B.io i = some p) ∨ B.He p = none := by
  obtain ⟨i, b, xs, h1, h2⟩ := h
  obtain ⟨a, vs, e1, e2, e3, e4, e5, e6⟩ := ok.own i b xs h1
  rw [h2] at e1; cases e1
  cases hb : b.io with
  | true => exact .inl ⟨i, e5 hb⟩
  | false => exact .inr (e6 hb)
theorem EnvOk.step (ok : EnvOk K B σ Γ H0 H) (g : Grow (OwnOf σ Γ) H0 H H0' H') (sub : Ex H0' H')
    (hd : ∀ (i : Nat) x, Γ'[i]? = some (.d x) → Γ[i]? = some (.d x) ∨ ∃ v, σ[i]? = some (some v) ∧ Rp K H0' v x)
    (hs : ∀ (i : Nat) ns, Γ'[i]? = some (.scr ns) → Γ[i]? = some (.scr ns))
    (ho : ∀ (i : Nat) b ys, Γ'[i]? = some (.own b ys) → ∃ xs, Γ[i]? = some (.own b xs) ∧ ∀ a, σ[i]? = some (some (.ref a)) → H0' a = none ∧ ∃ o, H' a = some o ∧ OwnR K H0' a b ys o) (hl : Γ'.length = Γ.length := by simp) (hc : ∀ i : Nat, Γ'[i]? = some .cl → Γ[i]? = some .cl := by first | exact fun _ h => h | exact cl_of_set (by nofun)) : EnvOk K B σ Γ' H0' H' where
  sub := sub
  len := hl.trans ok.len
  dat := fun i x e => by
    rcases hd i x e with h | h
    · obtain ⟨v, e1, r⟩ := ok.dat i x h
      exact ⟨v, e1, r.m g.ex0⟩
    · exact h
  scr := fun i ns e => by
    obtain ⟨a, e1, r⟩ := ok.scr i ns (hs i ns e)
    exact ⟨a, e1, ex_l g.ex0 r⟩
  own := fun i b ys e => by
    obtain ⟨xs, e1, h⟩ := ho i b ys e
    obtain ⟨a, vs, q1, q2, q3, q4, q5, q6⟩ := ok.own i b xs e1
    obtain ⟨n0, ws, w1, w2⟩ := h a q1
    exact ⟨a, ws, q1, n0, w1, w2, q5, q6⟩
  apart := fun i j b c xs ys a hij e1 e2 => by
    obtain ⟨_, h1, _⟩ := ho i b xs e1
    obtain ⟨_, h2, _⟩ := ho j c ys e2
    exact ok.apart i j b c _ _ a hij h1 h2
  grow := ok.grow.trans g fun p z => ok.ioOr z
  tabs := g.tab ok.tabs
  past := ⟨ok.past.ex.trans g.ex0, g.nt ok.past.nt⟩
  cl := fun i h => ok.cl i (hc i h)
theorem EnvOk.same (ok : EnvOk K B σ Γ H0 H) (g : Grow (fun _ => False) H0 H H0' H') (sub : Ex H0' H') : EnvOk K B σ Γ H0' H' :=
  ok.step (g.wide fun _ h => h.elim) sub (fun _ _ h => .inl h) (fun _ _ h => h) fun i b ys h => ⟨ys, h, fun a e => by
    obtain ⟨a', vs, q1, q2, q3, q4, _⟩ := ok.own i b ys h
    rw [e] at q1; cases q1
    refine ⟨?_, vs, g.keep _ _ q3 id q4.notbl, q4.m g.ex0⟩
    rw [g.old a (by rw [q3]; simp) id]; exact q2⟩
theorem Grow.data {O : Addr → Prop} {p : Addr} {o : HO} (h : H p = none) (sub : Ex H0 H) (ho : ∀ ps, o ≠ .tbl ps := by intro _ z; cases z) : Grow O H0 H (upd H0 p o) (upd H p o) :=
  ⟨Ex.new (fresh_back sub h), fun q u e _ _ => by rw [upd_ne (ne_of_none e h)]; exact e, fun q e _ => upd_ne fun z => e (by rw [z]; exact h),
    fun q e => by
      unfold upd; split
      · simp
      · exact e, tabs_upd (.inr h), fun t => t.upd ho⟩
theorem Grow.fresh {O : Addr → Prop} {p : Addr} {o : HO} (h : H p = none) : Grow O H0 H H0 (upd H p o) :=
  ⟨Ex.refl _, fun q u e _ _ => by rw [upd_ne (ne_of_none e h)]; exact e, fun q e _ => rfl,
    fun q e => by
      unfold upd; split
      · simp
      · exact e, tabs_upd (.inr h), fun t => t⟩
theorem Ex.upd2 {p : Addr} {o : HO} (h : Ex H0 H) : Ex (upd H0 p o) (upd H p o) := fun q u e => by
  unfold upd at e ⊢
  split
  · rename_i z; rw [if_pos z] at e; exact e
  · rename_i z; rw [if_neg z] at e; exact h q u e
theorem Ex.upd1 {p : Addr} {o : HO} (h : Ex H0 H) (n : H0 p = none) : Ex H0 (upd H p o) := h.mut n
end

section
variable (X : Cx) (B : Bg) (E : XK)
def XW (c : Str) (x : D) : Prop := ∀ C d v H0' H', X.mg c = some (.ref C) → H' d = some (.xd [(fieldOf c, v)]) → Rp X.K H0' v x → Ex H0' H' → Grow (fun p => ∃ i, B.io i = some p) B.He0 B.He H0' H' → E (.ref C) (some d) H'
inductive RV (K : PySem.W.Frag) (H0 H H0' H' : Hp) : R → V → Prop
  | d {x : D} {v : V} : Rp K H0' v x → RV K H0 H H0' H' (.d x) v
  | f {xs : List D} {a : Addr} {vs : List V} : H a = none → H0' a = none → H' a = some (.lst vs) → RpAll K H0' vs xs → RV K H0 H H0' H' (.f xs) (.ref a)
def EW (σ : L2.St) (Γ : Ga) (H0 H : Hp) (r : Res (Ga × R)) (Q : VK) : Prop := match r with
  | .ok (Γ', x) => ∀ v H0' H', EnvOk X.K B σ Γ' H0' H' → Grow (OwnOf σ Γ) H0 H H0' H' → Less Γ Γ' → RV X.K H0 H H0' H' x v → Q v H'
  | .exc c x => XW X B E c x
  | .stuck => False
def DW (σ : L2.St) (Γ : Ga) (H0 H : Hp) (r : Res (Ga × D)) (Q : VK) : Prop := match r with
  | .ok (Γ', x) => ∀ v H0' H', EnvOk X.K B σ Γ' H0' H' → Grow (OwnOf σ Γ) H0 H H0' H' → Less Γ Γ' → Rp X.K H0' v x → Q v H'
  | .exc c x => XW X B E c x
  | .stuck => False
def TW (σ : L2.St) (Γ : Ga) (H0 H : Hp) (r : Res (Ga × Bool)) (Q : Bool → Hp → Prop) : Prop := match r with
  | .ok (Γ', b) => ∀ H0' H', EnvOk X.K B σ Γ' H0' H' → Grow (OwnOf σ Γ) H0 H H0' H' → Less Γ Γ' → Q b H'
  | .exc c x => XW X B E c x
  | .stuck => False
def AW (σ : L2.St) (Γ : Ga) (H0 H : Hp) (r : Res (Ga × List D)) (Q : List V → Hp → Prop) : Prop := match r with
  | .ok (Γ', xs) => ∀ vs H0' H', EnvOk X.K B σ Γ' H0' H' → Grow (OwnOf σ Γ) H0 H H0' H' → Less Γ Γ' → RpAll X.K H0' vs xs → Q vs H'
  | .exc c x => XW X B E c x
  | .stuck => False
end
structure JE (X : Cx) (E : XK) (e : Expr) (s : Ga → Res (Ga × R)) : Prop where
  ex : ∃ t, PE X e t ∧ ∀ B σ Γ H0 H Q, EnvOk X.K B σ Γ H0 H → EW X B E σ Γ H0 H (s Γ) Q → t σ H Q
structure JD (X : Cx) (E : XK) (e : Expr) (s : Ga → Res (Ga × D)) : Prop where
  ex : ∃ t, PE X e t ∧ ∀ B σ Γ H0 H Q, EnvOk X.K B σ Γ H0 H → DW X B E σ Γ H0 H (s Γ) Q → t σ H Q
structure JT (X : Cx) (E : XK) (e : Expr) (s : Ga → Res (Ga × Bool)) : Prop where
  ex : ∃ t, PT X e t ∧ ∀ B σ Γ H0 H Q, EnvOk X.K B σ Γ H0 H → TW X B E σ Γ H0 H (s Γ) Q → t σ H Q
structure JA (X : Cx) (E : XK) (es : List Expr) (s : Ga → Res (Ga × List D)) : Prop where
  ex : ∃ t, PA X es t ∧ ∀ B σ Γ H0 H Q, EnvOk X.K B σ Γ H0 H → AW X B E σ Γ H0 H (s Γ) Q → t σ H Q

def pubR : R → D
  | .d x => x
  | .f xs => .list xs
def sPub (s : Ga → Res (Ga × R)) : Ga → Res (Ga × D) := fun Γ => (s Γ).bind fun p => .ok (p.1, pubR p.2)
def sDat (s : Ga → Res (Ga × D)) : Ga → Res (Ga × R) := fun Γ => (s Γ).bind fun p => .ok (p.1, .d p.2)

section
variable {X : Cx} {E : XK} {e a b : Expr} {B : Bg} {σ : L2.St} {Γ Γ1 : Ga} {H0 H H01 H1 : Hp}
theorem pub_ok {K : PySem.W.Frag} {x : R} {v : V} (ok0 : EnvOk K B σ Γ H0 H) (ok : EnvOk K B σ Γ1 H01 H1) (g : Grow (OwnOf σ Γ) H0 H H01 H1) (l : Less Γ Γ1) (r : RV K H0 H H01 H1 x v) :
    ∃ H02, EnvOk K B σ Γ1 H02 H1 ∧ Grow (OwnOf σ Γ) H0 H H02 H1 ∧ Rp K H02 v (pubR x) := by
  cases r with
  | d r => exact ⟨H01, ok, g, r⟩
  | @f xs a vs na n0 e r =>
    have ex : Ex H01 (upd H01 a (.lst vs)) := Ex.new n0
    have sub : Ex (upd H01 a (.lst vs)) H1 := fun q u eq => by
      unfold upd at eq
      split at eq
      · rename_i z; cases eq; rw [z]; exact e
      · exact ok.sub q u eq
    have no : ¬ OwnOf σ Γ1 a := fun z => (ok0.ownLive (l.own z)).1 na
    have hb : B.He a = none := by
      cases q : B.He a with
      | none => rfl
      | some o => exact absurd na (ok0.grow.live a (by rw [q]; simp))
    have g2 : Grow (fun p => p = a) H01 H1 (upd H01 a (.lst vs)) H1 := ⟨ex, fun _ _ q _ _ => q, fun p _ n => upd_ne n, fun _ q => q, fun q => q, fun q => q.upd (by nofun)⟩
    refine ⟨upd H01 a (.lst vs), ?_, ?_, .lst upd_same (r.m ex)⟩
    · refine ⟨sub, ok.len, fun i x q => ?_, fun i ns q => ?_, fun i b xs q => ?_, ok.apart, ok.grow.trans g2 fun p z => .inr (by rw [z]; exact hb), ok.tabs, ok.past.upd ex (by nofun), ok.cl⟩
      · obtain ⟨v, e1, r1⟩ := ok.dat i x q
        exact ⟨v, e1, r1.m ex⟩
      · obtain ⟨v, e1, r1⟩ := ok.scr i ns q
        exact ⟨v, e1, ex_l ex r1⟩
      · obtain ⟨a', ws, q1, q2, q3, q4, q5, q6⟩ := ok.own i b xs q
        refine ⟨a', ws, q1, ?_, q3, q4.m ex, q5, q6⟩
        rw [upd_ne fun z => no ⟨i, b, xs, q, by rw [← z]; exact q1⟩]; exact q2
    · exact g.trans g2 fun p z => .inr (by rw [z]; exact na)
end
end Mi
namespace Mi
open PySem L2 Evl
variable [Tbl]

def RpB (K : PySem.W.Frag) (H0 H : Hp) (v : V) (x : D) : Prop := Rp K H0 v x ∨ ∃ a vs xs, v = .ref a ∧ x = .list xs ∧ H a = some (.lst vs) ∧ RpAll K H0 vs xs
section
variable {K : PySem.W.Frag} {H0 H : Hp} {v : V} {x : D}
omit [Tbl] in
theorem RpB.dp (r : RpB K H0 H v x) (s : Ex H0 H) (q : x.hasDict = false) : Dp K H v x := by
  rcases r with r | ⟨a, vs, xs, rfl, rfl, e, r⟩
  · exact (r.m s).dp _ _ q
  · exact .lst (SqL.of e) ((r.m s).dp _ _ (noD_list q))
omit [Tbl] in
theorem RpB.lst {xs : List D} (r : RpB K H0 H v (.list xs)) (s : Ex H0 H) : ∃ a vs, v = .ref a ∧ H a = some (.lst vs) ∧ RpAll K H0 vs xs := by
  rcases r with r | ⟨a, vs, ys, rfl, e, h, r⟩
  · cases r with
    | lst h1 h2 => exact ⟨_, _, rfl, s _ _ h1, h2⟩
  · cases e; exact ⟨a, vs, rfl, h, r⟩
omit [Tbl] in
theorem RpB.tup {xs : List D} (r : RpB K H0 H v (.tuple xs)) (s : Ex H0 H) : ∃ a vs, v = .ref a ∧ SqT K H a vs ∧ RpAll K H0 vs xs := by
  rcases r with r | ⟨a, vs, ys, rfl, e, h, r⟩
  · cases r with
    | tup h1 h2 => exact ⟨_, _, rfl, ex_t s h1, h2⟩
  · cases e
omit [Tbl] in
theorem RpB.int {i : Int} (r : RpB K H0 H v (.int i)) : v = .int i := by
  rcases r with r | ⟨a, vs, ys, rfl, e, h, r⟩
  · cases r; rfl
  · cases e
omit [Tbl] in
theorem RpB.bl {i : Bool} (r : RpB K H0 H v (.bool i)) : v = .bl i := by
  rcases r with r | ⟨a, vs, ys, rfl, e, h, r⟩
  · cases r; rfl
  · cases e
omit [Tbl] in
theorem RpB.str {i : Str} (r : RpB K H0 H v (.str i)) : v = .str i := by
  rcases r with r | ⟨a, vs, ys, rfl, e, h, r⟩
  · cases r; rfl
  · cases e
omit [Tbl] in
theorem RpB.non (r : RpB K H0 H v .none) : v = .non := by
  rcases r with r | ⟨a, vs, ys, rfl, e, h, r⟩
  · cases r; rfl
  · cases e
def isNonD : D → Bool
  | .none => true
  | _ => false
end
def BW (X : Cx) (B : Bg) (E : XK) (σ : L2.St) (Γ : Ga) (H0 H : Hp) (r : Res (Ga × D)) (Q : VK) : Prop := match r with
  | .ok (Γ', x) => ∀ v H0' H', EnvOk X.K B σ Γ' H0' H' → Grow (OwnOf σ Γ) H0 H H0' H' → Less Γ Γ' → RpB X.K H0' H' v x → Q v H'
  | .exc c x => XW X B E c x
  | .stuck => False
structure JB (X : Cx) (E : XK) (e : Expr) (s : Ga → Res (Ga × D)) : Prop where
  ex : ∃ t, PE X e t ∧ ∀ B σ Γ H0 H Q, EnvOk X.K B σ Γ H0 H → BW X B E σ Γ H0 H (s Γ) Q → t σ H Q
structure WOk (X : Cx) (B : Bg) (E : XK) (σ : L2.St) {β : Type} (W : Ga → Hp → Hp → Res β → Prop) : Prop where
  exc : ∀ Γ H0 H c x, W Γ H0 H (.exc c x) → XW X B E c x
  stuck : ∀ Γ H0 H, ¬ W Γ H0 H .stuck
  shift : ∀ Γ H0 H Γ1 H01 H1 r, EnvOk X.K B σ Γ H0 H → Grow (OwnOf σ Γ) H0 H H01 H1 → Less Γ Γ1 → W Γ H0 H r → W Γ1 H01 H1 r
section
variable {X : Cx} {B : Bg} {E : XK} {σ : L2.St}
theorem RV.back {K : PySem.W.Frag} {H0 H H01 H1 H02 H2 : Hp} {r : R} {v : V} {O : Addr → Prop} (g : Grow O H0 H H01 H1) (h : RV K H01 H1 H02 H2 r v) : RV K H0 H H02 H2 r v := by
  cases h with
  | d r => exact .d r
  | f n n0 e r => exact .f (by
      cases q : H _ with
      | none => rfl
      | some o => exact absurd n (g.live _ (by rw [q]; simp))) n0 e r
theorem shift_g {Γ Γ1 : Ga} {H0 H H01 H1 H02 H2 : Hp} (g : Grow (OwnOf σ Γ) H0 H H01 H1) (l : Less Γ Γ1) (g2 : Grow (OwnOf σ Γ1) H01 H1 H02 H2) : Grow (OwnOf σ Γ) H0 H H02 H2 := g.trans g2 fun p z => .inl (l.own z)
theorem wok_E {Q : VK} : WOk X B E σ fun Γ H0 H r => EW X B E σ Γ H0 H r Q where
  exc := fun _ _ _ _ _ h => h
  stuck := fun _ _ _ h => h
  shift := fun Γ H0 H Γ1 H01 H1 r ok g l w => by
    cases r with
    | stuck => exact w
    | exc c x => exact w
    | ok p => exact fun v H0' H' o' g' l' r' => w v H0' H' o' (shift_g g l g') (l.trans l') (r'.back g)
theorem wok_D {Q : VK} : WOk X B E σ fun Γ H0 H r => DW X B E σ Γ H0 H r Q where
  exc := fun _ _ _ _ _ h => h
  stuck := fun _ _ _ h => h
  shift := fun Γ H0 H Γ1 H01 H1 r ok g l w => by
    cases r with
    | stuck => exact w
    | exc c x => exact w
    | ok p => exact fun v H0' H' o' g' l' r' => w v H0' H' o' (shift_g g l g') (l.trans l') r'
theorem wok_T {Q : Bool → Hp → Prop} : WOk X B E σ fun Γ H0 H r => TW X B E σ Γ H0 H r Q where
  exc := fun _ _ _ _ _ h => h
  stuck := fun _ _ _ h => h
  shift := fun Γ H0 H Γ1 H01 H1 r ok g l w => by
    cases r with
    | stuck => exact w
    | exc c x => exact w
    | ok p => exact fun H0' H' o' g' l' => w H0' H' o' (shift_g g l g') (l.trans l')
theorem wok_A {Q : List V → Hp → Prop} : WOk X B E σ fun Γ H0 H r => AW X B E σ Γ H0 H r Q where
  exc := fun _ _ _ _ _ h => h
  stuck := fun _ _ _ h => h
  shift := fun Γ H0 H Γ1 H01 H1 r ok g l w => by
    cases r with
    | stuck => exact w
    | exc c x => exact w
    | ok p => exact fun v H0' H' o' g' l' r' => w v H0' H' o' (shift_g g l g') (l.trans l') r'
section
variable {β : Type} {W : Ga → Hp → Hp → Res β → Prop} {Γ : Ga} {H0 H : Hp}
theorem d_then {t : TE} {s : Ga → Res (Ga × D)} {f : Ga × D → Res β} {Q : VK} (ha : ∀ B σ Γ H0 H Q, EnvOk X.K B σ Γ H0 H → DW X B E σ Γ H0 H (s Γ) Q → t σ H Q) (wo : WOk X B E σ W) (ok : EnvOk X.K B σ Γ H0 H) (w : W Γ H0 H ((s Γ).bind f))
    (k : ∀ Γ1 x v H01 H1, W Γ1 H01 H1 (f (Γ1, x)) → EnvOk X.K B σ Γ1 H01 H1 → Grow (OwnOf σ Γ) H0 H H01 H1 → Less Γ Γ1 → Rp X.K H01 v x → Q v H1) : t σ H Q := by
  refine ha B σ Γ H0 H Q ok ?_
  cases hs : s Γ with
  | stuck => rw [hs] at w; exact (wo.stuck _ _ _ w).elim
  | exc c x => rw [hs] at w; exact wo.exc _ _ _ _ _ w
  | ok p =>
    rw [hs] at w
    exact fun v H01 H1 ok1 g l r => k _ _ v H01 H1 (wo.shift _ _ _ _ _ _ _ ok g l w) ok1 g l r
theorem b_then {t : TE} {s : Ga → Res (Ga × D)} {f : Ga × D → Res β} {Q : VK} (ha : ∀ B σ Γ H0 H Q, EnvOk X.K B σ Γ H0 H → BW X B E σ Γ H0 H (s Γ) Q → t σ H Q) (wo : WOk X B E σ W) (ok : EnvOk X.K B σ Γ H0 H) (w : W Γ H0 H ((s Γ).bind f))
    (k : ∀ Γ1 x v H01 H1, W Γ1 H01 H1 (f (Γ1, x)) → EnvOk X.K B σ Γ1 H01 H1 → Grow (OwnOf σ Γ) H0 H H01 H1 → Less Γ Γ1 → RpB X.K H01 H1 v x → Q v H1) : t σ H Q := by
  refine ha B σ Γ H0 H Q ok ?_
  cases hs : s Γ with
  | stuck => rw [hs] at w; exact (wo.stuck _ _ _ w).elim
  | exc c x => rw [hs] at w; exact wo.exc _ _ _ _ _ w
  | ok p =>
    rw [hs] at w
    exact fun v H01 H1 ok1 g l r => k _ _ v H01 H1 (wo.shift _ _ _ _ _ _ _ ok g l w) ok1 g l r
theorem t_then {t : TT} {s : Ga → Res (Ga × Bool)} {f : Ga × Bool → Res β} {Q : Bool → Hp → Prop} (ha : ∀ B σ Γ H0 H Q, EnvOk X.K B σ Γ H0 H → TW X B E σ Γ H0 H (s Γ) Q → t σ H Q) (wo : WOk X B E σ W) (ok : EnvOk X.K B σ Γ H0 H) (w : W Γ H0 H ((s Γ).bind f))
    (k : ∀ Γ1 b H01 H1, W Γ1 H01 H1 (f (Γ1, b)) → EnvOk X.K B σ Γ1 H01 H1 → Grow (OwnOf σ Γ) H0 H H01 H1 → Less Γ Γ1 → Q b H1) : t σ H Q := by
  refine ha B σ Γ H0 H Q ok ?_
  cases hs : s Γ with
  | stuck => rw [hs] at w; exact (wo.stuck _ _ _ w).elim
  | exc c x => rw [hs] at w; exact wo.exc _ _ _ _ _ w
  | ok p =>
    rw [hs] at w
    exact fun H01 H1 ok1 g l => k _ _ H01 H1 (wo.shift _ _ _ _ _ _ _ ok g l w) ok1 g l
theorem a_then {t : TA} {s : Ga → Res (Ga × List D)} {f : Ga × List D → Res β} {Q : List V → Hp → Prop} (ha : ∀ B σ Γ H0 H Q, EnvOk X.K B σ Γ H0 H → AW X B E σ Γ H0 H (s Γ) Q → t σ H Q) (wo : WOk X B E σ W) (ok : EnvOk X.K B σ Γ H0 H) (w : W Γ H0 H ((s Γ).bind f))
    (k : ∀ Γ1 x v H01 H1, W Γ1 H01 H1 (f (Γ1, x)) → EnvOk X.K B σ Γ1 H01 H1 → Grow (OwnOf σ Γ) H0 H H01 H1 → Less Γ Γ1 → RpAll X.K H01 v x → Q v H1) : t σ H Q := by
  refine ha B σ Γ H0 H Q ok ?_
  cases hs : s Γ with
  | stuck => rw [hs] at w; exact (wo.stuck _ _ _ w).elim
  | exc c x => rw [hs] at w; exact wo.exc _ _ _ _ _ w
  | ok p =>
    rw [hs] at w
    exact fun v H01 H1 ok1 g l r => k _ _ v H01 H1 (wo.shift _ _ _ _ _ _ _ ok g l w) ok1 g l r
theorem e_then {t : TE} {s : Ga → Res (Ga × R)} {f : Ga × R → Res β} {Q : VK} (ha : ∀ B σ Γ H0 H Q, EnvOk X.K B σ Γ H0 H → EW X B E σ Γ H0 H (s Γ) Q → t σ H Q) (wo : WOk X B E σ W) (ok : EnvOk X.K B σ Γ H0 H) (w : W Γ H0 H ((s Γ).bind f))
    (k : ∀ Γ1 x v H01 H1, W Γ1 H01 H1 (f (Γ1, x)) → EnvOk X.K B σ Γ1 H01 H1 → Grow (OwnOf σ Γ) H0 H H01 H1 → Less Γ Γ1 → RV X.K H0 H H01 H1 x v → Q v H1) : t σ H Q := by
  refine ha B σ Γ H0 H Q ok ?_
  cases hs : s Γ with
  | stuck => rw [hs] at w; exact (wo.stuck _ _ _ w).elim
  | exc c x => rw [hs] at w; exact wo.exc _ _ _ _ _ w
  | ok p =>
    rw [hs] at w
    exact fun v H01 H1 ok1 g l r => k _ _ v H01 H1 (wo.shift _ _ _ _ _ _ _ ok g l w) ok1 g l r
end
end

section
variable {X : Cx} {E : XK} {e a b c : Expr} {pos : Pos}
theorem JE.toD {s : Ga → Res (Ga × R)} (h : JE X E e s) : JD X E e (sPub s) := by
  obtain ⟨t, p, ha⟩ := h.ex
  refine ⟨t, p, fun B σ Γ H0 H Q ok w => ?_⟩
  refine ha B σ Γ H0 H Q ok ?_
  unfold sPub at w
  cases hs : s Γ with
  | stuck => rw [hs] at w; exact w
  | exc c x => rw [hs] at w; exact w
  | ok p =>
    rw [hs] at w
    intro v H01 H1 ok1 g l r
    obtain ⟨H02, o2, g2, r2⟩ := pub_ok ok ok1 g l r
    exact w v H02 H1 o2 g2 l r2
theorem JD.toE {s : Ga → Res (Ga × D)} (h : JD X E e s) : JE X E e (sDat s) := by
  obtain ⟨t, p, ha⟩ := h.ex
  refine ⟨t, p, fun B σ Γ H0 H Q ok w => ?_⟩
  exact d_then ha wok_E ok w fun Γ1 x v H01 H1 w1 ok1 g l r => w1 v H01 H1 ok1 (Grow.refl _ _ _) (Less.refl _) (.d r)
theorem JD.toB {s : Ga → Res (Ga × D)} (h : JD X E e s) : JB X E e s := by
  obtain ⟨t, p, ha⟩ := h.ex
  refine ⟨t, p, fun B σ Γ H0 H Q ok w => ?_⟩
  refine ha B σ Γ H0 H Q ok ?_
  cases hs : s Γ with
  | stuck => rw [hs] at w; exact w
  | exc c x => rw [hs] at w; exact w
  | ok p => rw [hs] at w; exact fun v H01 H1 ok1 g l r => w v H01 H1 ok1 g l (.inl r)
theorem JE.toB {s : Ga → Res (Ga × R)} (h : JE X E e s) : JB X E e (sPub s) := h.toD.toB

def sName (i : Nat) : Ga → Res (Ga × D) := fun Γ => match Γ[i]? with
  | some (.d x) => .ok (Γ, x)
  | some (.own false xs) => .ok (Γ.set i (.d (.list xs)), .list xs)
  | _ => .stuck
def slD (Γ : Ga) (i : Nat) : Res D := match Γ[i]? with
  | some (.d x) => .ok x
  | some (.own (.b _) xs) => .ok (.list xs)
  | _ => .stuck
def sBor (i : Nat) : Ga → Res (Ga × D) := fun Γ => (slD Γ i).bind fun x => .ok (Γ, x)
theorem slD_ok {K : PySem.W.Frag} {B : Bg} {σ : L2.St} {Γ : Ga} {H0 H : Hp} {i : Nat} {x : D} (ok : EnvOk K B σ Γ H0 H) (h : slD Γ i = .ok x) : ∃ v, σ[i]? = some (some v) ∧ RpB K H0 H v x := by
  unfold slD at h
  split at h
  · rename_i y hy
    cases h
    obtain ⟨v, e, r⟩ := ok.dat i _ hy
    exact ⟨v, e, .inl r⟩
  · rename_i b xs hy
    cases h
    obtain ⟨a, vs, q1, q2, q3, q4, _⟩ := ok.ownL i _ _ hy
    exact ⟨_, q1, .inr ⟨a, vs, xs, rfl, rfl, q3, q4⟩⟩
  · cases h
theorem jb_name (i : Nat) {t : TE} (h : PE X e t) (ht : t = tVar i) : JB X E e (sBor i) := by
  subst ht
  refine ⟨_, h, fun B σ Γ H0 H Q ok w => ?_⟩
  unfold sBor at w
  cases hs : slD Γ i with
  | stuck => rw [hs] at w; exact w.elim
  | exc c x =>
    unfold slD at hs
    split at hs <;> cases hs
  | ok x =>
    rw [hs] at w
    obtain ⟨v, e1, r⟩ := slD_ok ok hs
    exact ⟨v, e1, w v H0 H ok (Grow.refl _ _ _) (Less.refl _) r⟩
theorem jd_name (i : Nat) {t : TE} (h : PE X e t) (ht : t = tVar i) : JD X E e (sName i) := by
  subst ht
  refine ⟨_, h, fun B σ Γ H0 H Q ok w => ?_⟩
  unfold sName at w
  split at w
  · rename_i x hx
    obtain ⟨v, e1, r⟩ := ok.dat i x hx
    exact ⟨v, e1, w v H0 H ok (Grow.refl _ _ _) (Less.refl _) r⟩
  · rename_i xs hx
    obtain ⟨a, vs, q1, q2, q3, q4, q5, q6⟩ := ok.ownL i _ _ hx
    have ex : Ex H0 (upd H0 a (.lst vs)) := Ex.new q2
    have hb : B.He a = none := q6 rfl
    have sub : Ex (upd H0 a (.lst vs)) H := fun q u eq => by
      unfold upd at eq
      split at eq
      · rename_i z; cases eq; rw [z]; exact q3
      · exact ok.sub q u eq
    have hi : i < Γ.length := (List.getElem?_eq_some_iff.mp hx).1
    have back : ∀ (j : Nat) s, (Γ.set i (.d (.list xs)))[j]? = some s → (j = i ∧ s = .d (.list xs)) ∨ (j ≠ i ∧ Γ[j]? = some s) := fun j s hj => by
      by_cases z : j = i
      · subst z; rw [List.getElem?_set_self hi] at hj; cases hj; exact .inl ⟨rfl, rfl⟩
      · rw [List.getElem?_set_ne (Ne.symm z)] at hj; exact .inr ⟨z, hj⟩
    have g2 : Grow (fun p => p = a) H0 H (upd H0 a (.lst vs)) H := ⟨ex, fun _ _ q _ _ => q, fun p _ n => upd_ne n, fun _ q => q, fun q => q, fun q => q.upd (by nofun)⟩
    have ok1 : EnvOk X.K B σ (Γ.set i (.d (.list xs))) (upd H0 a (.lst vs)) H := by
      refine ⟨sub, by rw [List.length_set]; exact ok.len, fun j x q => ?_, fun j ns q => ?_, fun j b ys q => ?_, fun j k b c ys zs p hjk h1 h2 => ?_, ok.grow.trans g2 fun p z => .inr (by rw [z]; exact hb), ok.tabs, ok.past.upd ex (by nofun), fun j h => ok.cl j (cl_of_set (by nofun) j h)⟩
      · rcases back j _ q with ⟨z, z2⟩ | ⟨z, z2⟩
        · cases z2; rw [z]; exact ⟨.ref a, q1, .lst upd_same (q4.m ex)⟩
        · obtain ⟨v, e1, r1⟩ := ok.dat j x z2
          exact ⟨v, e1, r1.m ex⟩
      · rcases back j _ q with ⟨z, z2⟩ | ⟨z, z2⟩
        · cases z2
        · obtain ⟨v, e1, r1⟩ := ok.scr j ns z2
          exact ⟨v, e1, ex_l ex r1⟩
      · rcases back j _ q with ⟨z, z2⟩ | ⟨z, z2⟩
        · cases z2
        · obtain ⟨a', ws, p1, p2, p3, p4, p5, p6⟩ := ok.own j b ys z2
          refine ⟨a', ws, p1, ?_, p3, p4.m ex, p5, p6⟩
          rw [upd_ne fun z3 => ok.apart j i _ _ _ _ a' z z2 hx p1 (by rw [q1, z3])]; exact p2
      · rcases back j _ h1 with ⟨z, z2⟩ | ⟨z, z2⟩
        · cases z2
        · rcases back k _ h2 with ⟨y, y2⟩ | ⟨y, y2⟩
          · cases y2
          · exact ok.apart j k _ _ _ _ p hjk z2 y2
    refine ⟨.ref a, q1, w (.ref a) _ H ok1 (g2.wide fun p z => ⟨i, false, xs, hx, by rw [z]; exact q1⟩) (fun j b ys q => ?_) (.lst upd_same (q4.m ex))⟩
    rcases back j _ q with ⟨z, z2⟩ | ⟨z, z2⟩
    · cases z2
    · exact ⟨ys, z2⟩
  · exact w.elim
def sC (x : D) : Ga → Res (Ga × D) := fun Γ => .ok (Γ, x)
theorem jd_const {x : D} {v : V} {t : TE} (h : PE X e t) (ht : t = tC v) (r : ∀ K H, Rp K H v x) : JD X E e (sC x) := by
  subst ht
  exact ⟨_, h, fun B σ Γ H0 H Q ok w => w v H0 H ok (Grow.refl _ _ _) (Less.refl _) (r _ _)⟩
theorem jd_int {i : Int} {j} : JD X E (.Constant (.int i) j pos) (sC (.int i)) := jd_const pe_int rfl fun _ _ => .int i
theorem jd_bl {i : Bool} {j} : JD X E (.Constant (.bool i) j pos) (sC (.bool i)) := jd_const pe_bl rfl fun _ _ => .bl i
theorem jd_str {x : Str} {j} : JD X E (.Constant (.str x) j pos) (sC (.str x)) := jd_const pe_str rfl fun _ _ => .str x

def OpD (X : Cx) (E : XK) (f : Value → Value → Sem Value) (g : D → D → Res R) : Prop :=
  ∃ r, OpR X f r ∧ ∀ B σ Γ H0 H Q v u x y, EnvOk X.K B σ Γ H0 H → RpB X.K H0 H v x → RpB X.K H0 H u y → EW X B E σ Γ H0 H ((g x y).bind fun z => .ok (Γ, z)) Q → r v u H Q
def sBin (g : D → D → Res R) (sa sb : Ga → Res (Ga × D)) : Ga → Res (Ga × R) := fun Γ => (sa Γ).bind fun p => (sb p.1).bind fun q => (g p.2 q.2).bind fun z => .ok (q.1, z)
def sBinN (g : D → D → Res R) (i : Nat) (sb : Ga → Res (Ga × D)) : Ga → Res (Ga × R) := fun Γ => (slD Γ i).bind fun _ => (sb Γ).bind fun q => (slD q.1 i).bind fun x => (g x q.2).bind fun z => .ok (q.1, z)
theorem bin_sound {f : Value → Value → Sem Value} {g : D → D → Res R} {sa sb : Ga → Res (Ga × D)} {r : R2} {ta tb : TE}
    (hr : ∀ B σ Γ H0 H Q v u x y, EnvOk X.K B σ Γ H0 H → RpB X.K H0 H v x → RpB X.K H0 H u y → EW X B E σ Γ H0 H ((g x y).bind fun z => .ok (Γ, z)) Q → r v u H Q)
    (ha : ∀ B σ Γ H0 H Q, EnvOk X.K B σ Γ H0 H → DW X B E σ Γ H0 H (sa Γ) Q → ta σ H Q) (hb : ∀ B σ Γ H0 H Q, EnvOk X.K B σ Γ H0 H → BW X B E σ Γ H0 H (sb Γ) Q → tb σ H Q) :
    ∀ B σ Γ H0 H Q, EnvOk X.K B σ Γ H0 H → EW X B E σ Γ H0 H (sBin g sa sb Γ) Q → tOp r ta tb σ H Q := fun B σ Γ H0 H Q ok w => by
  show ta σ H fun x H1 => tb σ H1 fun y H2 => r x y H2 Q
  refine d_then ha wok_E ok w fun Γ1 x v H01 H1 w1 ok1 g1 l1 r1 => ?_
  refine b_then hb wok_E ok1 w1 fun Γ2 y u H02 H2 w2 ok2 g2 l2 r2 => ?_
  exact hr B σ Γ2 H02 H2 Q v u x y ok2 (.inl (r1.m g2.ex0)) r2 w2
theorem binN_sound {g : D → D → Res R} {i : Nat} {sb : Ga → Res (Ga × D)} {r : R2} {tb : TE}
    (hr : ∀ B σ Γ H0 H Q v u x y, EnvOk X.K B σ Γ H0 H → RpB X.K H0 H v x → RpB X.K H0 H u y → EW X B E σ Γ H0 H ((g x y).bind fun z => .ok (Γ, z)) Q → r v u H Q)
    (hb : ∀ B σ Γ H0 H Q, EnvOk X.K B σ Γ H0 H → BW X B E σ Γ H0 H (sb Γ) Q → tb σ H Q) :
    ∀ B σ Γ H0 H Q, EnvOk X.K B σ Γ H0 H → EW X B E σ Γ H0 H (sBinN g i sb Γ) Q → tOp r (tVar i) tb σ H Q := fun B σ Γ H0 H Q ok w => by
  unfold sBinN at w
  cases h0 : slD Γ i with
  | stuck => rw [h0] at w; exact w.elim
  | exc c x => unfold slD at h0; split at h0 <;> cases h0
  | ok x0 =>
    rw [h0] at w
    obtain ⟨v, ev, _⟩ := slD_ok ok h0
    refine ⟨v, ev, ?_⟩
    show tb σ H fun y H2 => r v y H2 Q
    refine b_then hb wok_E ok w fun Γ2 y u H02 H2 w2 ok2 g2 l2 r2 => ?_
    cases hs : slD Γ2 i with
    | stuck => simp only [hs] at w2; exact w2.elim
    | exc c x => unfold slD at hs; split at hs <;> cases hs
    | ok x =>
      simp only [hs] at w2
      obtain ⟨v', e', r'⟩ := slD_ok ok2 hs
      rw [ev] at e'; cases e'
      exact hr B σ Γ2 H02 H2 Q v u x y ok2 r' r2 w2
end
end Mi
namespace Mi
open PySem L2 Evl
variable [Tbl]

section
variable {X : Cx} {E : XK} {e a b c : Expr} {pos : Pos}
theorem opd_d {B : Bg} {σ : L2.St} {Γ : Ga} {H0 H : Hp} {Q : VK} {x : D} {v : V} (ok : EnvOk X.K B σ Γ H0 H) (w : EW X B E σ Γ H0 H (.ok (Γ, .d x)) Q) (r : Rp X.K H0 v x) : Q v H :=
  w v H0 H ok (Grow.refl _ _ _) (Less.refl _) (.d r)
theorem opd_tup {B : Bg} {σ : L2.St} {Γ : Ga} {H0 H : Hp} {Q : VK} {xs : List D} {vs : List V} {p : Addr} (ok : EnvOk X.K B σ Γ H0 H) (w : EW X B E σ Γ H0 H (.ok (Γ, .d (.tuple xs))) Q) (r : RpAll X.K H0 vs xs) (hp : H p = none) : Q (.ref p) (upd H p (.tup vs)) :=
  w (.ref p) (upd H0 p (.tup vs)) _ (ok.same (Grow.data hp ok.sub) (Ex.upd2 ok.sub)) (Grow.data hp ok.sub) (Less.refl _) (.d (.tup (SqT.of upd_same) (r.m (Ex.new (fresh_back ok.sub hp)))))
theorem opd_lst {B : Bg} {σ : L2.St} {Γ : Ga} {H0 H : Hp} {Q : VK} {xs : List D} {vs : List V} {p : Addr} (ok : EnvOk X.K B σ Γ H0 H) (w : EW X B E σ Γ H0 H (.ok (Γ, .f xs)) Q) (r : RpAll X.K H0 vs xs) (hp : H p = none) : Q (.ref p) (upd H p (.lst vs)) :=
  w (.ref p) H0 _ (ok.same (Grow.fresh hp) (Ex.upd1 ok.sub (fresh_back ok.sub hp))) (Grow.fresh hp) (Less.refl _) (.f hp (fresh_back ok.sub hp) upd_same r)

def addG : D → D → Res R
  | .int i, .int j => .ok (.d (.int (i + j)))
  | .tuple xs, .tuple ys => if xs.length + ys.length ≤ sizeLine then .ok (.d (.tuple (xs ++ ys))) else .stuck
  | .list xs, .list ys => if xs.length + ys.length ≤ sizeLine then .ok (.f (xs ++ ys)) else .stuck
  | .str x, .str y => if x.length + y.length ≤ sizeLine then .ok (.d (.str (x ++ y))) else .stuck
  | _, _ => .stuck
theorem opd_add : OpD X E (binaryOp .Add) addG := by
  refine ⟨_, op_add.or (op_catA.or (op_cat.or op_add_str)), fun B σ Γ H0 H Q v u x y ok rx ry w => ?_⟩
  unfold addG at w
  split at w
  · cases rx.int; cases ry.int
    exact .inl ⟨_, _, rfl, rfl, opd_d ok w (.int _)⟩
  · split at w
    · rename_i xs ys hz
      obtain ⟨p, vs, rfl, h1, r1⟩ := rx.tup ok.sub
      obtain ⟨q, us, rfl, h2, r2⟩ := ry.tup ok.sub
      refine .inr (.inl ⟨p, q, vs, us, rfl, rfl, h1, h2, by rw [r1.len, r2.len]; exact hz, fun e => ?_, fun _ e => ?_, fun _ _ o ho => opd_tup ok w (r1.app r2) ho⟩)
      · subst e
        cases xs with
        | cons _ _ => cases r1
        | nil =>
          rcases ry with r | ⟨_, _, _, e1, e2, _⟩
          · exact opd_d ok w r
          · cases e2
      · subst e
        cases ys with
        | cons _ _ => cases r2
        | nil =>
          rw [List.append_nil] at w
          rcases rx with r | ⟨_, _, _, e1, e2, _⟩
          · exact opd_d ok w r
          · cases e2
    · exact w.elim
  · split at w
    · rename_i xs ys hz
      obtain ⟨p, vs, rfl, h1, r1⟩ := rx.lst ok.sub
      obtain ⟨q, us, rfl, h2, r2⟩ := ry.lst ok.sub
      exact .inr (.inr (.inl ⟨p, q, vs, us, rfl, rfl, h1, h2, by rw [r1.len, r2.len]; exact hz, fun o ho => opd_lst ok w (r1.app r2) ho⟩))
    · exact w.elim
  · split at w
    · rename_i hz
      cases rx.str; cases ry.str
      exact .inr (.inr (.inr ⟨_, _, rfl, rfl, hz, opd_d ok w (.str _)⟩))
    · exact w.elim
  · exact w.elim
def subG : D → D → Res R
  | .int i, .int j => .ok (.d (.int (i - j)))
  | _, _ => .stuck
theorem opd_sub : OpD X E (binaryOp .Sub) subG := by
  refine ⟨_, op_sub, fun B σ Γ H0 H Q v u x y ok rx ry w => ?_⟩
  unfold subG at w
  split at w
  · cases rx.int; cases ry.int
    exact ⟨_, _, rfl, rfl, opd_d ok w (.int _)⟩
  · exact w.elim
noncomputable def okB (p : Prop) : Bool := @decide p (Classical.propDecidable p)
omit [Tbl] in
theorem okB_iff {p : Prop} : okB p = true ↔ p := by unfold okB; exact @decide_eq_true_iff p (Classical.propDecidable p)
omit [Tbl] in
theorem okB_of {p : Prop} (h : p) : okB p = true := okB_iff.mpr h
noncomputable def mulOk (i j : Int) : Bool := okB ((-(2 ^ 64) < i ∧ i < 2 ^ 64) ∨ (-(2 ^ 64) < j ∧ j < 2 ^ 64) ∨ i.natAbs.log2 + j.natAbs.log2 < 1000000)
noncomputable def mulG : D → D → Res R
  | .int i, .int j => if mulOk i j = true then .ok (.d (.int (i * j))) else .stuck
  | .list xs, .int k => if okB (xs.length * k.toNat ≤ sizeLine ∧ -(2 ^ 63) ≤ k ∧ k < 2 ^ 63) = true then .ok (.f (List.replicate k.toNat xs).flatten) else .stuck
  | _, _ => .stuck
theorem opd_mul : OpD X E (binaryOp .Mult) mulG := by
  refine ⟨_, op_mul.or (op_mulW.or op_rep), fun B σ Γ H0 H Q v u x y ok rx ry w => ?_⟩
  unfold mulG at w
  split at w
  · split at w
    · rename_i hz
      cases rx.int; cases ry.int
      unfold mulOk at hz
      have hz := okB_iff.mp hz
      rcases hz with hz | hz | hz
      · exact .inl ⟨_, _, rfl, rfl, .inl hz, opd_d ok w (.int _)⟩
      · exact .inl ⟨_, _, rfl, rfl, .inr hz, opd_d ok w (.int _)⟩
      · exact .inr (.inl ⟨_, _, rfl, rfl, hz, opd_d ok w (.int _)⟩)
    · exact w.elim
  · split at w
    · rename_i xs k hz
      have hz := okB_iff.mp hz
      obtain ⟨p, vs, rfl, h1, r1⟩ := rx.lst ok.sub
      cases ry.int
      exact .inr (.inr ⟨p, _, vs, rfl, rfl, h1, hz.2.1, hz.2.2, by rw [r1.len]; exact hz.1, fun o ho => opd_lst ok w (r1.rep _) ho⟩)
    · exact w.elim
  · exact w.elim
noncomputable def modG : D → D → Res R
  | .int i, .int j => if okB (0 < j) = true then .ok (.d (.int (i % j))) else .stuck
  | _, _ => .stuck
theorem opd_mod : OpD X E (binaryOp .Mod) modG := by
  refine ⟨_, op_mod, fun B σ Γ H0 H Q v u x y ok rx ry w => ?_⟩
  unfold modG at w
  split at w
  · split at w
    · cases rx.int; cases ry.int
      exact ⟨_, _, rfl, rfl, okB_iff.mp (by assumption), opd_d ok w (.int _)⟩
    · exact w.elim
  · exact w.elim
noncomputable def fdivG : D → D → Res R
  | .int i, .int j => if okB (0 < j ∧ j.natAbs.log2 < 9000) = true then .ok (.d (.int (i / j))) else .stuck
  | _, _ => .stuck
theorem opd_fdiv : OpD X E (binaryOp .FloorDiv) fdivG := by
  refine ⟨_, op_fdivW, fun B σ Γ H0 H Q v u x y ok rx ry w => ?_⟩
  unfold fdivG at w
  split at w
  · split at w
    · cases rx.int; cases ry.int
      exact ⟨_, _, rfl, rfl, okB_iff.mp (by assumption), opd_d ok w (.int _)⟩
    · exact w.elim
  · exact w.elim
noncomputable def powG : D → D → Res R
  | .int i, .int j => if okB (0 ≤ j ∧ j ≤ 1000000 ∧ i.natAbs < 2 ^ 64) = true then .ok (.d (.int (i ^ j.toNat))) else .stuck
  | _, _ => .stuck
theorem opd_pow : OpD X E (binaryOp .Pow) powG := by
  refine ⟨_, op_pow, fun B σ Γ H0 H Q v u x y ok rx ry w => ?_⟩
  unfold powG at w
  split at w
  · split at w
    · cases rx.int; cases ry.int
      exact ⟨_, _, rfl, rfl, okB_iff.mp (by assumption), opd_d ok w (.int _)⟩
    · exact w.elim
  · exact w.elim

omit [Tbl] in
theorem shaped_noD {x : D} (h : SeqAt.shaped x = true) : x.hasDict = false := by
  unfold SeqAt.shaped at h
  rw [Bool.and_eq_true] at h
  exact PyData.hasDict_of_canLay x h.1
def eqG : D → D → Res R := fun x y => if (SeqAt.shaped x && SeqAt.shaped y) = true then .ok (.d (.bool (PyData.eqv x y))) else .stuck
def neG : D → D → Res R := fun x y => if (SeqAt.shaped x && SeqAt.shaped y) = true then .ok (.d (.bool (!PyData.eqv x y))) else .stuck
theorem opd_eq (hu : X.A.units + 64 < cLine) : OpD X E (compareOp .Eq) eqG := by
  refine ⟨_, op_eqD hu, fun B σ Γ H0 H Q v u x y ok rx ry w => ?_⟩
  unfold eqG at w
  split at w
  · rename_i hz
    rw [Bool.and_eq_true] at hz
    exact ⟨x, y, rx.dp ok.sub (shaped_noD hz.1), ry.dp ok.sub (shaped_noD hz.2), hz.1, hz.2, opd_d ok w (.bl _)⟩
  · exact w.elim
theorem opd_ne (hu : X.A.units + 64 < cLine) : OpD X E (compareOp .NotEq) neG := by
  refine ⟨_, op_neD hu, fun B σ Γ H0 H Q v u x y ok rx ry w => ?_⟩
  unfold neG at w
  split at w
  · rename_i hz
    rw [Bool.and_eq_true] at hz
    exact ⟨x, y, rx.dp ok.sub (shaped_noD hz.1), ry.dp ok.sub (shaped_noD hz.2), hz.1, hz.2, opd_d ok w (.bl _)⟩
  · exact w.elim
def ltG : D → D → Res R
  | .int i, .int j => .ok (.d (.bool (decide (i < j))))
  | _, _ => .stuck
def leG : D → D → Res R
  | .int i, .int j => .ok (.d (.bool (decide (i ≤ j))))
  | _, _ => .stuck
def gtG : D → D → Res R
  | .int i, .int j => .ok (.d (.bool (decide (j < i))))
  | _, _ => .stuck
def geG : D → D → Res R
  | .int i, .int j => .ok (.d (.bool (decide (j ≤ i))))
  | _, _ => .stuck
theorem opd_lt : OpD X E (compareOp .Lt) ltG := by
  refine ⟨_, op_lt, fun B σ Γ H0 H Q v u x y ok rx ry w => ?_⟩
  unfold ltG at w
  split at w
  · cases rx.int; cases ry.int
    exact ⟨_, _, rfl, rfl, opd_d ok w (.bl _)⟩
  · exact w.elim
theorem opd_le : OpD X E (compareOp .LtE) leG := by
  refine ⟨_, op_le, fun B σ Γ H0 H Q v u x y ok rx ry w => ?_⟩
  unfold leG at w
  split at w
  · cases rx.int; cases ry.int
    exact ⟨_, _, rfl, rfl, opd_d ok w (.bl _)⟩
  · exact w.elim
theorem opd_gt : OpD X E (compareOp .Gt) gtG := by
  refine ⟨_, op_gt, fun B σ Γ H0 H Q v u x y ok rx ry w => ?_⟩
  unfold gtG at w
  split at w
  · cases rx.int; cases ry.int
    exact ⟨_, _, rfl, rfl, opd_d ok w (.bl _)⟩
  · exact w.elim
theorem opd_ge : OpD X E (compareOp .GtE) geG := by
  refine ⟨_, op_ge, fun B σ Γ H0 H Q v u x y ok rx ry w => ?_⟩
  unfold geG at w
  split at w
  · cases rx.int; cases ry.int
    exact ⟨_, _, rfl, rfl, opd_d ok w (.bl _)⟩
  · exact w.elim
def isG : D → D → Res R := fun x y => match y with
  | .none => .ok (.d (.bool (isNonD x)))
  | .bool b => (match x with | .bool a => .ok (.d (.bool (decide (a = b)))) | _ => .stuck)
  | _ => .stuck
def isnotG : D → D → Res R := fun x y => match y with
  | .none => .ok (.d (.bool (!isNonD x)))
  | .bool b => (match x with | .bool a => .ok (.d (.bool (!decide (a = b)))) | _ => .stuck)
  | _ => .stuck
theorem je_bin {op : Operator} {g : D → D → Res R} {sa sb : Ga → Res (Ga × D)} (o : OpD X E (binaryOp op) g) (ha : JD X E a sa) (hb : JB X E b sb) : JE X E (.BinOp a op b pos) (sBin g sa sb) := by
  obtain ⟨r, h, hr⟩ := o
  obtain ⟨ta, pa, ha⟩ := ha.ex
  obtain ⟨tb, pb, hb⟩ := hb.ex
  exact ⟨_, pe_op h pa pb, bin_sound (f := binaryOp op) hr ha hb⟩
theorem je_binN {op : Operator} {g : D → D → Res R} {i : Nat} {sb : Ga → Res (Ga × D)} (o : OpD X E (binaryOp op) g) (pa : PE X a (tVar i)) (hb : JB X E b sb) : JE X E (.BinOp a op b pos) (sBinN g i sb) := by
  obtain ⟨r, h, hr⟩ := o
  obtain ⟨tb, pb, hb⟩ := hb.ex
  exact ⟨_, pe_op h pa pb, binN_sound hr hb⟩
theorem je_cmp {op : CmpOp} {g : D → D → Res R} {sa sb : Ga → Res (Ga × D)} (o : OpD X E (compareOp op) g) (ha : JD X E a sa) (hb : JB X E b sb) (hm : behindInMarks op b = false) : JE X E (.Compare a [op] [b] pos) (sBin g sa sb) := by
  obtain ⟨r, h, hr⟩ := o
  obtain ⟨ta, pa, ha⟩ := ha.ex
  obtain ⟨tb, pb, hb⟩ := hb.ex
  exact ⟨_, pe_cmpR h pa pb hm, bin_sound (f := compareOp op) hr ha hb⟩
def asB : Ga × R → Res (Ga × Bool) := fun p => match p.2 with
  | .d (.bool b) => .ok (p.1, b)
  | _ => .stuck
def sTst (s : Ga → Res (Ga × R)) : Ga → Res (Ga × Bool) := fun Γ => (s Γ).bind asB
theorem tst_sound {s : Ga → Res (Ga × R)} {t : TE} (ha : ∀ B σ Γ H0 H Q, EnvOk X.K B σ Γ H0 H → EW X B E σ Γ H0 H (s Γ) Q → t σ H Q) :
    ∀ B σ Γ H0 H Q, EnvOk X.K B σ Γ H0 H → TW X B E σ Γ H0 H (sTst s Γ) Q → tTest t σ H Q := fun B σ Γ H0 H Q ok w => by
  show t σ H fun x H' => ∃ k, x = .bl k ∧ Q k H'
  refine e_then ha wok_T ok w fun Γ1 x v H01 H1 w1 ok1 g1 l1 r1 => ?_
  unfold asB at w1
  split at w1
  · rename_i b hx
    have hx : x = .d (.bool b) := hx
    subst hx
    cases r1 with
    | d r =>
      cases r
      exact ⟨_, rfl, w1 H01 H1 ok1 (Grow.refl _ _ _) (Less.refl _)⟩
  · exact w1.elim
theorem jt_cmp {op : CmpOp} {g : D → D → Res R} {sa sb : Ga → Res (Ga × D)} (o : OpD X E (compareOp op) g) (ha : JD X E a sa) (hb : JB X E b sb) (hm : behindInMarks op b = false) : JT X E (.Compare a [op] [b] pos) (sTst (sBin g sa sb)) := by
  obtain ⟨r, h, hr⟩ := o
  obtain ⟨ta, pa, ha⟩ := ha.ex
  obtain ⟨tb, pb, hb⟩ := hb.ex
  exact ⟨_, pt_cmpR h pa pb hm, tst_sound (bin_sound (f := compareOp op) hr ha hb)⟩
theorem jt_cmpN {op : CmpOp} {g : D → D → Res R} {i : Nat} {sb : Ga → Res (Ga × D)} (o : OpD X E (compareOp op) g) (pa : PE X a (tVar i)) (hb : JB X E b sb) (hm : behindInMarks op b = false) : JT X E (.Compare a [op] [b] pos) (sTst (sBinN g i sb)) := by
  obtain ⟨r, h, hr⟩ := o
  obtain ⟨tb, pb, hb⟩ := hb.ex
  exact ⟨_, pt_cmpR h pa pb hm, tst_sound (binN_sound hr hb)⟩
theorem jt_val {s : Ga → Res (Ga × R)} (h : JE X E e s) (he : ∀ whole, isTrue e X.env whole = (do let v ← whole; standAt e.pos; holding [v] (truthy v)) := by intro _; rfl) : JT X E e (sTst s) := by
  obtain ⟨t, p, ha⟩ := h.ex
  exact ⟨_, pt_val p he, tst_sound ha⟩
structure JW (X : Cx) (E : XK) (e : Expr) (s : Ga → Res (Ga × Bool)) : Prop where
  ex : ∃ t, PW X e t ∧ ∀ B σ Γ H0 H Q, EnvOk X.K B σ Γ H0 H → TW X B E σ Γ H0 H (s Γ) Q → t σ H Q
theorem JW.t {s : Ga → Res (Ga × Bool)} (h : JW X E e s) : JT X E e s := let ⟨t, p, q⟩ := h.ex; ⟨t, p.pt, q⟩
def sAnd (s u : Ga → Res (Ga × Bool)) : Ga → Res (Ga × Bool) := fun Γ => (s Γ).bind fun p => if p.2 = true then u p.1 else .ok (p.1, false)
def sOr (s u : Ga → Res (Ga × Bool)) : Ga → Res (Ga × Bool) := fun Γ => (s Γ).bind fun p => if p.2 = true then .ok (p.1, true) else u p.1
def sNot (s : Ga → Res (Ga × Bool)) : Ga → Res (Ga × Bool) := fun Γ => (s Γ).bind fun p => .ok (p.1, !p.2)
variable {sa sb : Ga → Res (Ga × Bool)} {rest : List Expr}
theorem jw_and1 (h : JT X E a sa) : JW X E (.BoolOp .And [a] pos) sa := let ⟨t, p, q⟩ := h.ex; ⟨t, pw_and1 p, q⟩
theorem jw_or1 (h : JT X E a sa) : JW X E (.BoolOp .Or [a] pos) sa := let ⟨t, p, q⟩ := h.ex; ⟨t, pw_or1 p, q⟩
theorem jw_and (ha : JT X E a sa) (hb : JW X E (.BoolOp .And (b :: rest) pos) sb) : JW X E (.BoolOp .And (a :: b :: rest) pos) (sAnd sa sb) := by
  obtain ⟨ta, pa, ha⟩ := ha.ex
  obtain ⟨tb, pb, hb⟩ := hb.ex
  refine ⟨_, pw_and pa pb, fun B σ Γ H0 H Q ok w => ?_⟩
  show ta σ H fun c H1 => if c = true then tb σ H1 Q else Q false H1
  refine t_then ha wok_T ok w fun Γ1 c H01 H1 w1 ok1 g1 l1 => ?_
  cases c with
  | true => exact hb B σ Γ1 H01 H1 Q ok1 w1
  | false => exact w1 H01 H1 ok1 (Grow.refl _ _ _) (Less.refl _)
theorem jw_or (ha : JT X E a sa) (hb : JW X E (.BoolOp .Or (b :: rest) pos) sb) : JW X E (.BoolOp .Or (a :: b :: rest) pos) (sOr sa sb) := by
  obtain ⟨ta, pa, ha⟩ := ha.ex
  obtain ⟨tb, pb, hb⟩ := hb.ex
  refine ⟨_, pw_or pa pb, fun B σ Γ H0 H Q ok w => ?_⟩
  show ta σ H fun c H1 => if c = true then Q true H1 else tb σ H1 Q
  refine t_then ha wok_T ok w fun Γ1 c H01 H1 w1 ok1 g1 l1 => ?_
  cases c with
  | false => exact hb B σ Γ1 H01 H1 Q ok1 w1
  | true => exact w1 H01 H1 ok1 (Grow.refl _ _ _) (Less.refl _)
theorem jt_not (ha : JT X E a sa) : JT X E (.UnaryOp .Not a pos) (sNot sa) := by
  obtain ⟨ta, pa, ha⟩ := ha.ex
  refine ⟨_, pt_not pa, fun B σ Γ H0 H Q ok w => ?_⟩
  show ta σ H fun c H1 => Q (!c) H1
  exact t_then ha wok_T ok w fun Γ1 c H01 H1 w1 ok1 g1 l1 => w1 H01 H1 ok1 (Grow.refl _ _ _) (Less.refl _)
def sVal (s : Ga → Res (Ga × Bool)) : Ga → Res (Ga × R) := fun Γ => (s Γ).bind fun p => .ok (p.1, .d (.bool p.2))
theorem val_use {s : Ga → Res (Ga × R)} {t : TE} {β : Type} {W : Ga → Hp → Hp → Res β → Prop} {B : Bg} {σ : L2.St} {Γ : Ga} {H0 H : Hp} {f : Ga × Bool → Res β} {Q : VK}
    (ha : ∀ B σ Γ H0 H Q, EnvOk X.K B σ Γ H0 H → EW X B E σ Γ H0 H (s Γ) Q → t σ H Q) (wo : WOk X B E σ W) (ok : EnvOk X.K B σ Γ H0 H) (w : W Γ H0 H ((sTst s Γ).bind f))
    (k : ∀ Γ1 b H01 H1, W Γ1 H01 H1 (f (Γ1, b)) → EnvOk X.K B σ Γ1 H01 H1 → Q (.bl b) H1) : t σ H Q := by
  unfold sTst at w
  have e : ((s Γ).bind asB).bind f = (s Γ).bind fun p => (asB p).bind f := by cases s Γ <;> rfl
  rw [e] at w
  refine e_then ha wo ok w fun Γ1 x v H01 H1 w1 ok1 g1 l1 r1 => ?_
  unfold asB at w1
  split at w1
  · rename_i b hx
    have hx : x = .d (.bool b) := hx
    subst hx
    cases r1 with
    | d r => cases r; exact k _ _ _ _ w1 ok1
  · exact (wo.stuck _ _ _ w1).elim
variable {se sf : Ga → Res (Ga × R)}
theorem je_one {op} (h : JE X E a se) : JE X E (.BoolOp op [a] pos) (sVal (sTst se)) := by
  obtain ⟨t, p, ha⟩ := h.ex
  refine ⟨_, pe_one p, fun B σ Γ H0 H Q ok w => ?_⟩
  exact val_use ha wok_E ok w fun Γ1 b H01 H1 w1 ok1 => w1 _ H01 H1 ok1 (Grow.refl _ _ _) (Less.refl _) (.d (.bl _))
theorem je_and (ha : JE X E a se) (hb : JE X E (.BoolOp .And (b :: rest) pos) (sVal sb)) : JE X E (.BoolOp .And (a :: b :: rest) pos) (sVal (sAnd (sTst se) sb)) := by
  obtain ⟨ta, pa, ha⟩ := ha.ex
  obtain ⟨tb, pb, hb⟩ := hb.ex
  refine ⟨_, pe_and pa pb, fun B σ Γ H0 H Q ok w => ?_⟩
  show ta σ H fun x H1 => ∃ c, x = .bl c ∧ if c = true then tb σ H1 Q else Q (.bl false) H1
  have e : sVal (sAnd (sTst se) sb) Γ = (sTst se Γ).bind fun p => if p.2 = true then sVal sb p.1 else .ok (p.1, .d (.bool false)) := by
    unfold sVal sAnd
    cases sTst se Γ with
    | ok p =>
      show (if p.2 = true then sb p.1 else .ok (p.1, false)).bind _ = if p.2 = true then _ else _
      split <;> rfl
    | exc c x => rfl
    | stuck => rfl
  rw [e] at w
  refine val_use ha wok_E ok w fun Γ1 c H01 H1 w1 ok1 => ⟨c, rfl, ?_⟩
  cases c with
  | true => exact hb B σ Γ1 H01 H1 Q ok1 w1
  | false => exact w1 _ H01 H1 ok1 (Grow.refl _ _ _) (Less.refl _) (.d (.bl _))
theorem je_or (ha : JE X E a se) (hb : JE X E (.BoolOp .Or (b :: rest) pos) (sVal sb)) : JE X E (.BoolOp .Or (a :: b :: rest) pos) (sVal (sOr (sTst se) sb)) := by
  obtain ⟨ta, pa, ha⟩ := ha.ex
  obtain ⟨tb, pb, hb⟩ := hb.ex
  refine ⟨_, pe_or pa pb, fun B σ Γ H0 H Q ok w => ?_⟩
  show ta σ H fun x H1 => ∃ c, x = .bl c ∧ if c = true then Q (.bl true) H1 else tb σ H1 Q
  have e : sVal (sOr (sTst se) sb) Γ = (sTst se Γ).bind fun p => if p.2 = true then .ok (p.1, .d (.bool true)) else sVal sb p.1 := by
    unfold sVal sOr
    cases sTst se Γ with
    | ok p =>
      show (if p.2 = true then .ok (p.1, true) else sb p.1 : Res (Ga × Bool)).bind _ = if p.2 = true then _ else _
      split <;> rfl
    | exc c x => rfl
    | stuck => rfl
  rw [e] at w
  refine val_use ha wok_E ok w fun Γ1 c H01 H1 w1 ok1 => ⟨c, rfl, ?_⟩
  cases c with
  | false => exact hb B σ Γ1 H01 H1 Q ok1 w1
  | true => exact w1 _ H01 H1 ok1 (Grow.refl _ _ _) (Less.refl _) (.d (.bl _))
theorem je_not (ha : JE X E a se) : JE X E (.UnaryOp .Not a pos) (sVal (sNot (sTst se))) := by
  obtain ⟨ta, pa, ha⟩ := ha.ex
  refine ⟨_, pe_not pa, fun B σ Γ H0 H Q ok w => ?_⟩
  show ta σ H fun x H1 => ∃ c, x = .bl c ∧ Q (.bl (!c)) H1
  have e : sVal (sNot (sTst se)) Γ = (sTst se Γ).bind fun p => .ok (p.1, .d (.bool (!p.2))) := by
    unfold sVal sNot
    cases sTst se Γ <;> rfl
  rw [e] at w
  exact val_use ha wok_E ok w fun Γ1 c H01 H1 w1 ok1 => ⟨c, rfl, w1 _ H01 H1 ok1 (Grow.refl _ _ _) (Less.refl _) (.d (.bl _))⟩
def sIf (c : Ga → Res (Ga × Bool)) (s u : Ga → Res (Ga × R)) : Ga → Res (Ga × R) := fun Γ => (c Γ).bind fun p => if p.2 = true then s p.1 else u p.1
theorem je_if (hc : JT X E c sa) (ha : JE X E a se) (hb : JE X E b sf) : JE X E (.IfExp c a b pos) (sIf sa se sf) := by
  obtain ⟨tc, pc, hc⟩ := hc.ex
  obtain ⟨ta, pa, ha⟩ := ha.ex
  obtain ⟨tb, pb, hb⟩ := hb.ex
  refine ⟨_, pe_ifExp pc pa pb, fun B σ Γ H0 H Q ok w => ?_⟩
  show tc σ H fun c H1 => if c = true then ta σ H1 Q else tb σ H1 Q
  refine t_then hc wok_E ok w fun Γ1 c H01 H1 w1 ok1 g1 l1 => ?_
  cases c with
  | true => exact ha B σ Γ1 H01 H1 Q ok1 w1
  | false => exact hb B σ Γ1 H01 H1 Q ok1 w1
def sUn (g : D → Res R) (s : Ga → Res (Ga × D)) : Ga → Res (Ga × R) := fun Γ => (s Γ).bind fun p => (g p.2).bind fun z => .ok (p.1, z)
def negG : D → Res R
  | .int i => .ok (.d (.int (-i)))
  | _ => .stuck
theorem je_neg {s : Ga → Res (Ga × D)} (ha : JD X E a s) : JE X E (.UnaryOp .USub a pos) (sUn negG s) := by
  obtain ⟨ta, pa, ha⟩ := ha.ex
  refine ⟨_, pe_un un_neg pa, fun B σ Γ H0 H Q ok w => ?_⟩
  show ta σ H fun x H1 => ∃ i, x = .int i ∧ Q (.int (-i)) H1
  refine d_then ha wok_E ok w fun Γ1 x v H01 H1 w1 ok1 g1 l1 r1 => ?_
  unfold negG at w1
  split at w1
  · rename_i i hx
    have hx : x = .int i := hx
    subst hx
    cases r1
    exact ⟨_, rfl, opd_d ok1 w1 (.int _)⟩
  · exact w1.elim
end
end Mi
namespace Mi
open PySem PySem.Spec PyProof.Rows L2 HT
theorem back_adjust (n : Nat) : Builtin.Slice.sliceAdjust none none (-1) (n : Int) = ((n : Int) - 1, -1) := by
  unfold Builtin.Slice.sliceAdjust
  simp
theorem back_places (n : Nat) : Builtin.Slice.slicePlaces ((n : Int) - 1) (-1) (-1) = n := by
  unfold Builtin.Slice.slicePlaces
  have h1 : ¬ ((-1 : Int) > 0) := by decide
  have e : ((n : Int) - 1 - -1 - 1) / (- -1) = (n : Int) - 1 := by
    rw [show (- -1 : Int) = 1 by decide, Int.ediv_one]
    omega
  simp only [h1, if_false, e]
  split <;> omega
theorem back_pick (xs : Array Value) : ((List.range xs.size).filterMap fun (m : Nat) => xs[((xs.size : Int) - 1 + (m : Int) * (-1)).toNat]?).toArray = xs.toList.reverse.toArray := by
  have e : (fun (m : Nat) => xs[((xs.size : Int) - 1 + (m : Int) * (-1)).toNat]?) = (fun k => xs[k]?) ∘ fun m => xs.size - 1 - m := by
    funext m
    have : ((xs.size : Int) - 1 + (m : Int) * (-1)).toNat = xs.size - 1 - m := by omega
    show xs[((xs.size : Int) - 1 + (m : Int) * (-1)).toNat]? = xs[xs.size - 1 - m]?
    rw [this]
  rw [e, ← List.filterMap_map, PySem.W.krv_range, List.filterMap_reverse, PySem.W.krv_all]
section
variable {prog : Program} {w : World} {A : Around} {E : Value → Shared → Prop} {s : Shared}
theorem applied_back {sl : Addr} {vs : Value} {n : Nat} {Q : Int × Int × Nat → Shared → Prop} (hs : s.heap.IsSliceOf sl .none .none vs) (ps : IsPart vs (some (-1)))
    (h : Q ((n : Int) - 1, -1, n) s) : wpAny (model prog w) A (Builtin.Slice.sliceApplied (.ref sl) (pure (n : Int))) Q E s := by
  obtain ⟨os, hos, hcs, hds⟩ := id hs
  unfold Builtin.Slice.sliceApplied Builtin.Slice.sliceFields
  refine wpAny_bind (wpAny_bind (wpAny_field hos hds (x := .none) rfl (wpAny_bind (wpAny_field hos hds (x := .none) rfl (wpAny_bind (wpAny_field hos hds (x := vs) rfl (wpAny_pure ?_)))))))
  refine wpAny_bind (slicePart_ ps ?_)
  show wpAny _ _ (if ((-1 : Int) == 0) = true then _ else _) _ _ s
  rw [if_neg (by decide)]
  refine wpAny_bind (slicePart_ .none (wpAny_bind (slicePart_ .none (wpAny_bind (wpAny_pure ?_)))))
  show wpAny _ _ (match Builtin.Slice.sliceAdjust none none (-1) (n : Int) with | (lo, hi) => pure (lo, (-1 : Int), Builtin.Slice.slicePlaces lo hi (-1))) _ _ s
  rw [back_adjust]
  show wpAny _ _ (pure ((n : Int) - 1, (-1 : Int), Builtin.Slice.slicePlaces ((n : Int) - 1) (-1) (-1))) _ _ s
  rw [back_places]
  exact wpAny_pure h
theorem tup_back {t sl : Addr} {items : Array Value} {vs : Value} {Q : Value → Shared → Prop} (ht : IsTup s.heap t items) (hs : s.heap.IsSliceOf sl .none .none vs) (ps : IsPart vs (some (-1)))
    (h : Q (.ref s.heap.objs.size) { s with heap := s.heap.push { cls := .type "tuple", data := .seq items.toList.reverse.toArray } }) (hsz : items.size ≤ sizeLine) : wpAny (model prog w) A (getItem (.ref t) (.ref sl)) Q E s := by
  have hok : sizeOk (.seq items.toList.reverse.toArray) := by
    show items.toList.reverse.toArray.size ≤ sizeLine
    rw [List.size_toArray, List.length_reverse, Array.length_toList]
    exact hsz
  obtain ⟨os, hos, hcs, hds⟩ := id hs
  have hTs : s.TypeIs (.ref sl) "slice" := ⟨os, hos, hcs⟩
  unfold getItem
  try with_reducible refine wpAny_holding ?_
  first | refine wpAny_bind (wpAny_pure ?_) | skip
  refine wpAny_bind (wpAny_sequenceKey ht.typeIs (by decide) ?_)
  refine wpAny_bind (wpAny_callSpecial?_slot (name := Str.ofString "__getitem__") ht.typeIs PyProof.Rows.slot_tuple_getitem
    (wpAny_call_entry PyProof.Rows.slot_tuple_getitem ht.typeIs entry_tuple_getitem ?_ (args_tuple_getitem _ _)))
  show wpAny _ _ (Builtin.Tuple.tupleItemsOf (.ref t) >>= _) _ _ s
  refine wpAny_bind (tupleItemsOf_ ht ?_)
  refine wpAny_bind (wpAny_typeOf hTs ?_)
  rw [if_pos (by decide)]
  refine wpAny_bind (applied_back hs ps ?_)
  have hno : ¬ ((((items.size : Int) - 1) == 0 && (-1 : Int) == 1 && items.size == items.size) = true) := by
    intro q
    rw [Bool.and_eq_true, Bool.and_eq_true] at q
    exact absurd (eq_of_beq q.1.2) (by decide)
  show wpAny _ _ (if (((items.size : Int) - 1) == 0 && (-1 : Int) == 1 && items.size == items.size) = true then _ else _) _ _ s
  rw [if_neg hno, back_pick]
  first
    | exact wpAny_bind (m := Builtin.Tuple.tupleExact _) (wpAny_newObj_type (wpAny_pure ⟨_, rfl, wpAny_pure h⟩) hok)
    | exact wpAny_bind (m := Builtin.Tuple.tupleExact _) (wpAny_newObj_type (wpAny_bind (wpAny_pure (wpAny_pure ⟨_, rfl, wpAny_pure h⟩))) hok)
    | exact wpAny_bind (wpAny_bind (m := Builtin.Tuple.tupleExact _) (wpAny_newObj_type (wpAny_pure (wpAny_pure ⟨_, rfl, wpAny_pure h⟩)) hok))
    | exact wpAny_bind (wpAny_bind (m := Builtin.Tuple.tupleExact _) (wpAny_newObj_type (wpAny_pure ⟨_, rfl, wpAny_pure h⟩) hok))
end
def tBack (K : PySem.W.Frag) (te : TE) : TE := fun σ H Q => te σ H fun x H1 => (∃ a xs, x = .ref a ∧ SqL K H1 a xs ∧ ∀ p, H1 p = none → Q (.ref p) (upd H1 p (.lst xs.reverse))) ∨
  ∃ a xs, x = .ref a ∧ SqT K H1 a xs ∧ ∀ p, H1 p = none → Q (.ref p) (upd H1 p (.tup xs.reverse))
theorem pe_back {X : Cx} {e : Expr} {te : TE} {k : Nat} {p1 p2 p3 pos : Pos} (he : PE X e te) : PE X (.Subscript e (.Slice none none (some (.UnaryOp .USub (.Constant (.int 1) k p1) p2)) p3) pos) (tBack X.K te) := by
  refine ⟨fun pins s σ H Q I h => ?_⟩
  refine Subscript_ (thn (he.run pins s σ H _ I h) fun v s1 ⟨x, H1, I1, r1, q1⟩ => ?_)
  obtain ⟨a, rfl⟩ : ∃ a, x = .ref a := by
    rcases q1 with ⟨a, xs, ex, _⟩ | ⟨a, xs, ex, _⟩
    · exact ⟨a, ex⟩
    · exact ⟨a, ex⟩
  cases r1
  have hst : PO X (some (.UnaryOp .USub (.Constant (.int 1) k p1) p2)) (tPart (tUn (rU fun i => .int (-i)) (tC (.int 1)))) := po_some (pe_un un_neg pe_int)
  refine wpAny_Slice (thn (po_none.run pins s1 σ H1 (fun o H2 => o = none ∧ H2 = H1) I1 ⟨rfl, rfl⟩) fun vl s2 ⟨l, H2, I2, pl, el, e2⟩ => ?_)
  subst el e2
  refine thn (po_none.run pins s2 σ H2 (fun o H3 => o = none ∧ H3 = H2) I2 ⟨rfl, rfl⟩) fun vu s3 ⟨u, H3, I3, pu, eu, e3⟩ => ?_
  subst eu e3
  refine thn (hst.run pins s3 σ H3 (fun o H4 => o = some (-1) ∧ H4 = H3) I3 ⟨1, rfl, -1, rfl, rfl, rfl⟩) fun vs s4 ⟨o, H4, I4, ps, eo, e4⟩ => ?_
  subst eo e4
  have I5 : Inv X pins σ H4 { s4 with heap := s4.heap.push { cls := .type "slice", data := .fields #[vl, vu, vs] } } := I4.kept (t' := s4.toks) fun b ob q => Heap.get?_push_of_some _ q
  cases pl
  cases pu
  show wpAny (model X.prog X.w) X.A (subscriptTail e (.Slice none none (some (.UnaryOp .USub (.Constant (.int 1) k p1) p2)) p3) (.ref a) (.ref s4.heap.objs.size)) (EP X pins σ Q) X.xe { s4 with heap := s4.heap.push { cls := .type "slice", data := .fields #[.none, .none, vs] } }
  rcases q1 with ⟨a', xs, ex, hx, q⟩ | ⟨a', xs, ex, hx, q⟩
  · cases ex
    obtain ⟨its, r, ht, hz⟩ := I5.list hx
    have hlen := r.length
    refine tail_any (ops := [.ref a, .ref s4.heap.objs.size]) ht.isList.typeIs (PySem.slot_list_getitem.lookup) ?_ (by with_unfolding_all rfl)
    refine wpAny_getItem_list_slice ht.isList (Heap.IsSliceOf.new _ .none .none vs) .none .none ps (by decide) ?_ (by rw [List.size_toArray]; omega)
    rw [PySem.W.krv_pick]
    refine ⟨.ref _, _, I5.laid (t' := s4.toks) (o := .lst xs.reverse) (fun b ob q => Heap.get?_push_of_some _ q) (Nat.le_refl _) ?_, rfl, q _ (I5.hok.fresh (Nat.le_refl _))⟩
    exact ⟨by rw [List.length_reverse]; exact hz, _, 0, r.reverse, Heap.get?_push_size _ rfl⟩
  · cases ex
    obtain ⟨its, r, ht, hz⟩ := I5.tuple hx
    have hlen := r.length
    refine tail_any (ops := [.ref a, .ref s4.heap.objs.size]) ht.typeIs PyProof.Rows.slot_tuple_getitem.lookup ?_ (by with_unfolding_all rfl)
    refine tup_back ht (Heap.IsSliceOf.new _ .none .none vs) ps ?_ (by rw [List.size_toArray]; omega)
    refine ⟨.ref _, _, I5.laid (t' := s4.toks) (o := .tup xs.reverse) (fun b ob q => Heap.get?_push_of_some _ q) (Nat.le_refl _) ?_, rfl, q _ (I5.hok.fresh (Nat.le_refl _))⟩
    exact ⟨by rw [List.length_reverse]; exact hz, _, r.reverse, IsTup.new _ _⟩
end Mi
namespace Mi
open PySem L2 Evl
variable [Tbl]

section
variable {X : Cx} {E : XK} {e a b c : Expr} {es : List Expr} {pos : Pos}
def sNil : Ga → Res (Ga × List D) := fun Γ => .ok (Γ, [])
def sCons (s : Ga → Res (Ga × D)) (r : Ga → Res (Ga × List D)) : Ga → Res (Ga × List D) := fun Γ => (s Γ).bind fun p => (r p.1).bind fun q => .ok (q.1, p.2 :: q.2)
def starD : D → Res (List D)
  | .tuple xs => .ok xs
  | .list xs => .ok xs
  | _ => .stuck
def sStar (s : Ga → Res (Ga × D)) (r : Ga → Res (Ga × List D)) : Ga → Res (Ga × List D) := fun Γ => (s Γ).bind fun p => (starD p.2).bind fun xs => (r p.1).bind fun q => .ok (q.1, xs ++ q.2)
theorem ja_nil : JA X E [] sNil := ⟨_, pa_nil, fun B σ Γ H0 H Q ok w => w [] H0 H ok (Grow.refl _ _ _) (Less.refl _) .nil⟩
theorem ja_cons {s : Ga → Res (Ga × D)} {r : Ga → Res (Ga × List D)} (h : JD X E e s) (hr : JA X E es r) (hs : starEach (e :: es) X.env = (false, eval e X.env) :: starEach es X.env := by rfl) : JA X E (e :: es) (sCons s r) := by
  obtain ⟨t, p, ha⟩ := h.ex
  obtain ⟨u, q, hb⟩ := hr.ex
  refine ⟨_, pa_cons p q hs, fun B σ Γ H0 H Q ok w => ?_⟩
  show t σ H fun x H1 => u σ H1 fun xs H2 => Q (x :: xs) H2
  refine d_then ha wok_A ok w fun Γ1 x v H01 H1 w1 ok1 g1 l1 r1 => ?_
  refine a_then hb wok_A ok1 w1 fun Γ2 xs vs H02 H2 w2 ok2 g2 l2 r2 => ?_
  exact w2 _ H02 H2 ok2 (Grow.refl _ _ _) (Less.refl _) (.cons (r1.m g2.ex0) r2)
def sTup (s : Ga → Res (Ga × List D)) : Ga → Res (Ga × R) := fun Γ => (s Γ).bind fun p => if p.2.length ≤ sizeLine then .ok (p.1, .d (.tuple p.2)) else .stuck
def sLst (s : Ga → Res (Ga × List D)) : Ga → Res (Ga × R) := fun Γ => (s Γ).bind fun p => if p.2.length ≤ sizeLine then .ok (p.1, .f p.2) else .stuck
theorem je_tup {s : Ga → Res (Ga × List D)} {x1} (h : JA X E es s) : JE X E (.Tuple es x1 pos) (sTup s) := by
  obtain ⟨t, p, ha⟩ := h.ex
  refine ⟨_, pe_tup p, fun B σ Γ H0 H Q ok w => ?_⟩
  show t σ H fun xs H1 => xs.length ≤ sizeLine ∧ ∀ p, H1 p = none → Q (.ref p) (upd H1 p (.tup xs))
  refine a_then ha wok_E ok w fun Γ1 xs vs H01 H1 w1 ok1 g1 l1 r1 => ?_
  split at w1
  · exact ⟨by rw [r1.len]; assumption, fun p hp => opd_tup ok1 w1 r1 hp⟩
  · exact w1.elim
theorem je_lst {s : Ga → Res (Ga × List D)} (h : JA X E es s) : JE X E (.List es pos) (sLst s) := by
  obtain ⟨t, p, ha⟩ := h.ex
  refine ⟨_, pe_lst p, fun B σ Γ H0 H Q ok w => ?_⟩
  show t σ H fun xs H1 => xs.length ≤ sizeLine ∧ ∀ p, H1 p = none → Q (.ref p) (upd H1 p (.lst xs))
  refine a_then ha wok_E ok w fun Γ1 xs vs H01 H1 w1 ok1 g1 l1 r1 => ?_
  split at w1
  · exact ⟨by rw [r1.len]; assumption, fun p hp => opd_lst ok1 w1 r1 hp⟩
  · exact w1.elim

def ixG : D → D → Res R
  | .list xs, .int i => match atI xs i with | some x => .ok (.d x) | none => .stuck
  | .tuple xs, .int i => match atI xs i with | some x => .ok (.d x) | none => .stuck
  | .str z, .int i => if z.length ≤ sizeLine then (match atI z.cps.toList i with | some c => .ok (.d (.str ⟨#[c]⟩)) | none => .stuck) else .stuck
  | _, _ => .stuck
omit [Tbl] in
theorem atI_rp {K : PySem.W.Frag} {H : Hp} {xs : List D} {vs : List V} {i : Int} {x : D} (r : RpAll K H vs xs) (h : atI xs i = some x) : ∃ v, atI vs i = some v ∧ Rp K H v x := by
  unfold atI at h ⊢
  rw [r.len]
  cases hj : ixN xs.length i with
  | none => rw [hj] at h; cases h
  | some j =>
    rw [hj] at h
    exact r.get h
theorem ix_sound {r : R2} (hrl : ∀ x y H Q, rIxL X.K x y H Q → r x y H Q) (hrt : ∀ x y H Q, rIxT X.K x y H Q → r x y H Q) (hrs : ∀ x y H Q, rIxS x y H Q → r x y H Q) :
    ∀ B σ Γ H0 H Q v u x y, EnvOk X.K B σ Γ H0 H → RpB X.K H0 H v x → RpB X.K H0 H u y → EW X B E σ Γ H0 H ((ixG x y).bind fun z => .ok (Γ, z)) Q → r v u H Q := fun B σ Γ H0 H Q v u x y ok rx ry w => by
  unfold ixG at w
  split at w
  · split at w
    · rename_i xs i _ z hz
      obtain ⟨p, vs, rfl, h1, r1⟩ := rx.lst ok.sub
      cases ry.int
      obtain ⟨z', e1, r2⟩ := atI_rp r1 hz
      exact hrl _ _ _ _ ⟨p, vs, _, z', rfl, rfl, SqL.of h1, e1, opd_d ok w r2⟩
    · exact w.elim
  · split at w
    · rename_i xs i _ z hz
      obtain ⟨p, vs, rfl, h1, r1⟩ := rx.tup ok.sub
      cases ry.int
      obtain ⟨z', e1, r2⟩ := atI_rp r1 hz
      exact hrt _ _ _ _ ⟨p, vs, _, z', rfl, rfl, h1, e1, opd_d ok w r2⟩
    · exact w.elim
  · split at w
    · split at w
      · rename_i hl _ c hc
        cases rx.str; cases ry.int
        exact hrs _ _ _ _ ⟨_, _, c, rfl, rfl, hl, hc, opd_d ok w (.str _)⟩
      · exact w.elim
    · exact w.elim
  · exact w.elim
theorem je_ix {sa sb : Ga → Res (Ga × D)} (ha : JD X E a sa) (hb : JD X E b sb) (hs : PlainIx b := by intro _ _; rfl) : JE X E (.Subscript a b pos) (sBin ixG sa sb) := by
  obtain ⟨ta, pa, ha⟩ := ha.ex
  obtain ⟨tb, pb, hb⟩ := hb.toB.ex
  exact ⟨_, pe_ix ix_seq pa pb hs, bin_sound (f := fun _ _ => pure .none) (ix_sound (fun _ _ _ _ h => .inl h) (fun _ _ _ _ h => .inr (.inl h)) fun _ _ _ _ h => .inr (.inr h)) ha hb⟩
theorem je_ixN {i : Nat} {sb : Ga → Res (Ga × D)} (pa : PE X a (tVar i)) (hb : JD X E b sb) (hs : PlainIx b := by intro _ _; rfl) : JE X E (.Subscript a b pos) (sBinN ixG i sb) := by
  obtain ⟨tb, pb, hb⟩ := hb.toB.ex
  exact ⟨_, pe_ix ix_seq pa pb hs, binN_sound (ix_sound (fun _ _ _ _ h => .inl h) (fun _ _ _ _ h => .inr (.inl h)) fun _ _ _ _ h => .inr (.inr h)) hb⟩
def sIxScr (i : Nat) (sb : Ga → Res (Ga × D)) : Ga → Res (Ga × R) := fun Γ => match Γ[i]? with
  | some (.scr ns) => (sb Γ).bind fun q => (match q.2 with | .int k => (match atI ns k with | some n => .ok (q.1, .d (.int n)) | none => .stuck) | _ => .stuck)
  | _ => .stuck
theorem je_ixScr {i : Nat} {sb : Ga → Res (Ga × D)} (pa : PE X a (tVar i)) (hb : JD X E b sb) (hs : PlainIx b := by intro _ _; rfl) : JE X E (.Subscript a b pos) (sIxScr i sb) := by
  obtain ⟨tb, pb, hb⟩ := hb.ex
  refine ⟨_, pe_ix ix_list pa pb hs, fun B σ Γ H0 H Q ok w => ?_⟩
  unfold sIxScr at w
  split at w
  · rename_i ns hns
    obtain ⟨p, e1, hq⟩ := ok.scr i ns hns
    refine ⟨_, e1, ?_⟩
    show tb σ H fun y H2 => rIxL X.K (.ref p) y H2 Q
    refine d_then hb wok_E ok w fun Γ1 x v H01 H1 w1 ok1 g1 l1 r1 => ?_
    split at w1
    · split at w1
      · rename_i k hk _ n hn
        have hk : x = .int k := hk
        subst hk
        cases r1
        refine ⟨p, _, k, .int n, rfl, rfl, ex_l (g1.ex0.trans ok1.sub) hq, ?_, opd_d ok1 w1 (.int _)⟩
        unfold atI at hn ⊢
        rw [List.length_map]
        cases hj : ixN ns.length k with
        | none => rw [hj] at hn; cases hn
        | some j =>
          rw [hj] at hn
          show (ns.map V.int)[j]? = _
          rw [List.getElem?_map, show ns[j]? = some n from hn]
          rfl
      · exact w1.elim
    · exact w1.elim
  · exact w.elim

def JO (X : Cx) (E : XK) (e : Option Expr) (s : Ga → Res (Ga × Option Int)) : Prop :=
  ∃ t, PO X e t ∧ ∀ B σ Γ H0 H Q, EnvOk X.K B σ Γ H0 H → (match s Γ with
    | .ok (Γ', o) => ∀ H0' H', EnvOk X.K B σ Γ' H0' H' → Grow (OwnOf σ Γ) H0 H H0' H' → Less Γ Γ' → Q o H'
    | .exc c x => XW X B E c x
    | .stuck => False) → t σ H Q
def sNoO : Ga → Res (Ga × Option Int) := fun Γ => .ok (Γ, none)
def sSomeO (s : Ga → Res (Ga × D)) : Ga → Res (Ga × Option Int) := fun Γ => (s Γ).bind fun p => match p.2 with | .int i => .ok (p.1, some i) | _ => .stuck
theorem jo_none : JO X E none sNoO := ⟨_, po_none, fun B σ Γ H0 H Q ok w => w H0 H ok (Grow.refl _ _ _) (Less.refl _)⟩
def OW (X : Cx) (B : Bg) (E : XK) (σ : L2.St) (Γ : Ga) (H0 H : Hp) (r : Res (Ga × Option Int)) (Q : Option Int → Hp → Prop) : Prop := match r with
    | .ok (Γ', o) => ∀ H0' H', EnvOk X.K B σ Γ' H0' H' → Grow (OwnOf σ Γ) H0 H H0' H' → Less Γ Γ' → Q o H'
    | .exc c x => XW X B E c x
    | .stuck => False
theorem wok_O {B : Bg} {σ : L2.St} {Q : Option Int → Hp → Prop} : WOk X B E σ fun Γ H0 H r => OW X B E σ Γ H0 H r Q where
  exc := fun _ _ _ _ _ h => h
  stuck := fun _ _ _ h => h
  shift := fun Γ H0 H Γ1 H01 H1 r ok g l w => by
    cases r with
    | stuck => exact w
    | exc c x => exact w
    | ok p => exact fun H0' H' o' g' l' => w H0' H' o' (shift_g g l g') (l.trans l')
theorem jo_some {s : Ga → Res (Ga × D)} (h : JD X E e s) : JO X E (some e) (sSomeO s) := by
  obtain ⟨t, p, ha⟩ := h.ex
  refine ⟨_, po_some p, fun B σ Γ H0 H Q ok w => ?_⟩
  have w : OW X B E σ Γ H0 H (sSomeO s Γ) Q := w
  show t σ H fun x H1 => ∃ i, x = .int i ∧ Q (some i) H1
  refine d_then ha wok_O ok w fun Γ1 x v H01 H1 w1 ok1 g1 l1 r1 => ?_
  split at w1
  · rename_i i hx
    have hx : x = .int i := hx
    subst hx
    cases r1
    exact ⟨_, rfl, w1 H01 H1 ok1 (Grow.refl _ _ _) (Less.refl _)⟩
  · exact w1.elim
def cutD (xs : List D) (lo hi : Option Int) : List D := (xs.drop (HT.sIx xs.length 0 lo)).take (HT.sIx xs.length xs.length hi - HT.sIx xs.length 0 lo)
omit [Tbl] in
theorem cut_rp {K : PySem.W.Frag} {H : Hp} {xs : List D} {vs : List V} {lo hi : Option Int} (r : RpAll K H vs xs) : RpAll K H (cutV vs lo hi) (cutD xs lo hi) := by
  unfold cutV cutD
  rw [r.len]
  exact (r.drop _).take _
def slG (x : D) (lo hi : Option Int) : Res R := match x with
  | .list xs => .ok (.f (cutD xs lo hi))
  | .tuple xs => .ok (.d (.tuple (cutD xs lo hi)))
  | _ => .stuck
omit [Tbl] in
theorem cut_whole {α : Type} (xs : List α) {i j : Nat} (h0 : i = 0) (h1 : j = xs.length) : (xs.drop i).take (j - i) = xs := by
  subst h0 h1; simp
def sSl (s : Ga → Res (Ga × D)) (lo hi : Ga → Res (Ga × Option Int)) : Ga → Res (Ga × R) := fun Γ => (s Γ).bind fun p => (lo p.1).bind fun q => (hi q.1).bind fun r => (slG p.2 q.2 r.2).bind fun z => .ok (r.1, z)
def sSlN (i : Nat) (lo hi : Ga → Res (Ga × Option Int)) : Ga → Res (Ga × R) := fun Γ => (slD Γ i).bind fun _ => (lo Γ).bind fun q => (hi q.1).bind fun r => (slD r.1 i).bind fun x => (slG x q.2 r.2).bind fun z => .ok (r.1, z)
theorem o_then {β : Type} {W : Ga → Hp → Hp → Res β → Prop} {B : Bg} {σ : L2.St} {Γ : Ga} {H0 H : Hp} {t : TO} {s : Ga → Res (Ga × Option Int)} {f : Ga × Option Int → Res β} {Q : Option Int → Hp → Prop}
    (ha : ∀ B σ Γ H0 H Q, EnvOk X.K B σ Γ H0 H → OW X B E σ Γ H0 H (s Γ) Q → t σ H Q) (wo : WOk X B E σ W) (ok : EnvOk X.K B σ Γ H0 H) (w : W Γ H0 H ((s Γ).bind f))
    (k : ∀ Γ1 o H01 H1, W Γ1 H01 H1 (f (Γ1, o)) → EnvOk X.K B σ Γ1 H01 H1 → Grow (OwnOf σ Γ) H0 H H01 H1 → Less Γ Γ1 → Q o H1) : t σ H Q := by
  refine ha B σ Γ H0 H Q ok ?_
  cases hs : s Γ with
  | stuck => rw [hs] at w; exact (wo.stuck _ _ _ w).elim
  | exc c x => rw [hs] at w; exact wo.exc _ _ _ _ _ w
  | ok p =>
    rw [hs] at w
    exact fun H01 H1 ok1 g l => k _ _ H01 H1 (wo.shift _ _ _ _ _ _ _ ok g l w) ok1 g l
theorem sl_end {B : Bg} {σ : L2.St} {Γ : Ga} {H0 H : Hp} {Q : VK} {x : D} {v : V} {lo hi : Option Int} (ok : EnvOk X.K B σ Γ H0 H) (rx : RpB X.K H0 H v x) (w : EW X B E σ Γ H0 H ((slG x lo hi).bind fun z => .ok (Γ, z)) Q) :
    rSlL X.K v lo hi H Q ∨ rSlA X.K v lo hi H Q := by
  unfold slG at w
  split at w
  · obtain ⟨p, vs, rfl, h1, r1⟩ := rx.lst ok.sub
    exact .inl ⟨p, vs, rfl, SqL.of h1, fun o ho => opd_lst ok w (cut_rp r1) ho⟩
  · rename_i xs
    obtain ⟨p, vs, rfl, h1, r1⟩ := rx.tup ok.sub
    refine .inr ⟨p, vs, rfl, h1, fun ⟨h2, h3⟩ => ?_, fun _ o ho => opd_tup ok w (cut_rp r1) ho⟩
    have e : cutD xs lo hi = xs := by
      unfold cutD
      rw [r1.len] at h2 h3
      exact cut_whole xs h2 h3
    rw [e] at w
    rcases rx with r | ⟨_, _, _, e1, e2, _⟩
    · exact opd_d ok w r
    · cases e2
  · exact w.elim
theorem je_sl {s : Ga → Res (Ga × D)} {lo hi : Ga → Res (Ga × Option Int)} {el eh : Option Expr} {p2 : Pos} (h : JD X E e s) (hl : JO X E el lo) (hh : JO X E eh hi) : JE X E (.Subscript e (.Slice el eh none p2) pos) (sSl s lo hi) := by
  obtain ⟨t, p, ha⟩ := h.ex
  obtain ⟨tl, pl, hl⟩ := hl
  obtain ⟨th, ph, hh⟩ := hh
  refine ⟨_, pe_slice (sl_list.or sl_tupA) p pl ph, fun B σ Γ H0 H Q ok w => ?_⟩
  show t σ H fun x H1 => tl σ H1 fun l H2 => th σ H2 fun u H3 => rSlL X.K x l u H3 Q ∨ rSlA X.K x l u H3 Q
  refine d_then ha wok_E ok w fun Γ1 x v H01 H1 w1 ok1 g1 l1 r1 => ?_
  refine o_then hl wok_E ok1 w1 fun Γ2 l H02 H2 w2 ok2 g2 l2 => ?_
  refine o_then hh wok_E ok2 w2 fun Γ3 u H03 H3 w3 ok3 g3 l3 => ?_
  exact sl_end ok3 (.inl (r1.m (g2.ex0.trans g3.ex0))) w3
def sRev (s : Ga → Res (Ga × D)) : Ga → Res (Ga × R) := fun Γ => (s Γ).bind fun p => match p.2 with | .list xs => .ok (p.1, .f xs.reverse) | .tuple xs => .ok (p.1, .d (.tuple xs.reverse)) | _ => .stuck
theorem je_rev {s : Ga → Res (Ga × D)} {k : Nat} {p1 p2 p3 : Pos} (h : JB X E e s) : JE X E (.Subscript e (.Slice none none (some (.UnaryOp .USub (.Constant (.int 1) k p1) p2)) p3) pos) (sRev s) := by
  obtain ⟨t, p, ha⟩ := h.ex
  refine ⟨_, pe_back p, fun B σ Γ H0 H Q ok w => ?_⟩
  show t σ H fun x H1 => (∃ a xs, x = .ref a ∧ SqL X.K H1 a xs ∧ ∀ p, H1 p = none → Q (.ref p) (upd H1 p (.lst xs.reverse))) ∨ ∃ a xs, x = .ref a ∧ SqT X.K H1 a xs ∧ ∀ p, H1 p = none → Q (.ref p) (upd H1 p (.tup xs.reverse))
  refine b_then ha wok_E ok w fun Γ1 x v H01 H1 w1 ok1 g1 l1 r1 => ?_
  split at w1
  · rename_i xs hx
    have hx : x = .list xs := hx
    subst hx
    obtain ⟨p, vs, rfl, h1, r1⟩ := r1.lst ok1.sub
    exact .inl ⟨p, vs, rfl, SqL.of h1, fun o ho => opd_lst ok1 w1 r1.rev ho⟩
  · rename_i xs hx
    have hx : x = .tuple xs := hx
    subst hx
    obtain ⟨p, vs, rfl, h1, r1⟩ := r1.tup ok1.sub
    exact .inr ⟨p, vs, rfl, h1, fun o ho => opd_tup ok1 w1 r1.rev ho⟩
  · exact w1.elim

def CallD1 (X : Cx) (E : XK) (f : Value) (g : D → Res R) : Prop :=
  ∃ r, CallR X f r ∧ ∀ B σ Γ H0 H Q v x, EnvOk X.K B σ Γ H0 H → RpB X.K H0 H v x → EW X B E σ Γ H0 H ((g x).bind fun z => .ok (Γ, z)) Q → r [v] H Q
def sCallB (g : List D → Res R) (s : Ga → Res (Ga × List D)) : Ga → Res (Ga × R) := fun Γ => (s Γ).bind fun p => (g p.2).bind fun z => .ok (p.1, z)
section
variable {x : Str} {p : Pos} {id T : String}
theorem one_sound {r : List V → Hp → VK → Prop} {g : D → Res R} {s : Ga → Res (Ga × D)} {t : TE} (hr : ∀ B σ Γ H0 H Q v x, EnvOk X.K B σ Γ H0 H → RpB X.K H0 H v x → EW X B E σ Γ H0 H ((g x).bind fun z => .ok (Γ, z)) Q → r [v] H Q)
    (ha : ∀ B σ Γ H0 H Q, EnvOk X.K B σ Γ H0 H → BW X B E σ Γ H0 H (s Γ) Q → t σ H Q) : ∀ B σ Γ H0 H Q, EnvOk X.K B σ Γ H0 H → EW X B E σ Γ H0 H (sUn g s Γ) Q → tCB r (tCons t tNil) σ H Q := fun B σ Γ H0 H Q ok w => by
  show t σ H fun x H1 => r [x] H1 Q
  exact b_then ha wok_E ok w fun Γ1 x v H01 H1 w1 ok1 g1 l1 r1 => hr B σ Γ1 H01 H1 Q v x ok1 r1 w1
theorem je_call1 {g : D → Res R} {s : Ga → Res (Ga × D)} (hc : CallD1 X E (.builtin id) g) (hg : Gl X x) (hm : X.mg x = none) (hv : bootBuiltins x = some (.builtin id)) (h : JB X E e s) (hn : x ≠ "__name__" := by decide) (hdb : (x == ("__debug__" : Str)) = false := by decide)
    (hst : starEach (e :: []) X.env = (false, eval e X.env) :: starEach [] X.env := by rfl) : JE X E (.Call (.Name x p) [e] [] pos) (sUn g s) := by
  obtain ⟨r, hcr, hr⟩ := hc
  obtain ⟨t, pp, ha⟩ := h.ex
  exact ⟨_, pe_callB hcr hg hm hv (pa_cons pp pa_nil hst) hn hdb hst rfl, one_sound hr ha⟩
theorem je_callT1 {g : D → Res R} {s : Ga → Res (Ga × D)} (hc : CallD1 X E (.type T) g) (hg : Gl X x) (hm : X.mg x = none) (hv : bootBuiltins x = some (.type T)) (h : JB X E e s) (hn : x ≠ "__name__" := by decide) (hdb : (x == ("__debug__" : Str)) = false := by decide)
    (hst : starEach (e :: []) X.env = (false, eval e X.env) :: starEach [] X.env := by rfl) : JE X E (.Call (.Name x p) [e] [] pos) (sUn g s) := by
  obtain ⟨r, hcr, hr⟩ := hc
  obtain ⟨t, pp, ha⟩ := h.ex
  exact ⟨_, pe_callTy hcr hg hm hv (pa_cons pp pa_nil hst) hn hdb hst rfl, one_sound hr ha⟩
end
def lenG : D → Res R
  | .list xs => .ok (.d (.int xs.length))
  | .tuple xs => .ok (.d (.int xs.length))
  | .str x => if x.length ≤ sizeLine then .ok (.d (.int x.length)) else .stuck
  | _ => .stuck
theorem cd_len : CallD1 X E (.builtin "len") lenG := by
  refine ⟨_, call_len, fun B σ Γ H0 H Q v x ok rx w => ?_⟩
  unfold lenG at w
  split at w
  · obtain ⟨p, vs, rfl, h1, r1⟩ := rx.lst ok.sub
    refine ⟨_, _, rfl, .inl ⟨vs, SqL.of h1, rfl⟩, ?_⟩
    rw [r1.len]; exact opd_d ok w (.int _)
  · obtain ⟨p, vs, rfl, h1, r1⟩ := rx.tup ok.sub
    refine ⟨_, _, rfl, .inr ⟨vs, h1, rfl⟩, ?_⟩
    rw [r1.len]; exact opd_d ok w (.int _)
  · split at w
    · cases rx.str
      exact ⟨_, _, rfl, ⟨by assumption, rfl⟩, opd_d ok w (.int _)⟩
    · exact w.elim
  · exact w.elim
def listG : D → Res R
  | .list xs => .ok (.f xs)
  | .tuple xs => .ok (.f xs)
  | _ => .stuck
theorem cd_list : CallD1 X E (.type "list") listG := by
  refine ⟨_, call_list_of, fun B σ Γ H0 H Q v x ok rx w => ?_⟩
  unfold listG at w
  split at w
  · obtain ⟨p, vs, rfl, h1, r1⟩ := rx.lst ok.sub
    exact ⟨p, vs, rfl, .inl (SqL.of h1), fun l hl => opd_lst ok w r1 hl⟩
  · obtain ⟨p, vs, rfl, h1, r1⟩ := rx.tup ok.sub
    exact ⟨p, vs, rfl, .inr h1, fun l hl => opd_lst ok w r1 hl⟩
  · exact w.elim
def tupleG : D → Res R
  | .list xs => .ok (.d (.tuple xs))
  | .tuple xs => .ok (.d (.tuple xs))
  | _ => .stuck
theorem cd_tuple : CallD1 X E (.type "tuple") tupleG := by
  refine ⟨_, call_tuple_of, fun B σ Γ H0 H Q v x ok rx w => ?_⟩
  unfold tupleG at w
  split at w
  · obtain ⟨p, vs, rfl, h1, r1⟩ := rx.lst ok.sub
    exact ⟨p, vs, rfl, .inl ⟨SqL.of h1, fun l hl => opd_tup ok w r1 hl⟩⟩
  · obtain ⟨p, vs, rfl, h1, r1⟩ := rx.tup ok.sub
    refine ⟨p, vs, rfl, .inr ⟨h1, ?_⟩⟩
    rcases rx with r | ⟨_, _, _, e1, e2, _⟩
    · exact opd_d ok w r
    · cases e2
  · exact w.elim
def intsOf : List D → Option (List Int)
  | [] => some []
  | .int i :: r => (intsOf r).map (i :: ·)
  | _ :: _ => none
omit [Tbl] in
theorem ints_rp {K : PySem.W.Frag} {H : Hp} : ∀ {xs : List D} {vs : List V} {ns : List Int}, RpAll K H vs xs → intsOf xs = some ns → vs = ns.map V.int
  | [], _, _, r, h => by cases r; cases h; rfl
  | .int i :: xs, _, ns, r, h => by
    unfold intsOf at h
    cases hx : intsOf xs with
    | none => rw [hx] at h; cases h
    | some ms =>
      rw [hx] at h; cases h
      cases r with
      | cons r1 r2 => cases r1; rw [ints_rp r2 hx]; rfl
  | .none :: _, _, _, _, h => by cases h
  | .bool _ :: _, _, _, _, h => by cases h
  | .str _ :: _, _, _, _, h => by cases h
  | .list _ :: _, _, _, _, h => by cases h
  | .tuple _ :: _, _, _, _, h => by cases h
  | .dict _ :: _, _, _, _, h => by cases h
def sumG : D → Res R
  | .list xs => match intsOf xs with | some ns => .ok (.d (.int ns.sum)) | none => .stuck
  | _ => .stuck
theorem cd_sum (hc : X.calm = true) : CallD1 X E (.builtin "sum") sumG := by
  refine ⟨_, cr_sum hc, fun B σ Γ H0 H Q v x ok rx w => ?_⟩
  unfold sumG at w
  split at w
  · split at w
    · rename_i ns hns
      obtain ⟨p, vs, rfl, h1, r1⟩ := rx.lst ok.sub
      rw [ints_rp r1 hns] at h1
      exact ⟨p, ns, rfl, SqL.of h1, opd_d ok w (.int _)⟩
    · exact w.elim
  · exact w.elim
def maxL : Int → List Int → Int
  | m, [] => m
  | m, x :: r => maxL (if m < x then x else m) r
omit [Tbl] in
theorem maxL_ge : ∀ (l : List Int) (m : Int), m ≤ maxL m l ∧ ∀ y ∈ l, y ≤ maxL m l
  | [], m => ⟨Int.le_refl _, fun y h => by cases h⟩
  | x :: r, m => by
    obtain ⟨h1, h2⟩ := maxL_ge r (if m < x then x else m)
    refine ⟨?_, fun y hy => ?_⟩
    · show m ≤ maxL (if m < x then x else m) r
      split at h1 <;> rename_i z
      · rw [if_pos z]; omega
      · rw [if_neg z]; omega
    · rcases List.mem_cons.mp hy with e | hy
      · subst e
        show y ≤ maxL (if m < y then y else m) r
        split at h1 <;> rename_i z
        · rw [if_pos z]; omega
        · rw [if_neg z]; omega
      · exact h2 y hy
omit [Tbl] in
theorem maxL_mem : ∀ (l : List Int) (m : Int), maxL m l = m ∨ maxL m l ∈ l
  | [], m => .inl rfl
  | x :: r, m => by
    show maxL (if m < x then x else m) r = m ∨ maxL (if m < x then x else m) r ∈ x :: r
    rcases maxL_mem r (if m < x then x else m) with h | h
    · split at h <;> rename_i z
      · rw [if_pos z, h]; exact .inr List.mem_cons_self
      · rw [if_neg z, h]; exact .inl rfl
    · exact .inr (List.mem_cons_of_mem _ h)
def max2G : List D → Res R
  | [.int i, .int j] => .ok (.d (.int (if j > i then j else i)))
  | _ => .stuck
def min2G : List D → Res R
  | [.int i, .int j] => .ok (.d (.int (if j < i then j else i)))
  | _ => .stuck
def absG : D → Res R
  | .int i => .ok (.d (.int (if i < 0 then -i else i)))
  | _ => .stuck
theorem cd_abs : CallD1 X E (.builtin "abs") absG := by
  refine ⟨_, call_abs, fun B σ Γ H0 H Q v x ok rx w => ?_⟩
  unfold absG at w
  split at w
  · cases rx.int
    exact ⟨_, rfl, opd_d ok w (.int _)⟩
  · exact w.elim
def intG : D → Res R
  | .int i => .ok (.d (.int i))
  | .bool b => .ok (.d (.int (if b then 1 else 0)))
  | _ => .stuck
theorem cd_int : CallD1 X E (.type "int") intG := by
  refine ⟨_, call_int1, fun B σ Γ H0 H Q v x ok rx w => ?_⟩
  unfold intG at w
  split at w
  · cases rx.int
    exact .inl ⟨_, rfl, opd_d ok w (.int _)⟩
  · cases rx.bl
    exact .inr ⟨_, rfl, opd_d ok w (.int _)⟩
  · exact w.elim
def boolsOf : List D → Option (List Bool)
  | [] => some []
  | .bool i :: r => (boolsOf r).map (i :: ·)
  | _ :: _ => none
omit [Tbl] in
theorem bools_rp {K : PySem.W.Frag} {H : Hp} : ∀ {xs : List D} {vs : List V} {ns : List Bool}, RpAll K H vs xs → boolsOf xs = some ns → vs = ns.map V.bl
  | [], _, _, r, h => by cases r; cases h; rfl
  | .bool i :: xs, _, ns, r, h => by
    unfold boolsOf at h
    cases hx : boolsOf xs with
    | none => rw [hx] at h; cases h
    | some ms =>
      rw [hx] at h; cases h
      cases r with
      | cons r1 r2 => cases r1; rw [bools_rp r2 hx]; rfl
  | .none :: _, _, _, _, h => by cases h
  | .int _ :: _, _, _, _, h => by cases h
  | .str _ :: _, _, _, _, h => by cases h
  | .list _ :: _, _, _, _, h => by cases h
  | .tuple _ :: _, _, _, _, h => by cases h
  | .dict _ :: _, _, _, _, h => by cases h
def allG : D → Res R
  | .list xs => match boolsOf xs with | some ns => .ok (.d (.bool (ns.all id))) | none => .stuck
  | _ => .stuck
theorem cd_all (hc : X.calm = true) : CallD1 X E (.builtin "all") allG := by
  refine ⟨_, cr_all hc, fun B σ Γ H0 H Q v x ok rx w => ?_⟩
  unfold allG at w
  split at w
  · split at w
    · rename_i ns hns
      obtain ⟨p, vs, rfl, h1, r1⟩ := rx.lst ok.sub
      rw [bools_rp r1 hns] at h1
      exact ⟨p, ns, rfl, SqL.of h1, opd_d ok w (.bl _)⟩
    · exact w.elim
  · exact w.elim
def tyD : D → Option String
  | .none => some "NoneType"
  | .bool _ => some "bool"
  | .int _ => some "int"
  | .str _ => some "str"
  | .list _ => some "list"
  | .tuple _ => some "tuple"
  | .dict [] => some "dict"
  | .dict (_ :: _) => none
def isiB (a b : String) : Bool := a == b || (a == "bool" && b == "int")
def kinds5 : List String := ["NoneType", "bool", "int", "str", "list", "tuple", "dict"]
omit [Tbl] in
theorem kit_all : ∀ a ∈ kinds5, ∀ b ∈ ["bool", "int", "str", "list", "tuple"], kitB a b = some (isiB a b) := by decide +kernel
def isiG (T : String) : D → Res R := fun x => match tyD x with | some t => .ok (.d (.bool (isiB t T))) | none => .stuck
omit [Tbl] in
theorem tyD_ok {K : PySem.W.Frag} {H0 H : Hp} {v : V} {x : D} {t : String} (s : Ex H0 H) (r : RpB K H0 H v x) (h : tyD x = some t) : TyX K H v (.type t) ∧ t ∈ kinds5 := by
  cases x with
  | none => cases h; cases r.non; exact ⟨.base .non, by decide⟩
  | bool b => cases h; cases r.bl; exact ⟨.base (.bl _), by decide⟩
  | int i => cases h; cases r.int; exact ⟨.base (.int _), by decide⟩
  | str z => cases h; cases r.str; exact ⟨.base (.str _), by decide⟩
  | list xs =>
    cases h
    obtain ⟨p, vs, rfl, h1, _⟩ := r.lst s
    exact ⟨.base (.lst h1), by decide⟩
  | tuple xs =>
    cases h
    obtain ⟨p, vs, rfl, h1, _⟩ := r.tup s
    refine ⟨?_, by decide⟩
    rcases h1 with (h1 | ⟨o, h1⟩) | ⟨o, its, n, h1, h2, _⟩
    · exact .base (.tup h1)
    · exact .fTuple h1
    · exact .kTuple h1 h2
  | dict kvs =>
    cases kvs with
    | cons _ _ => cases h
    | nil =>
      cases h
      rcases r with r | ⟨a, vs, ys, rfl, e, h, r⟩
      · cases r with
        | dct h1 => exact ⟨.base (.dK (s _ _ h1)), by decide⟩
      · cases e
theorem je_isi {x : Str} {p q : Pos} {T : String} {y : Str} {s : Ga → Res (Ga × D)} (hT : T ∈ ["bool", "int", "str", "list", "tuple"]) (hg : Gl X x) (hm : X.mg x = none) (hv : bootBuiltins x = some (.builtin "isinstance")) (hg2 : Gl X y) (hm2 : X.mg y = none) (hv2 : bootBuiltins y = some (.type T))
    (h : JB X E e s) (hn : x ≠ "__name__" := by decide) (hdb : (x == ("__debug__" : Str)) = false := by decide) (hn2 : y ≠ "__name__" := by decide) (hdb2 : (y == ("__debug__" : Str)) = false := by decide)
    (hs : starEach (e :: [.Name y q]) X.env = (false, eval e X.env) :: starEach [.Name y q] X.env := by rfl) (hs2 : starEach (Expr.Name y q :: []) X.env = (false, eval (.Name y q) X.env) :: starEach [] X.env := by rfl) (hpl : (backTo pos (starEach [.Name y q] X.env)).any (·.1) = false := by rfl) :
    JE X E (.Call (.Name x p) [e, .Name y q] [] pos) (sUn (isiG T) s) := by
  obtain ⟨t, pp, ha⟩ := h.ex
  refine ⟨_, pe_callB call_isi hg hm hv (pa_cons pp (pa_cons (pe_bltn (v := .ty T) hg2 hm2 hv2 rfl hn2 hdb2) pa_nil hs2) hs) hn hdb hs hpl, fun B σ Γ H0 H Q ok w => ?_⟩
  show t σ H fun x H1 => rIsi X.K [x, .ty T] H1 Q
  refine b_then ha wok_E ok w fun Γ1 x v H01 H1 w1 ok1 g1 l1 r1 => ?_
  unfold isiG at w1
  split at w1
  · rename_i t' ht
    obtain ⟨h1, h2⟩ := tyD_ok ok1.sub r1 ht
    exact ⟨v, .ty T, _, _, _, rfl, .ty T, h1, kit_ty (kit_all _ h2 _ hT), opd_d ok1 w1 (.bl _)⟩
  · exact w1.elim
end
end Mi
namespace Mi
open PySem L2 Evl
variable [Tbl]

section
variable {K : PySem.W.Frag} {B : Bg} {σ : L2.St} {Γ : Ga} {H0 H : Hp}
omit [Tbl] in
theorem set_back {α : Type} {l : List α} {i j : Nat} {x y : α} (h : (l.set i x)[j]? = some y) : (j = i ∧ y = x ∧ i < l.length) ∨ (j ≠ i ∧ l[j]? = some y) := by
  by_cases z : j = i
  · subst z
    by_cases hi : j < l.length
    · rw [List.getElem?_set_self hi] at h; cases h; exact .inl ⟨rfl, rfl, hi⟩
    · rw [List.getElem?_eq_none (by simpa using hi)] at h; cases h
  · rw [List.getElem?_set_ne (Ne.symm z)] at h; exact .inr ⟨z, h⟩
omit [Tbl] in
theorem set_at {α : Type} {l : List α} {i : Nat} {x : α} (h : i < l.length) : (l.set i x)[i]? = some x := List.getElem?_set_self h
omit [Tbl] in
theorem upd_live {H : Hp} {p a : Addr} {o : HO} (q : H p ≠ none) : upd H a o p ≠ none := by
  unfold upd
  split
  · simp
  · exact q
theorem EnvOk.setD (ok : EnvOk K B σ Γ H0 H) {v : V} {x : D} (i : Nat) (r : Rp K H0 v x) : EnvOk K B (σ.set i (some v)) (Γ.set i (.d x)) H0 H where
  sub := ok.sub
  len := by simp [ok.len]
  dat := fun j y h => by
    rcases set_back h with ⟨e, e2, hi⟩ | ⟨e, h⟩
    · cases e2; subst e
      exact ⟨v, set_at (by rw [← ok.len]; exact hi), r⟩
    · obtain ⟨w, e1, q⟩ := ok.dat j y h
      exact ⟨w, by rw [List.getElem?_set_ne (Ne.symm e)]; exact e1, q⟩
  scr := fun j y h => by
    rcases set_back h with ⟨e, e2, hi⟩ | ⟨e, h⟩
    · cases e2
    · obtain ⟨w, e1, q⟩ := ok.scr j y h
      exact ⟨w, by rw [List.getElem?_set_ne (Ne.symm e)]; exact e1, q⟩
  own := fun j b xs h => by
    rcases set_back h with ⟨e, e2, hi⟩ | ⟨e, h⟩
    · cases e2
    · obtain ⟨a, vs, e1, q⟩ := ok.own j b xs h
      exact ⟨a, vs, by rw [List.getElem?_set_ne (Ne.symm e)]; exact e1, q⟩
  apart := fun j k b c xs ys a hjk h1 h2 => by
    rcases set_back h1 with ⟨e, e2, hi⟩ | ⟨e, h1⟩
    · cases e2
    · rcases set_back h2 with ⟨e', e2, hi⟩ | ⟨e', h2⟩
      · cases e2
      · rw [List.getElem?_set_ne (Ne.symm e), List.getElem?_set_ne (Ne.symm e')]
        exact ok.apart j k b c xs ys a hjk h1 h2
  grow := ok.grow
  tabs := ok.tabs
  past := ok.past
  cl := fun j h => by
    rcases set_back h with ⟨_, e2, _⟩ | ⟨e, h⟩
    · cases e2
    · rw [List.getElem?_set_ne (Ne.symm e)]; exact ok.cl j h
theorem EnvOk.setF (ok : EnvOk K B σ Γ H0 H) {a : Addr} {vs : List V} {xs : List D} (i : Nat) (hb : B.He a = none) (n0 : H0 a = none) (e : H a = some (.lst vs)) (r : RpAll K H0 vs xs) (no : ¬ OwnOf σ Γ a) :
    EnvOk K B (σ.set i (some (.ref a))) (Γ.set i (.own false xs)) H0 H where
  sub := ok.sub
  len := by simp [ok.len]
  dat := fun j y h => by
    rcases set_back h with ⟨e, e2, hi⟩ | ⟨e, h⟩
    · cases e2
    · obtain ⟨w, e1, q⟩ := ok.dat j y h
      exact ⟨w, by rw [List.getElem?_set_ne (Ne.symm e)]; exact e1, q⟩
  scr := fun j y h => by
    rcases set_back h with ⟨e, e2, hi⟩ | ⟨e, h⟩
    · cases e2
    · obtain ⟨w, e1, q⟩ := ok.scr j y h
      exact ⟨w, by rw [List.getElem?_set_ne (Ne.symm e)]; exact e1, q⟩
  own := fun j b ys h => by
    rcases set_back h with ⟨z, e2, hi⟩ | ⟨z, h⟩
    · cases e2; subst z
      exact ⟨a, .lst vs, set_at (by rw [← ok.len]; exact hi), n0, e, ⟨vs, rfl, r⟩, (fun q => nomatch q), fun _ => hb⟩
    · obtain ⟨a, vs, e1, q⟩ := ok.own j b ys h
      exact ⟨a, vs, by rw [List.getElem?_set_ne (Ne.symm z)]; exact e1, q⟩
  apart := fun j k b c ys zs p hjk h1 h2 => by
    rcases set_back h1 with ⟨z, e2, hi⟩ | ⟨z, h1'⟩
    · cases e2; subst z
      rcases set_back h2 with ⟨z', e2, hi⟩ | ⟨z', h2'⟩
      · exact absurd z'.symm hjk
      · rw [set_at (by rw [← ok.len]; exact hi), List.getElem?_set_ne (Ne.symm z')]
        intro q q2
        cases q
        exact no ⟨k, c, zs, h2', q2⟩
    · rcases set_back h2 with ⟨z', e2, hi⟩ | ⟨z', h2'⟩
      · cases e2; subst z'
        rw [set_at (by rw [← ok.len]; exact hi), List.getElem?_set_ne (Ne.symm z)]
        intro q q2
        cases q2
        exact no ⟨j, b, ys, h1', q⟩
      · rw [List.getElem?_set_ne (Ne.symm z), List.getElem?_set_ne (Ne.symm z')]
        exact ok.apart j k b c ys zs p hjk h1' h2'
  grow := ok.grow
  tabs := ok.tabs
  past := ok.past
  cl := fun j h => by
    rcases set_back h with ⟨_, e2, _⟩ | ⟨e, h⟩
    · cases e2
    · rw [List.getElem?_set_ne (Ne.symm e)]; exact ok.cl j h
theorem Grow.own {i : Nat} {b : Bool} {xs : List D} {a : Addr} {o : HO} (h : Γ[i]? = some (.own b xs)) (e : σ[i]? = some (some (.ref a))) (hl : ∃ vs, H a = some (.lst vs)) : Grow (OwnOf σ Γ) H0 H H0 (upd H a o) :=
  ⟨Ex.refl _, fun p u q n _ => by rw [upd_ne fun z => n ⟨i, b, xs, h, by rw [← z] at e; exact e⟩]; exact q, fun _ _ _ => rfl, fun p q => upd_live q, tabs_upd (.inl hl), fun q => q⟩
theorem EnvOk.setOwn (ok : EnvOk K B σ Γ H0 H) {i : Nat} {b : Bool} {xs ys : List D} {a : Addr} {ws : List V} (h : Γ[i]? = some (.own b xs)) (e : σ[i]? = some (some (.ref a))) (r : RpAll K H0 ws ys) :
    EnvOk K B σ (Γ.set i (.own b ys)) H0 (upd H a (.lst ws)) := by
  obtain ⟨a', vs, q1, q2, q3, q4, q5, q6⟩ := ok.ownL i b xs h
  rw [e] at q1; cases q1
  refine ok.step (Grow.own h e ⟨_, q3⟩) (ok.sub.mut q2) (fun j x hj => ?_) (fun j ns hj => ?_) fun j c zs hj => ?_
  · rcases set_back hj with ⟨_, z, _⟩ | ⟨_, z⟩
    · cases z
    · exact .inl z
  · rcases set_back hj with ⟨_, z, _⟩ | ⟨_, z⟩
    · cases z
    · exact z
  · rcases set_back hj with ⟨z1, z, _⟩ | ⟨z1, z⟩
    · cases z; subst z1
      exact ⟨xs, h, fun p hp => by rw [e] at hp; cases hp; exact ⟨q2, .lst ws, upd_same, ws, rfl, r⟩⟩
    · refine ⟨zs, z, fun p hp => ?_⟩
      obtain ⟨p', us, p1, p2, p3, p4, _⟩ := ok.own j c zs z
      rw [hp] at p1; cases p1
      refine ⟨p2, us, ?_, p4⟩
      rw [upd_ne fun y => ok.apart j i c b zs xs p z1 z h hp (by rw [e, y])]; exact p3
omit [Tbl] in
theorem Less.setOwn {i : Nat} {b : Bool} {xs ys : List D} (h : Γ[i]? = some (.own b xs)) : Less Γ (Γ.set i (.own b ys)) := fun j c zs hj => by
  rcases set_back hj with ⟨z1, z, _⟩ | ⟨_, z⟩
  · cases z; subst z1; exact ⟨xs, h⟩
  · exact ⟨zs, z⟩
theorem Grow.poke {D : Addr} {o : HO} (hl : (∃ vs, H D = some (.lst vs)) ∨ H D = none) : Grow (fun p => p = D) H0 H H0 (upd H D o) :=
  ⟨Ex.refl _, fun p u q n _ => by rw [upd_ne n]; exact q, fun _ _ _ => rfl, fun p q => upd_live q, tabs_upd hl, fun q => q⟩
theorem EnvOk.poke (ok : EnvOk K B σ Γ H0 H) {D : Addr} {o : HO} (n0 : H0 D = none) (no : ¬ OwnOf σ Γ D) (hb : B.He D = none) (hl : (∃ vs, H D = some (.lst vs)) ∨ H D = none) : EnvOk K B σ Γ H0 (upd H D o) where
  sub := ok.sub.mut n0
  len := ok.len
  dat := ok.dat
  scr := ok.scr
  own := fun i b xs h => by
    obtain ⟨a, vs, q1, q2, q3, q⟩ := ok.own i b xs h
    exact ⟨a, vs, q1, q2, by rw [upd_ne fun z => no ⟨i, b, xs, h, by rw [← z]; exact q1⟩]; exact q3, q⟩
  apart := ok.apart
  grow := ok.grow.trans (Grow.poke hl) fun p z => .inr (by rw [z]; exact hb)
  tabs := tabs_upd hl ok.tabs
  past := ok.past
  cl := ok.cl
end

inductive RVB (K : PySem.W.Frag) (B : Bg) (H0 H : Hp) : R → V → Prop
  | d {x : D} {v : V} : Rp K H0 v x → RVB K B H0 H (.d x) v
  | f {xs : List D} {a : Addr} {vs : List V} : B.He a = none → H0 a = none → H a = some (.lst vs) → RpAll K H0 vs xs → RVB K B H0 H (.f xs) (.ref a)
def FlOk (K : PySem.W.Frag) (B : Bg) (H0 H : Hp) (σ : L2.St) (Dn : Ends) : Fl → Prop
  | .nx => Dn.nx σ H
  | .bk => Dn.bk σ H
  | .ct => Dn.ct σ H
  | .rt r => ∀ v, RVB K B H0 H r v → Dn.rt v H
def SW (X : Cx) (B : Bg) (E : XK) (H0 : Hp) (r : Res (Ga × Fl)) (Dn : Ends) : Prop := match r with
  | .ok (Γ', fl) => ∀ σ' H0' H', EnvOk X.K B σ' Γ' H0' H' → Ex H0 H0' → FlOk X.K B H0' H' σ' Dn fl
  | .exc c x => XW X B E c x
  | .stuck => False
structure JS (X : Cx) (E : XK) (st : Stmt) (s : Ga → Res (Ga × Fl)) : Prop where
  ex : ∃ t, PS X st t ∧ ∀ B σ Γ H0 H Dn, EnvOk X.K B σ Γ H0 H → SW X B E H0 (s Γ) Dn → t Dn σ H
structure JSs (X : Cx) (E : XK) (st : List Stmt) (s : Ga → Res (Ga × Fl)) : Prop where
  ex : ∃ t, PSs X st t ∧ ∀ B σ Γ H0 H Dn, EnvOk X.K B σ Γ H0 H → SW X B E H0 (s Γ) Dn → t Dn σ H
structure JG (X : Cx) (tg : Expr) (g : D → Ga → Option Ga) : Prop where
  ex : ∃ t, PG X tg t ∧ ∀ B σ Γ H0 H v x Γ' Q, EnvOk X.K B σ Γ H0 H → Rp X.K H0 v x → g x Γ = some Γ' → (∀ σ', EnvOk X.K B σ' Γ' H0 H → Q σ' H) → t v σ H Q
structure JGs (X : Cx) (tg : List Expr) (g : List D → Ga → Option Ga) : Prop where
  ex : ∃ t, PGs X tg t ∧ ∀ B σ Γ H0 H v x Γ' Q, EnvOk X.K B σ Γ H0 H → RpAll X.K H0 v x → g x Γ = some Γ' → (∀ σ', EnvOk X.K B σ' Γ' H0 H → Q σ' H) → t v σ H Q
section
variable {X : Cx} {E : XK} {B : Bg} {st : Stmt} {rest : List Stmt} {s u : Ga → Res (Ga × Fl)} {e a b c tg : Expr} {pos pos' : Pos}
theorem wok_S {σ : L2.St} {Dn : Ends} : WOk X B E σ fun (Γ : Ga) H0 (H : Hp) r => SW X B E H0 r Dn where
  exc := fun _ _ _ _ _ h => h
  stuck := fun _ _ _ h => h
  shift := fun Γ H0 H Γ1 H01 H1 r ok g l w => by
    cases r with
    | stuck => exact w
    | exc c x => exact w
    | ok p => exact fun σ' H0' H' o' e' => w σ' H0' H' o' (g.ex0.trans e')
def sSkip : Ga → Res (Ga × Fl) := fun Γ => .ok (Γ, .nx)
def sSeq (s u : Ga → Res (Ga × Fl)) : Ga → Res (Ga × Fl) := fun Γ => (s Γ).bind fun p => match p.2 with | .nx => u p.1 | fl => .ok (p.1, fl)
theorem jss_nil : JSs X E [] sSkip := ⟨_, pss_nil, fun B σ Γ H0 H Dn ok w => w σ H0 H ok (Ex.refl _)⟩
theorem jss_one (h : JS X E st s) : JSs X E [st] s := let ⟨t, p, q⟩ := h.ex; ⟨t, pss_one p, q⟩
theorem jss_cons (h : JS X E st s) (hr : JSs X E rest u) : JSs X E (st :: rest) (sSeq s u) := by
  obtain ⟨t, p, ha⟩ := h.ex
  obtain ⟨t', p', hb⟩ := hr.ex
  refine ⟨_, pss_cons p p', fun B σ Γ H0 H Dn ok w => ?_⟩
  show t { Dn with nx := t' Dn } σ H
  refine ha B σ Γ H0 H _ ok ?_
  unfold sSeq at w
  cases hs : s Γ with
  | stuck => rw [hs] at w; exact w
  | exc c x => rw [hs] at w; exact w
  | ok q =>
    obtain ⟨Γ1, fl⟩ := q
    rw [hs] at w
    intro σ1 H01 H1 ok1 e1
    cases fl with
    | nx =>
      refine hb B σ1 Γ1 H01 H1 Dn ok1 ?_
      have w : SW X B E H0 (u Γ1) Dn := w
      cases hu : u Γ1 with
      | stuck => rw [hu] at w; exact w
      | exc c x => rw [hu] at w; exact w
      | ok q => rw [hu] at w; exact fun σ' H0' H' o' e' => w σ' H0' H' o' (e1.trans e')
    | bk => exact w σ1 H01 H1 ok1 e1
    | ct => exact w σ1 H01 H1 ok1 e1
    | rt r => exact w σ1 H01 H1 ok1 e1
def sBrk : Ga → Res (Ga × Fl) := fun Γ => .ok (Γ, .bk)
def sCnt : Ga → Res (Ga × Fl) := fun Γ => .ok (Γ, .ct)
def sNever : Ga → Res (Ga × Fl) := fun _ => .stuck
def sCond (c : Ga → Res (Ga × Bool)) (s u : Ga → Res (Ga × Fl)) : Ga → Res (Ga × Fl) := fun Γ => (c Γ).bind fun p => if p.2 = true then s p.1 else u p.1
theorem js_if {sc : Ga → Res (Ga × Bool)} {ss us : List Stmt} (hc : JT X E c sc) (ha : JSs X E ss s) (hb : JSs X E us u) : JS X E (.If c ss us pos) (sCond sc s u) := by
  obtain ⟨tc, pc, hc⟩ := hc.ex
  obtain ⟨ta, pa, ha⟩ := ha.ex
  obtain ⟨tb, pb, hb⟩ := hb.ex
  refine ⟨_, ps_if pc pa pb, fun B σ Γ H0 H Dn ok w => ?_⟩
  show tc σ H fun b H1 => if b = true then ta Dn σ H1 else tb Dn σ H1
  refine t_then hc wok_S ok w fun Γ1 c H01 H1 w1 ok1 g1 l1 => ?_
  cases c with
  | true => exact ha B σ Γ1 H01 H1 Dn ok1 w1
  | false => exact hb B σ Γ1 H01 H1 Dn ok1 w1
def slotOf : R → Sl
  | .d x => .d x
  | .f xs => .own false xs
def sSet (i : Nat) (s : Ga → Res (Ga × R)) : Ga → Res (Ga × Fl) := fun Γ => (s Γ).bind fun p => .ok (p.1.set i (slotOf p.2), .nx)
theorem RV.he {K : PySem.W.Frag} {σ : L2.St} {Γ : Ga} {H0 H : Hp} {a : Addr} (ok : EnvOk K B σ Γ H0 H) (n : H a = none) : B.He a = none := by
  cases q : B.He a with
  | none => rfl
  | some o => exact absurd n (ok.grow.live a (by rw [q]; simp))
theorem set_ok {K : PySem.W.Frag} {σ : L2.St} {Γ Γ1 : Ga} {H0 H H01 H1 : Hp} {x : R} {v : V} (i : Nat) (ok0 : EnvOk K B σ Γ H0 H) (ok : EnvOk K B σ Γ1 H01 H1) (l : Less Γ Γ1) (r : RV K H0 H H01 H1 x v) : EnvOk K B (σ.set i (some v)) (Γ1.set i (slotOf x)) H01 H1 := by
  cases r with
  | d r => exact ok.setD i r
  | f n n0 e r => exact ok.setF i (RV.he ok0 n) n0 e r fun z => (ok0.ownLive (l.own z)).1 n
theorem js_set {i : Nat} {x : Str} {se : Ga → Res (Ga × R)} (hN : X.N.Nodup) (hi : X.N[i]? = some x) (hx : Loc X.env.scope x) (he : JE X E e se) (hs : swapsWith e (some (.Name x pos')) pos.line X.env = pure false := by rfl)
    (hf : X.fn x = true ∨ X.env.scope.names.lookup x = some .local := by first | exact .inl rfl | exact .inr rfl | assumption) : JS X E (.Assign [.Name x pos'] e pos) (sSet i se) := by
  obtain ⟨t, p, ha⟩ := he.ex
  refine ⟨_, ps_set hN hi hx p hs hf, fun B σ Γ H0 H Dn ok w => ?_⟩
  show t σ H fun x H1 => Dn.nx (σ.set i (some x)) H1
  refine e_then ha wok_S ok w fun Γ1 x v H01 H1 w1 ok1 g1 l1 r1 => ?_
  exact w1 _ H01 H1 (set_ok i ok ok1 l1 r1) (Ex.refl _)
def sRet (s : Ga → Res (Ga × R)) : Ga → Res (Ga × Fl) := fun Γ => (s Γ).bind fun p => .ok (p.1, .rt p.2)
theorem js_ret {se : Ga → Res (Ga × R)} (he : JE X E e se) : JS X E (.Return (some e) pos) (sRet se) := by
  obtain ⟨t, p, ha⟩ := he.ex
  refine ⟨_, ps_ret p, fun B σ Γ H0 H Dn ok w => ?_⟩
  show t σ H Dn.rt
  refine e_then ha wok_S ok w fun Γ1 x v H01 H1 w1 ok1 g1 l1 r1 => ?_
  refine w1 σ H01 H1 ok1 (Ex.refl _) v ?_
  cases r1 with
  | d r => exact .d r
  | f n n0 e r => exact .f (RV.he ok n) n0 e r
def sRetN (i : Nat) : Ga → Res (Ga × Fl) := fun Γ => match Γ[i]? with
  | some (.d x) => .ok (Γ, .rt (.d x))
  | some (.own false xs) => .ok (Γ.set i .un, .rt (.f xs))
  | _ => .stuck
theorem EnvOk.drop {K : PySem.W.Frag} {σ : L2.St} {Γ : Ga} {H0 H : Hp} (ok : EnvOk K B σ Γ H0 H) (i : Nat) : EnvOk K B σ (Γ.set i .un) H0 H where
  sub := ok.sub
  len := by simp [ok.len]
  dat := fun j y h => by
    rcases set_back h with ⟨e, e2, hi⟩ | ⟨e, h⟩
    · cases e2
    · exact ok.dat j y h
  scr := fun j y h => by
    rcases set_back h with ⟨e, e2, hi⟩ | ⟨e, h⟩
    · cases e2
    · exact ok.scr j y h
  own := fun j b xs h => by
    rcases set_back h with ⟨e, e2, hi⟩ | ⟨e, h⟩
    · cases e2
    · exact ok.own j b xs h
  apart := fun j k b c xs ys a hjk h1 h2 => by
    rcases set_back h1 with ⟨e, e2, hi⟩ | ⟨e, h1⟩
    · cases e2
    · rcases set_back h2 with ⟨e', e2, hi⟩ | ⟨e', h2⟩
      · cases e2
      · exact ok.apart j k b c xs ys a hjk h1 h2
  grow := ok.grow
  tabs := ok.tabs
  past := ok.past
  cl := fun j h => ok.cl j (cl_of_set (by nofun) j h)
theorem js_retName {i : Nat} (h : PE X e (tVar i)) : JS X E (.Return (some e) pos) (sRetN i) := by
  refine ⟨_, ps_ret h, fun B σ Γ H0 H Dn ok w => ?_⟩
  show ∃ v, σ[i]? = some (some v) ∧ Dn.rt v H
  unfold sRetN at w
  split at w
  · rename_i x hx
    obtain ⟨v, e1, r⟩ := ok.dat i x hx
    exact ⟨v, e1, w σ H0 H ok (Ex.refl _) v (.d r)⟩
  · rename_i xs hx
    obtain ⟨a, vs, q1, q2, q3, q4, q5, q6⟩ := ok.ownL i _ _ hx
    exact ⟨.ref a, q1, w σ H0 H (ok.drop i) (Ex.refl _) _ (.f (q6 rfl) q2 q3 q4)⟩
  · exact w.elim
def sDrop (s : Ga → Res (Ga × R)) : Ga → Res (Ga × Fl) := fun Γ => (s Γ).bind fun p => .ok (p.1, .nx)
theorem js_expr {se : Ga → Res (Ga × R)} (he : JE X E e se) (hs : swapsWith e none pos.line X.env = pure false := by rfl) : JS X E (.Expr e pos) (sDrop se) := by
  obtain ⟨t, p, ha⟩ := he.ex
  refine ⟨_, ps_expr p hs, fun B σ Γ H0 H Dn ok w => ?_⟩
  show t σ H fun _ H1 => Dn.nx σ H1
  exact e_then ha wok_S ok w fun Γ1 x v H01 H1 w1 ok1 g1 l1 r1 => w1 σ H01 H1 ok1 (Ex.refl _)
def gN (i : Nat) : D → Ga → Option Ga := fun x Γ => some (Γ.set i (.d x))
theorem jg_name {i : Nat} {x : Str} (hN : X.N.Nodup) (hi : X.N[i]? = some x) (hx : Loc X.env.scope x) (hf : X.fn x = true ∨ X.env.scope.names.lookup x = some .local := by first | exact .inl rfl | exact .inr rfl | assumption) : JG X (.Name x pos) (gN i) :=
  ⟨_, pg_name hN hi hx hf, fun B σ Γ H0 H v x Γ' Q ok r e k => by cases e; exact k _ (ok.setD i r)⟩
def gNil' : List D → Ga → Option Ga := fun xs Γ => match xs with | [] => some Γ | _ => none
def gCons' (g : D → Ga → Option Ga) (h : List D → Ga → Option Ga) : List D → Ga → Option Ga := fun xs Γ => match xs with | x :: r => (g x Γ).bind (h r) | [] => none
theorem jgs_nil : JGs X [] gNil' := ⟨_, pgs_nil, fun B σ Γ H0 H v x Γ' Q ok r e k => by
  cases r with
  | nil => cases e; exact ⟨rfl, k σ ok⟩
  | cons _ _ => cases e⟩
theorem jgs_cons {es : List Expr} {g : D → Ga → Option Ga} {h : List D → Ga → Option Ga} (h1 : JG X e g) (h2 : JGs X es h) (hs : (assignEach (e :: es) X.env).map (·.2) = assign e X.env :: (assignEach es X.env).map (·.2) := by rfl) : JGs X (e :: es) (gCons' g h) := by
  obtain ⟨t, p, ha⟩ := h1.ex
  obtain ⟨t', p', hb⟩ := h2.ex
  refine ⟨_, pgs_cons p p' hs, fun B σ Γ H0 H v x Γ' Q ok r e k => ?_⟩
  cases r with
  | nil => cases e
  | cons r1 r2 =>
    rename_i v1 vs x1 xs
    have e : (g x1 Γ).bind (h xs) = some Γ' := e
    cases hg : g x1 Γ with
    | none => rw [hg] at e; cases e
    | some Γ1 =>
      rw [hg] at e
      exact ⟨v1, vs, rfl, ha B σ Γ H0 H v1 x1 Γ1 _ ok r1 hg fun σ1 ok1 => hb B σ1 Γ1 H0 H vs xs Γ' Q ok1 r2 e k⟩
def gTup' (h : List D → Ga → Option Ga) (n : Nat) : D → Ga → Option Ga := fun x Γ => match x with | .tuple xs => if xs.length = n then h xs Γ else none | _ => none
theorem jg_tup {es : List Expr} {k n : Nat} {h : List D → Ga → Option Ga} (hc : X.calm = true) (hh : JGs X es h) (hn : (assignEach es X.env).length = n := by rfl) (hst : (assignEach es X.env).findIdx? (·.1) = none := by rfl) : JG X (.Tuple es k pos) (gTup' h n) := by
  obtain ⟨t, p, ha⟩ := hh.ex
  refine ⟨_, pg_tup hc p hn hst, fun B σ Γ H0 H v x Γ' Q ok r e k => ?_⟩
  unfold gTup' at e
  split at e
  · split at e
    · rename_i xs hl
      cases r with
      | tup h1 h2 => exact ⟨_, _, rfl, ex_t ok.sub h1, by rw [h2.len]; exact hl, ha B σ Γ H0 H _ xs Γ' Q ok h2 e k⟩
    · cases e
  · cases e
def sAsg (g : D → Ga → Option Ga) (s : Ga → Res (Ga × D)) : Ga → Res (Ga × Fl) := fun Γ => (s Γ).bind fun p => match g p.2 p.1 with | some Γ' => .ok (Γ', .nx) | none => .stuck
theorem js_asg {g : D → Ga → Option Ga} {se : Ga → Res (Ga × D)} (he : JD X E e se) (hg : JG X tg g) (hs : swapsWithSole [tg] e pos.line X.env = pure false := by rfl) (hw : swappedStores [tg] e X.env = pure none := by rfl)
    (h1 : (assignEach [tg] X.env).map (·.2) = [assign tg X.env] := by rfl) : JS X E (.Assign [tg] e pos) (sAsg g se) := by
  obtain ⟨t, p, ha⟩ := he.ex
  obtain ⟨t', p', hb⟩ := hg.ex
  refine ⟨_, ps_asg p p' hs hw h1, fun B σ Γ H0 H Dn ok w => ?_⟩
  show t σ H fun x H1 => t' x σ H1 Dn.nx
  refine d_then ha wok_S ok w fun Γ1 x v H01 H1 w1 ok1 g1 l1 r1 => ?_
  cases hg : g x Γ1 with
  | none => simp only [hg] at w1; exact w1.elim
  | some Γ2 =>
    simp only [hg] at w1
    exact hb B σ Γ1 H01 H1 v x Γ2 _ ok1 r1 hg fun σ2 ok2 => w1 σ2 H01 H1 ok2 (Ex.refl _)
end
end Mi
namespace Mi
open PySem L2 Evl
variable [Tbl]

structure ItOk (K : PySem.W.Frag) (J : It) (xs : List D) (H0 : Hp) : Prop where
  stop : ∀ (i : Nat) H0i Hi, Ex H0 H0i → Ex H0i Hi → xs.length ≤ i → J.stop i Hi
  go : ∀ (i : Nat) H0i Hi, Ex H0 H0i → Ex H0i Hi → i < xs.length → J.go i Hi
  yld : ∀ (i : Nat) x H0i Hi v H', Ex H0 H0i → Ex H0i Hi → xs[i]? = some x → J.yld i Hi v H' → ∃ H0', Grow (fun _ => False) H0i Hi H0' H' ∧ Ex H0' H' ∧ Rp K H0' v x
structure JI (X : Cx) (E : XK) (tg iter : Expr) (s : Ga → Res (Ga × List D)) : Prop where
  ex : ∃ wi, PI X tg iter wi ∧ ∀ B σ Γ H0 H R, EnvOk X.K B σ Γ H0 H → (match s Γ with
    | .ok (Γ', xs) => ∀ J H0' H', EnvOk X.K B σ Γ' H0' H' → Grow (OwnOf σ Γ) H0 H H0' H' → Less Γ Γ' → ItOk X.K J xs H0' → R J H'
    | .exc c x => XW X B E c x
    | .stuck => False) → wi σ H R
section
variable {X : Cx} {E : XK} {e a b tg iter elt : Expr} {pos : Pos} {K : PySem.W.Frag}
theorem itok_list {p : Addr} {vs : List V} {xs : List D} {H0 : Hp} (h : H0 p = some (.lst vs)) (r : RpAll K H0 vs xs) : ItOk K (Itl K p) xs H0 where
  stop := fun i H0i Hi e1 e2 hi => ⟨vs, SqL.of (e2 _ _ (e1 _ _ h)), by rw [r.len]; exact hi⟩
  go := fun i H0i Hi e1 e2 hi => ⟨vs, vs[i]'(by rw [r.len]; exact hi), SqL.of (e2 _ _ (e1 _ _ h)), List.getElem?_eq_getElem _⟩
  yld := fun i x H0i Hi v H' e1 e2 hx y => by
    obtain ⟨rfl, hv⟩ := y
    have e := hv vs (SqL.of (e2 _ _ (e1 _ _ h)))
    obtain ⟨w, e', r'⟩ := r.get hx
    rw [e] at e'; cases e'
    exact ⟨H0i, Grow.refl _ _ _, e2, r'.m e1⟩
theorem itok_tup {p : Addr} {vs : List V} {xs : List D} {H0 : Hp} (h : SqT K H0 p vs) (r : RpAll K H0 vs xs) : ItOk K (Itt K p) xs H0 where
  stop := fun i H0i Hi e1 e2 hi => ⟨vs, ex_t e2 (ex_t e1 h), by rw [r.len]; exact hi⟩
  go := fun i H0i Hi e1 e2 hi => ⟨vs, vs[i]'(by rw [r.len]; exact hi), ex_t e2 (ex_t e1 h), List.getElem?_eq_getElem _⟩
  yld := fun i x H0i Hi v H' e1 e2 hx y => by
    obtain ⟨rfl, hv⟩ := y
    have e := hv vs (ex_t e2 (ex_t e1 h))
    obtain ⟨w, e', r'⟩ := r.get hx
    rw [e] at e'; cases e'
    exact ⟨H0i, Grow.refl _ _ _, e2, r'.m e1⟩
def rangeD (lo : Int) (n : Nat) : List D := (List.range n).map fun (i : Nat) => .int (lo + i)
theorem itok_rng {lo : Int} {n : Nat} {H0 : Hp} : ItOk K (Itr lo n) (rangeD lo n) H0 where
  stop := fun i H0i Hi e1 e2 hi => by simp only [rangeD, List.length_map, List.length_range] at hi; exact hi
  go := fun i H0i Hi e1 e2 hi => by simp only [rangeD, List.length_map, List.length_range] at hi; exact hi
  yld := fun i x H0i Hi v H' e1 e2 hx y => by
    obtain ⟨rfl, rfl⟩ := y
    have : x = .int (lo + i) := by
      unfold rangeD at hx
      rw [List.getElem?_map] at hx
      cases q : (List.range n)[i]? with
      | none => rw [q] at hx; cases hx
      | some j =>
        rw [q] at hx
        have := List.getElem?_range (n := n) (i := i) (by
          have := (List.getElem?_eq_some_iff.mp q).1; simpa using this)
        rw [q] at this; cases this; cases hx; rfl
    subst this
    exact ⟨H0i, Grow.refl _ _ _, e2, .int _⟩
def pairUp (xs ys : List D) : List D := (xs.zip ys).map fun p => .tuple [p.1, p.2]
def numb : Int → List D → List D
  | _, [] => []
  | i, x :: r => .tuple [.int i, x] :: numb (i + 1) r
theorem new_tup {H0i Hi : Hp} {T : Addr} {vs : List V} {xs : List D} (hT : Hi T = none) (e2 : Ex H0i Hi) (r : RpAll K H0i vs xs) : ∃ H0', Grow (fun _ => False) H0i Hi H0' (upd Hi T (.tup vs)) ∧ Ex H0' (upd Hi T (.tup vs)) ∧ Rp K H0' (.ref T) (.tuple xs) :=
  ⟨upd H0i T (.tup vs), Grow.data hT e2, Ex.upd2 e2, .tup (SqT.of upd_same) (r.m (Ex.new (fresh_back e2 hT)))⟩
omit [Tbl] in
theorem pair_get {xs ys : List D} {i : Nat} {z : D} (h : (pairUp xs ys)[i]? = some z) : ∃ x y, xs[i]? = some x ∧ ys[i]? = some y ∧ z = .tuple [x, y] := by
  unfold pairUp at h
  rw [List.getElem?_map] at h
  obtain ⟨p, hp, rfl⟩ := Option.map_eq_some_iff.mp h
  obtain ⟨h1, h2⟩ := List.getElem?_zip_eq_some.mp hp
  exact ⟨p.1, p.2, h1, h2, rfl⟩
omit [Tbl] in
theorem pair_len (xs ys : List D) : (pairUp xs ys).length = min xs.length ys.length := by simp [pairUp]
theorem itok_zip {p q : Addr} {vs us : List V} {xs ys : List D} {H0 : Hp} (h : H0 p = some (.lst vs)) (r : RpAll K H0 vs xs) (h' : H0 q = some (.lst us)) (r' : RpAll K H0 us ys) : ItOk K (Itz K p q) (pairUp xs ys) H0 where
  stop := fun i H0i Hi e1 e2 hi => ⟨vs, us, SqL.of (e2 _ _ (e1 _ _ h)), SqL.of (e2 _ _ (e1 _ _ h')), by rw [r.len, r'.len]; rw [pair_len] at hi; omega⟩
  go := fun i H0i Hi e1 e2 hi => by
    rw [pair_len] at hi
    exact ⟨vs, us, vs[i]'(by rw [r.len]; omega), us[i]'(by rw [r'.len]; omega), SqL.of (e2 _ _ (e1 _ _ h)), SqL.of (e2 _ _ (e1 _ _ h')), List.getElem?_eq_getElem _, List.getElem?_eq_getElem _⟩
  yld := fun i x H0i Hi v H' e1 e2 hx y => by
    obtain ⟨T, w, w', rfl, hT, rfl, hv, hv'⟩ := y
    have e := hv vs (SqL.of (e2 _ _ (e1 _ _ h)))
    have e' := hv' us (SqL.of (e2 _ _ (e1 _ _ h')))
    obtain ⟨z, z', hz, hz', rfl⟩ := pair_get hx
    obtain ⟨_, q1, r1⟩ := r.get hz
    obtain ⟨_, q2, r2⟩ := r'.get hz'
    rw [e] at q1; cases q1
    rw [e'] at q2; cases q2
    exact new_tup hT e2 (.cons (r1.m e1) (.one (r2.m e1)))
theorem itok_zipT {p q : Addr} {vs us : List V} {xs ys : List D} {H0 : Hp} (h : SqT K H0 p vs) (r : RpAll K H0 vs xs) (h' : SqT K H0 q us) (r' : RpAll K H0 us ys) : ItOk K (RZ.ItzT K p q) (pairUp xs ys) H0 where
  stop := fun i H0i Hi e1 e2 hi => ⟨vs, us, ex_t e2 (ex_t e1 h), ex_t e2 (ex_t e1 h'), by rw [r.len, r'.len]; rw [pair_len] at hi; omega⟩
  go := fun i H0i Hi e1 e2 hi => by
    rw [pair_len] at hi
    exact ⟨vs, us, vs[i]'(by rw [r.len]; omega), us[i]'(by rw [r'.len]; omega), ex_t e2 (ex_t e1 h), ex_t e2 (ex_t e1 h'), List.getElem?_eq_getElem _, List.getElem?_eq_getElem _⟩
  yld := fun i x H0i Hi v H' e1 e2 hx y => by
    obtain ⟨T, w, w', rfl, hT, rfl, hv, hv'⟩ := y
    have e := hv vs (ex_t e2 (ex_t e1 h))
    have e' := hv' us (ex_t e2 (ex_t e1 h'))
    obtain ⟨z, z', hz, hz', rfl⟩ := pair_get hx
    obtain ⟨_, q1, r1⟩ := r.get hz
    obtain ⟨_, q2, r2⟩ := r'.get hz'
    rw [e] at q1; cases q1
    rw [e'] at q2; cases q2
    exact new_tup hT e2 (.cons (r1.m e1) (.one (r2.m e1)))
def IW (X : Cx) (B : Bg) (E : XK) (σ : L2.St) (Γ : Ga) (H0 H : Hp) (r : Res (Ga × List D)) (R : It → Hp → Prop) : Prop := match r with
    | .ok (Γ', xs) => ∀ J H0' H', EnvOk X.K B σ Γ' H0' H' → Grow (OwnOf σ Γ) H0 H H0' H' → Less Γ Γ' → ItOk X.K J xs H0' → R J H'
    | .exc c x => XW X B E c x
    | .stuck => False
theorem wok_I {B : Bg} {σ : L2.St} {R : It → Hp → Prop} : WOk X B E σ fun Γ H0 H r => IW X B E σ Γ H0 H r R where
  exc := fun _ _ _ _ _ h => h
  stuck := fun _ _ _ h => h
  shift := fun Γ H0 H Γ1 H01 H1 r ok g l w => by
    cases r with
    | stuck => exact w
    | exc c x => exact w
    | ok p => exact fun J H0' H' o' g' l' r' => w J H0' H' o' (shift_g g l g') (l.trans l') r'
def sIt (f : D → Res (List D)) (s : Ga → Res (Ga × D)) : Ga → Res (Ga × List D) := fun Γ => (s Γ).bind fun p => (f p.2).bind fun xs => .ok (p.1, xs)
def iterA (x : D) : Res (List D) := match x with | .list xs => .ok xs | .tuple xs => .ok xs | _ => .stuck
theorem ji_any {s : Ga → Res (Ga × D)} (h : JD X E e s) : JI X E tg e (sIt iterA s) := by
  obtain ⟨t, p, ha⟩ := h.ex
  refine ⟨fun σ H R => t σ H fun x H1 => (∃ a, x = .ref a ∧ (∃ xs, SqL X.K H1 a xs) ∧ R (Itl X.K a) H1) ∨ (∃ a, x = .ref a ∧ (∃ xs, SqT X.K H1 a xs) ∧ R (Itt X.K a) H1), ⟨fun pins s1 σ H R I hw => ?_⟩, fun B σ Γ H0 H R ok w => ?_⟩
  · refine thn (p.run pins s1 σ H _ I hw) fun v s2 ⟨x, H1, I1, r1, q1⟩ => ?_
    rcases q1 with ⟨a, ea, ⟨xs, hq⟩, q⟩ | ⟨a, ea, ⟨xs, hq⟩, q⟩
    · subst ea
      cases r1
      obtain ⟨its, rv, p, hz⟩ := I1.list hq
      refine wpAny_pyIter_list p.isList ?_
      refine ⟨s2.heap.objs.size, [s2.heap.objs.size], _, _, H1, rfl, I1.kept (t' := s2.toks) fun b o e => Heap.get?_push_of_some _ e, turn_list a _, ⟨_, Heap.get?_push_size _ rfl, rfl, rfl⟩, fun b hb => ?_, q⟩
      have e : b = s2.heap.objs.size := by simpa using hb
      subst e
      exact I1.fpOk (Nat.le_refl _) (I1.hok.fresh (Nat.le_refl _))
    · subst ea
      cases r1
      obtain ⟨its, rv, p, hz⟩ := I1.tuple hq
      refine wpAny_pyIter_tuple (show s2.heap.IsTuple a its.toArray from p) ?_
      refine ⟨s2.heap.objs.size, [s2.heap.objs.size], _, _, H1, rfl, I1.kept (t' := s2.toks) fun b o e => Heap.get?_push_of_some _ e, turn_tuple a _, ⟨_, Heap.get?_push_size _ rfl, rfl, rfl⟩, fun b hb => ?_, q⟩
      have e : b = s2.heap.objs.size := by simpa using hb
      subst e
      exact I1.fpOk (Nat.le_refl _) (I1.hok.fresh (Nat.le_refl _))
  · have w : IW X B E σ Γ H0 H (sIt iterA s Γ) R := w
    refine d_then ha wok_I ok w fun Γ1 x v H01 H1 w1 ok1 g1 l1 r1 => ?_
    unfold iterA at w1
    split at w1
    · rename_i xs hx
      have hx : x = .list xs := hx
      subst hx
      cases r1 with
      | lst h1 h2 => exact .inl ⟨_, rfl, ⟨_, SqL.of (ok1.sub _ _ h1)⟩, w1 _ H01 H1 ok1 (Grow.refl _ _ _) (Less.refl _) (itok_list h1 h2)⟩
    · rename_i xs hx
      have hx : x = .tuple xs := hx
      subst hx
      cases r1 with
      | tup h1 h2 => exact .inr ⟨_, rfl, ⟨_, ex_t ok1.sub h1⟩, w1 _ H01 H1 ok1 (Grow.refl _ _ _) (Less.refl _) (itok_tup h1 h2)⟩
    · exact w1.elim
noncomputable def fits62 (i : Int) : Bool := okB (-(2 ^ 62) ≤ i ∧ i < 2 ^ 62)
noncomputable def rng1 : List D → Res (List D)
  | [.int j] => if fits62 j = true then .ok (rangeD 0 j.toNat) else .stuck
  | _ => .stuck
noncomputable def rng2 : List D → Res (List D)
  | [.int i, .int j] => if fits62 i = true ∧ fits62 j = true then .ok (rangeD i (j - i).toNat) else .stuck
  | _ => .stuck
def sItA (f : List D → Res (List D)) (s : Ga → Res (Ga × List D)) : Ga → Res (Ga × List D) := fun Γ => (s Γ).bind fun p => (f p.2).bind fun xs => .ok (p.1, xs)
omit [Tbl] in
theorem fits62_iff {i : Int} (h : fits62 i = true) : -(2 ^ 62) ≤ i ∧ i < 2 ^ 62 := by
  unfold fits62 at h
  exact okB_iff.mp h
omit [Tbl] in
theorem rp1 {H : Hp} {vs : List V} {i : Int} (r : RpAll K H vs [.int i]) : vs = [.int i] := by
  cases r with
  | cons r1 r2 => cases r1; cases r2; rfl
theorem ji_range1 {p : Pos} {s : Ga → Res (Ga × List D)} (hg : Gl X "range") (hm : X.mg "range" = none) (h : JA X E [a] s) (hs : starEach [a] X.env = [(false, eval a X.env)] := by rfl) : JI X E tg (.Call (.Name "range" p) [a] [] pos) (sItA rng1 s) := by
  obtain ⟨t, pp, ha⟩ := h.ex
  refine ⟨_, pi_range1 hg hm pp hs, fun B σ Γ H0 H R ok w => ?_⟩
  have w : IW X B E σ Γ H0 H (sItA rng1 s Γ) R := w
  show t σ H fun vs H1 => ∃ j : Int, vs = [.int j] ∧ -(2 ^ 62) ≤ j ∧ j < 2 ^ 62 ∧ R (Itr 0 j.toNat) H1
  refine a_then ha wok_I ok w fun Γ1 x v H01 H1 w1 ok1 g1 l1 r1 => ?_
  unfold rng1 at w1
  split at w1
  · rename_i j hx
    have hx : x = [.int j] := hx
    subst hx
    split at w1
    · rename_i hz
      exact ⟨j, rp1 r1, (fits62_iff hz).1, (fits62_iff hz).2, w1 _ H01 H1 ok1 (Grow.refl _ _ _) (Less.refl _) itok_rng⟩
    · exact w1.elim
  · exact w1.elim
def enumL : List D → Res (List D)
  | [.list xs] => .ok (numb 0 xs)
  | _ => .stuck
def zipLT : List D → Res (List D)
  | [.list xs, .list ys] => .ok (pairUp xs ys)
  | [.tuple xs, .tuple ys] => .ok (pairUp xs ys)
  | _ => .stuck
def forL (g : D → Ga → Option Ga) (b : Ga → Res (Ga × Fl)) : List D → Ga → Res (Ga × Fl)
  | [], Γ => .ok (Γ, .nx)
  | x :: xs, Γ => match g x Γ with
    | some Γ1 => (b Γ1).bind fun q => match q.2 with
      | .nx => forL g b xs q.1
      | .ct => forL g b xs q.1
      | .bk => .ok (q.1, .nx)
      | .rt r => .ok (q.1, .rt r)
    | none => .stuck
def sFor (s : Ga → Res (Ga × List D)) (g : D → Ga → Option Ga) (b : Ga → Res (Ga × Fl)) : Ga → Res (Ga × Fl) := fun Γ => (s Γ).bind fun p => forL g b p.2 p.1
theorem i_then {β : Type} {W : Ga → Hp → Hp → Res β → Prop} {B : Bg} {σ : L2.St} {Γ : Ga} {H0 H : Hp} {t : TI} {s : Ga → Res (Ga × List D)} {f : Ga × List D → Res β} {R : It → Hp → Prop}
    (ha : ∀ B σ Γ H0 H R, EnvOk X.K B σ Γ H0 H → IW X B E σ Γ H0 H (s Γ) R → t σ H R) (wo : WOk X B E σ W) (ok : EnvOk X.K B σ Γ H0 H) (w : W Γ H0 H ((s Γ).bind f))
    (k : ∀ Γ1 xs J H01 H1, W Γ1 H01 H1 (f (Γ1, xs)) → EnvOk X.K B σ Γ1 H01 H1 → Grow (OwnOf σ Γ) H0 H H01 H1 → Less Γ Γ1 → ItOk X.K J xs H01 → R J H1) : t σ H R := by
  refine ha B σ Γ H0 H R ok ?_
  cases hs : s Γ with
  | stuck => rw [hs] at w; exact (wo.stuck _ _ _ w).elim
  | exc c x => rw [hs] at w; exact wo.exc _ _ _ _ _ w
  | ok p =>
    rw [hs] at w
    exact fun J H01 H1 ok1 g l r => k _ _ J H01 H1 (wo.shift _ _ _ _ _ _ _ ok g l w) ok1 g l r
theorem SW.later {B : Bg} {H0 H01 : Hp} {r : Res (Ga × Fl)} {Dn : Ends} (w : SW X B E H0 r Dn) (e : Ex H0 H01) : SW X B E H01 r Dn := by
  cases r with
  | stuck => exact w
  | exc c x => exact w
  | ok p => exact fun σ' H0' H' o' e' => w σ' H0' H' o' (e.trans e')
theorem js_for {s : Ga → Res (Ga × List D)} {g : D → Ga → Option Ga} {ss : List Stmt} {b : Ga → Res (Ga × Fl)} (hp : PassesOwn (model X.prog X.w) X.A X.env X.xe) (hc : X.calm = true) (hi : JI X E tg iter s) (hg : JG X tg g) (hb : JSs X E ss b)
    (hs : ∀ x, foldedSetIterable iter X.env x = pure x := by intro _; rfl) : JS X E (.For tg iter ss [] pos) (sFor s g b) := by
  obtain ⟨wi, pi, hi⟩ := hi.ex
  obtain ⟨tg', pg, hg⟩ := hg.ex
  obtain ⟨tb, pb, hb⟩ := hb.ex
  refine ⟨_, ps_for hp hc pi pg pb hs, fun B σ Γ H0 H Dn ok w => ?_⟩
  refine i_then (R := fun J H1 => ∃ W : Nat → Nat → L2.St → Hp → Prop, (∃ m, W 0 m σ H1) ∧ ∀ i m σ H, W i m σ H → (J.stop i H ∧ Dn.nx σ H) ∨ (J.go i H ∧ ∃ N : L2.St → Hp → Prop, (∀ σ' H', N σ' H' → ∃ m', m' < m ∧ W (i + 1) m' σ' H') ∧ ∀ x H', J.yld i H x H' → tg' x σ H' fun σ2 H2 => tb { Dn with nx := N, ct := N, bk := Dn.nx } σ2 H2))
    hi wok_S ok w fun Γ1 xs J H01 H1 w1 ok1 g1 l1 it => ?_
  refine ⟨fun i m σi Hi => ∃ Γi H0i, EnvOk X.K B σi Γi H0i Hi ∧ Ex H01 H0i ∧ SW X B E H0i (forL g b (xs.drop i) Γi) Dn ∧ m = xs.length - i, ⟨xs.length, Γ1, H01, ok1, Ex.refl _, by simpa using w1, by simp⟩, ?_⟩
  rintro i m σi Hi ⟨Γi, H0i, oki, ei, wi, rfl⟩
  by_cases hlt : i < xs.length
  · refine .inr ⟨it.go i H0i Hi ei oki.sub hlt, fun σ' H' => ∃ Γ' H0', EnvOk X.K B σ' Γ' H0' H' ∧ Ex H01 H0' ∧ SW X B E H0' (forL g b (xs.drop (i + 1)) Γ') Dn, fun σ' H' ⟨Γ', H0', q1, q2, q3⟩ => ⟨xs.length - (i + 1), by omega, Γ', H0', q1, q2, q3, rfl⟩, fun v H' y => ?_⟩
    have hx : xs[i]? = some xs[i] := List.getElem?_eq_getElem hlt
    obtain ⟨H0y, gy, sy, ry⟩ := it.yld i xs[i] H0i Hi v H' ei oki.sub hx y
    have oky := oki.same gy sy
    have ey := ei.trans gy.ex0
    have hd : xs.drop i = xs[i] :: xs.drop (i + 1) := List.drop_eq_getElem_cons hlt
    rw [hd] at wi
    unfold forL at wi
    cases hgx : g xs[i] Γi with
    | none => rw [hgx] at wi; exact wi.elim
    | some Γg =>
      rw [hgx] at wi
      refine hg B σi Γi H0y H' v xs[i] Γg _ oky ry hgx fun σg okg => ?_
      refine hb B σg Γg H0y H' _ okg ?_
      have wi := SW.later wi gy.ex0
      cases hbb : b Γg with
      | stuck => simp only [hbb] at wi; exact wi
      | exc c x => simp only [hbb] at wi; exact wi
      | ok q =>
        obtain ⟨Γb, fl⟩ := q
        simp only [hbb] at wi
        intro σb H0b Hb okb eb
        cases fl with
        | nx => exact ⟨Γb, H0b, okb, ey.trans eb, SW.later wi eb⟩
        | ct => exact ⟨Γb, H0b, okb, ey.trans eb, SW.later wi eb⟩
        | bk => exact wi σb H0b Hb okb eb
        | rt r => exact wi σb H0b Hb okb eb
  · refine .inl ⟨it.stop i H0i Hi ei oki.sub (by omega), ?_⟩
    rw [List.drop_eq_nil_of_le (by omega)] at wi
    exact wi σi H0i Hi oki (Ex.refl _)

def whileN (c : Ga → Res (Ga × Bool)) (b : Ga → Res (Ga × Fl)) : Nat → Ga → Option (Res (Ga × Fl))
  | 0, _ => none
  | n + 1, Γ => match c Γ with
    | .stuck => some .stuck
    | .exc k x => some (.exc k x)
    | .ok (Γ1, false) => some (.ok (Γ1, .nx))
    | .ok (Γ1, true) => match b Γ1 with
      | .stuck => some .stuck
      | .exc k x => some (.exc k x)
      | .ok (Γ2, .nx) => whileN c b n Γ2
      | .ok (Γ2, .ct) => whileN c b n Γ2
      | .ok (Γ2, .bk) => some (.ok (Γ2, .nx))
      | .ok (Γ2, .rt r) => some (.ok (Γ2, .rt r))
omit [Tbl] in
theorem whileN_more {c : Ga → Res (Ga × Bool)} {b : Ga → Res (Ga × Fl)} : ∀ {n : Nat} {Γ : Ga} {r : Res (Ga × Fl)} (k : Nat), whileN c b n Γ = some r → whileN c b (n + k) Γ = some r
  | 0, _, _, _, h => by cases h
  | n + 1, Γ, r, k, h => by
    rw [show n + 1 + k = (n + k) + 1 by omega]
    unfold whileN at h ⊢
    cases hc : c Γ with
    | stuck => rw [hc] at h; exact h
    | exc _ _ => rw [hc] at h; exact h
    | ok p =>
      obtain ⟨Γ1, t⟩ := p
      rw [hc] at h
      cases t with
      | false => exact h
      | true =>
        simp only at h ⊢
        cases hb : b Γ1 with
        | stuck => rw [hb] at h; exact h
        | exc _ _ => rw [hb] at h; exact h
        | ok q =>
          obtain ⟨Γ2, fl⟩ := q
          rw [hb] at h
          cases fl with
          | nx => exact whileN_more k h
          | ct => exact whileN_more k h
          | bk => exact h
          | rt _ => exact h
open Classical in
noncomputable def sWhile (c : Ga → Res (Ga × Bool)) (b : Ga → Res (Ga × Fl)) : Ga → Res (Ga × Fl) := fun Γ => if h : ∃ n r, whileN c b n Γ = some r then h.choose_spec.choose else .stuck
omit [Tbl] in
theorem sWhile_of {c : Ga → Res (Ga × Bool)} {b : Ga → Res (Ga × Fl)} {n : Nat} {Γ : Ga} {r : Res (Ga × Fl)} (h : whileN c b n Γ = some r) : sWhile c b Γ = r := by
  have hx : ∃ n r, whileN c b n Γ = some r := ⟨n, r, h⟩
  unfold sWhile
  rw [dif_pos hx]
  have h2 := hx.choose_spec.choose_spec
  have h3 := whileN_more n h2
  have h4 := whileN_more hx.choose h
  rw [Nat.add_comm, h4] at h3
  exact (Option.some.inj h3).symm
omit [Tbl] in
theorem sWhile_ex {c : Ga → Res (Ga × Bool)} {b : Ga → Res (Ga × Fl)} {Γ : Ga} (h : sWhile c b Γ ≠ .stuck) : ∃ n, whileN c b n Γ = some (sWhile c b Γ) := by
  by_cases hx : ∃ n r, whileN c b n Γ = some r
  · obtain ⟨n, r, e⟩ := hx
    exact ⟨n, by rw [sWhile_of e]; exact e⟩
  · unfold sWhile at h
    rw [dif_neg hx] at h
    exact absurd rfl h
omit [Tbl] in
theorem sWhile_end {c : Ga → Res (Ga × Bool)} {b : Ga → Res (Ga × Fl)} {Γ Γ1 : Ga} (h : c Γ = .ok (Γ1, false)) : sWhile c b Γ = .ok (Γ1, .nx) := sWhile_of (n := 1) (by unfold whileN; rw [h])
omit [Tbl] in
theorem sWhile_go {c : Ga → Res (Ga × Bool)} {b : Ga → Res (Ga × Fl)} {Γ Γ1 Γ2 : Ga} {r : Res (Ga × Fl)} {fl : Fl} (h : c Γ = .ok (Γ1, true)) (h2 : b Γ1 = .ok (Γ2, fl)) (hf : fl = .nx ∨ fl = .ct) (h3 : sWhile c b Γ2 = r) (hr : r ≠ .stuck) : sWhile c b Γ = r := by
  subst h3
  obtain ⟨n, e⟩ := sWhile_ex hr
  refine sWhile_of (n := n + 1) ?_
  unfold whileN
  rw [h]
  simp only
  rw [h2]
  rcases hf with rfl | rfl <;> exact e
theorem js_while {c : Expr} {ss : List Stmt} {sc : Ga → Res (Ga × Bool)} {b : Ga → Res (Ga × Fl)} (hp : PassesOwn (model X.prog X.w) X.A X.env X.xe) (hc : JT X E c sc) (hb : JSs X E ss b) : JS X E (.While c ss [] pos) (sWhile sc b) := by
  obtain ⟨tc, pc, hc⟩ := hc.ex
  obtain ⟨tb, pb, hb⟩ := hb.ex
  refine ⟨_, ps_while hp pc pb, fun B σ Γ H0 H Dn ok w => ?_⟩
  have hns : sWhile sc b Γ ≠ .stuck := fun z => by rw [z] at w; exact w
  obtain ⟨n0, e0⟩ := sWhile_ex hns
  refine ⟨fun m σi Hi => ∃ Γi H0i r, EnvOk X.K B σi Γi H0i Hi ∧ whileN sc b m Γi = some r ∧ SW X B E H0i r Dn, ⟨n0, Γ, H0, _, ok, e0, w⟩, ?_⟩
  rintro m σi Hi ⟨Γi, H0i, r, oki, em, wi⟩
  cases m with
  | zero => cases em
  | succ m =>
    unfold whileN at em
    refine hc B σi Γi H0i Hi _ oki ?_
    cases hcc : sc Γi with
    | stuck => rw [hcc] at em; cases em; exact wi
    | exc k x => rw [hcc] at em; cases em; exact wi
    | ok p =>
      obtain ⟨Γ1, t⟩ := p
      rw [hcc] at em
      intro H01 H1 ok1 g1 l1
      have wi := SW.later wi g1.ex0
      cases t with
      | false =>
        cases em
        show Dn.nx σi H1
        exact wi σi H01 H1 ok1 (Ex.refl _)
      | true =>
        show ∃ N : L2.St → Hp → Prop, _
        refine ⟨fun σ' H' => ∃ Γ' H0' r, EnvOk X.K B σ' Γ' H0' H' ∧ whileN sc b m Γ' = some r ∧ SW X B E H0' r Dn, fun σ' H' q => ⟨m, Nat.lt_succ_self _, q⟩, ?_⟩
        refine hb B σi Γ1 H01 H1 _ ok1 ?_
        simp only at em
        cases hbb : b Γ1 with
        | stuck => rw [hbb] at em; cases em; exact wi
        | exc k x => rw [hbb] at em; cases em; exact wi
        | ok q =>
          obtain ⟨Γ2, fl⟩ := q
          rw [hbb] at em
          intro σ2 H02 H2 ok2 e2
          cases fl with
          | nx => exact ⟨Γ2, H02, r, ok2, em, SW.later wi e2⟩
          | ct => exact ⟨Γ2, H02, r, ok2, em, SW.later wi e2⟩
          | bk => cases em; exact wi σ2 H02 H2 ok2 e2
          | rt z => cases em; exact wi σ2 H02 H2 ok2 e2
end
end Mi
namespace Mi
open PySem L2 Evl
variable [Tbl]

def wipeG (Γ : Ga) : List Nat → Ga
  | [] => Γ
  | v :: vs => (wipeG Γ vs).set v .un
omit [Tbl] in
theorem wipeG_len (Γ : Ga) : ∀ vs, (wipeG Γ vs).length = Γ.length
  | [] => rfl
  | v :: vs => by unfold wipeG; rw [List.length_set, wipeG_len Γ vs]
omit [Tbl] in
theorem wipeG_get {Γ : Ga} {s : Sl} {i : Nat} : ∀ {vs : List Nat}, (wipeG Γ vs)[i]? = some s → (s = .un ∧ i ∈ vs) ∨ (Γ[i]? = some s ∧ i ∉ vs)
  | [], h => .inr ⟨h, by simp⟩
  | v :: vs, h => by
    unfold wipeG at h
    rcases set_back h with ⟨e, e2, _⟩ | ⟨e, h⟩
    · exact .inl ⟨e2, by simp [e]⟩
    · rcases wipeG_get h with ⟨e2, m⟩ | ⟨e2, m⟩
      · exact .inl ⟨e2, by simp [m]⟩
      · exact .inr ⟨e2, by simp [m, e]⟩
omit [Tbl] in
theorem wipe_keep {σ : L2.St} {i : Nat} : ∀ {vs : List Nat}, i ∉ vs → (wipe σ vs)[i]? = σ[i]? := fun h => wipe_out h
section
variable {K : PySem.W.Frag} {B : Bg} {σ : L2.St} {Γ : Ga} {H0 H : Hp}
theorem EnvOk.wiped (ok : EnvOk K B σ Γ H0 H) (vs : List Nat) : EnvOk K B (wipe σ vs) (wipeG Γ vs) H0 H where
  sub := ok.sub
  len := by rw [wipeG_len, wipe_length]; exact ok.len
  dat := fun i x h => by
    rcases wipeG_get h with ⟨e, _⟩ | ⟨e, m⟩
    · cases e
    · rw [wipe_keep m]; exact ok.dat i x e
  scr := fun i x h => by
    rcases wipeG_get h with ⟨e, _⟩ | ⟨e, m⟩
    · cases e
    · rw [wipe_keep m]; exact ok.scr i x e
  own := fun i b x h => by
    rcases wipeG_get h with ⟨e, _⟩ | ⟨e, m⟩
    · cases e
    · rw [wipe_keep m]; exact ok.own i b x e
  apart := fun i j b c xs ys a hij h1 h2 => by
    rcases wipeG_get h1 with ⟨e, _⟩ | ⟨e1, m1⟩
    · cases e
    · rcases wipeG_get h2 with ⟨e, _⟩ | ⟨e2, m2⟩
      · cases e
      · rw [wipe_keep m1, wipe_keep m2]; exact ok.apart i j b c xs ys a hij e1 e2
  grow := ok.grow
  tabs := ok.tabs
  past := ok.past
  cl := fun i h => by
    rcases wipeG_get h with ⟨e, _⟩ | ⟨e, m⟩
    · cases e
    · rw [wipe_keep m]; exact ok.cl i e
omit [Tbl] in
theorem OwnOf.wiped {vs : List Nat} {p : Addr} (h : OwnOf (wipe σ vs) (wipeG Γ vs) p) : OwnOf σ Γ p := by
  obtain ⟨i, b, xs, h1, h2⟩ := h
  rcases wipeG_get h1 with ⟨e, _⟩ | ⟨e, m⟩
  · cases e
  · rw [wipe_keep m] at h2
    exact ⟨i, b, xs, e, h2⟩
def unwipe (Γ Γ' : Ga) (vs : List Nat) : Ga := (List.range Γ.length).map fun i => if i ∈ vs then Γ.getD i .un else Γ'.getD i .un
omit [Tbl] in
theorem unwipe_get {Γ Γ' : Ga} {vs : List Nat} {i : Nat} {s : Sl} (hl : Γ'.length = Γ.length) (h : (unwipe Γ Γ' vs)[i]? = some s) : (i ∈ vs ∧ Γ[i]? = some s) ∨ (i ∉ vs ∧ Γ'[i]? = some s) := by
  unfold unwipe at h
  rw [List.getElem?_map] at h
  obtain ⟨j, hj, e⟩ := Option.map_eq_some_iff.mp h
  have hi : i < Γ.length := by simpa using (List.getElem?_eq_some_iff.mp hj).1
  rw [List.getElem?_range hi] at hj
  cases hj
  split at e
  · rename_i m
    rw [List.getD_eq_getElem?_getD, List.getElem?_eq_getElem hi] at e
    exact .inl ⟨m, by rw [List.getElem?_eq_getElem hi, ← e]; rfl⟩
  · rename_i m
    have hi' : i < Γ'.length := by omega
    rw [List.getD_eq_getElem?_getD, List.getElem?_eq_getElem hi'] at e
    exact .inr ⟨m, by rw [List.getElem?_eq_getElem hi', ← e]; rfl⟩
theorem unwipe_ok {Γ' : Ga} {vs : List Nat} {H0' H' : Hp} (ok : EnvOk K B σ Γ H0 H) (ok' : EnvOk K B (wipe σ vs) Γ' H0' H') (g : Grow (OwnOf (wipe σ vs) (wipeG Γ vs)) H0 H H0' H') (l : Less (wipeG Γ vs) Γ') :
    EnvOk K B σ (unwipe Γ Γ' vs) H0' H' ∧ Grow (OwnOf σ Γ) H0 H H0' H' ∧ Less Γ (unwipe Γ Γ' vs) := by
  have hl : Γ'.length = Γ.length := by rw [ok'.len, wipe_length, ok.len]
  have hid : ∀ {i b xs a}, i ∈ vs → Γ[i]? = some (.own b xs) → σ[i]? = some (some (.ref a)) → ¬ OwnOf (wipe σ vs) (wipeG Γ vs) a := fun {i b xs a} m h1 h2 ⟨j, c, ys, q1, q2⟩ => by
    rcases wipeG_get q1 with ⟨e, _⟩ | ⟨e, mj⟩
    · cases e
    · rw [wipe_keep mj] at q2
      exact ok.apart i j b c xs ys a (fun z => mj (z ▸ m)) h1 e h2 q2
  have inn : ∀ {j c ys}, j ∉ vs → Γ'[j]? = some (.own c ys) → ∃ zs, Γ[j]? = some (.own c zs) := fun {j c ys} m h => by
    obtain ⟨zs, q⟩ := l j c ys h
    rcases wipeG_get q with ⟨e, _⟩ | ⟨e, _⟩
    · cases e
    · exact ⟨zs, e⟩
  refine ⟨⟨ok'.sub, by simp [unwipe, ok.len], fun i x h => ?_, fun i ns h => ?_, fun i b xs h => ?_, fun i j b c xs ys a hij h1 h2 => ?_, ok'.grow, ok'.tabs, ok'.past, fun i h => (by
    rcases unwipe_get hl h with ⟨m, e⟩ | ⟨m, e⟩
    · exact ok.cl i e
    · have := ok'.cl i e
      rwa [wipe_keep m] at this)⟩, g.wide fun p z => z.wiped, fun i b ys h => ?_⟩
  · rcases unwipe_get hl h with ⟨m, e⟩ | ⟨m, e⟩
    · obtain ⟨v, e1, r⟩ := ok.dat i x e
      exact ⟨v, e1, r.m g.ex0⟩
    · have := ok'.dat i x e
      rwa [wipe_keep m] at this
  · rcases unwipe_get hl h with ⟨m, e⟩ | ⟨m, e⟩
    · obtain ⟨v, e1, r⟩ := ok.scr i ns e
      exact ⟨v, e1, ex_l g.ex0 r⟩
    · have := ok'.scr i ns e
      rwa [wipe_keep m] at this
  · rcases unwipe_get hl h with ⟨m, e⟩ | ⟨m, e⟩
    · obtain ⟨a, us, q1, q2, q3, q4, q5⟩ := ok.own i b xs e
      have no := hid m e q1
      exact ⟨a, us, q1, by rw [g.old a (by rw [q3]; simp) no]; exact q2, g.keep _ _ q3 no q4.notbl, q4.m g.ex0, q5⟩
    · have := ok'.own i b xs e
      rwa [wipe_keep m] at this
  · rcases unwipe_get hl h1 with ⟨m1, e1⟩ | ⟨m1, e1⟩
    · rcases unwipe_get hl h2 with ⟨m2, e2⟩ | ⟨m2, e2⟩
      · exact ok.apart i j b c _ _ a hij e1 e2
      · obtain ⟨zs, e2⟩ := inn m2 e2
        exact ok.apart i j b c _ _ a hij e1 e2
    · rcases unwipe_get hl h2 with ⟨m2, e2⟩ | ⟨m2, e2⟩
      · obtain ⟨zs, e1⟩ := inn m1 e1
        exact ok.apart i j b c _ _ a hij e1 e2
      · have := ok'.apart i j b c _ _ a hij e1 e2
        rwa [wipe_keep m1, wipe_keep m2] at this
  · rcases unwipe_get hl h with ⟨m, e⟩ | ⟨m, e⟩
    · exact ⟨ys, e⟩
    · exact inn m e
end
def noX {α : Type} (r : Res α) : Res α := match r with | .ok a => .ok a | _ => .stuck
def lcL (g : D → Ga → Option Ga) (tt : Ga → Res (Ga × Bool)) (te : Ga → Res (Ga × D)) (vs : List Nat) : List D → Ga → Res (Ga × List D)
  | [], Γ => .ok (Γ, [])
  | x :: xs, Γ => match g x Γ with
    | some Γ1 => (noX (tt Γ1)).bind fun p => if p.2 = true then (noX (te p.1)).bind fun q => (lcL g tt te vs xs (wipeG q.1 vs)).bind fun r => .ok (r.1, q.2 :: r.2) else lcL g tt te vs xs (wipeG p.1 vs)
    | none => .stuck
def sLc (s : Ga → Res (Ga × List D)) (g : D → Ga → Option Ga) (tt : Ga → Res (Ga × Bool)) (te : Ga → Res (Ga × D)) (vs : List Nat) : Ga → Res (Ga × R) := fun Γ => (s Γ).bind fun p =>
  (lcL g tt te vs p.2 (wipeG p.1 vs)).bind fun q => if q.2.length ≤ sizeLine then .ok (unwipe p.1 q.1 vs, .f q.2) else .stuck
structure JGw (X : Cx) (vs : List Nat) (tg : Expr) (g : D → Ga → Option Ga) : Prop where
  ex : ∃ t, PG X tg t ∧ ∀ B σ Γ H0 H v x Γ' Q, EnvOk X.K B σ Γ H0 H → Rp X.K H0 v x → g x Γ = some Γ' → (∀ σ', EnvOk X.K B σ' Γ' H0 H → wipe σ' vs = wipe σ vs → Less Γ Γ' → (∀ p, OwnOf σ' Γ' p → OwnOf σ Γ p) → Q σ' H) → t v σ H Q
structure JGsw (X : Cx) (vs : List Nat) (tg : List Expr) (g : List D → Ga → Option Ga) : Prop where
  ex : ∃ t, PGs X tg t ∧ ∀ B σ Γ H0 H v x Γ' Q, EnvOk X.K B σ Γ H0 H → RpAll X.K H0 v x → g x Γ = some Γ' → (∀ σ', EnvOk X.K B σ' Γ' H0 H → wipe σ' vs = wipe σ vs → Less Γ Γ' → (∀ p, OwnOf σ' Γ' p → OwnOf σ Γ p) → Q σ' H) → t v σ H Q
omit [Tbl] in
theorem wipe_set {σ : L2.St} {o : Option V} {i : Nat} : ∀ {vs : List Nat}, i ∈ vs → wipe (σ.set i o) vs = wipe σ vs
  | v :: vs, h => by
    unfold wipe
    by_cases e : v = i
    · subst e
      by_cases m : v ∈ vs
      · rw [wipe_set m]
      · have : ∀ ws : List Nat, v ∉ ws → wipe (σ.set v o) ws = (wipe σ ws).set v o := by
          intro ws
          induction ws with
          | nil => intro _; rfl
          | cons w ws ih =>
            intro hm
            simp only [List.mem_cons, not_or] at hm
            unfold wipe
            rw [ih hm.2, List.set_comm _ _ hm.1]
        rw [this vs m, List.set_set]
    · rcases List.mem_cons.mp h with h | h
      · exact absurd h.symm e
      · rw [wipe_set h]
section
variable {X : Cx} {E : XK} {e a b tg iter elt : Expr} {es : List Expr} {pos : Pos} {vs : List Nat}
omit [Tbl] in
theorem less_setD {Γ : Ga} {i : Nat} {x : D} : Less Γ (Γ.set i (.d x)) := fun j c ys h => by
  rcases set_back h with ⟨_, z, _⟩ | ⟨_, z⟩
  · cases z
  · exact ⟨ys, z⟩
omit [Tbl] in
theorem own_setD {σ : L2.St} {Γ : Ga} {i : Nat} {x : D} {v : V} {p : Addr} (h : OwnOf (σ.set i (some v)) (Γ.set i (.d x)) p) : OwnOf σ Γ p := by
  obtain ⟨j, c, ys, h1, h2⟩ := h
  rcases set_back h1 with ⟨_, z, _⟩ | ⟨z1, z⟩
  · cases z
  · rw [List.getElem?_set_ne (Ne.symm z1)] at h2; exact ⟨j, c, ys, z, h2⟩
theorem jgw_name {i : Nat} {x : Str} (m : i ∈ vs) (hN : X.N.Nodup) (hi : X.N[i]? = some x) (hx : Loc X.env.scope x) (hf : X.fn x = true ∨ X.env.scope.names.lookup x = some .local := by first | exact .inl rfl | exact .inr rfl | assumption) : JGw X vs (.Name x pos) (gN i) :=
  ⟨_, pg_name hN hi hx hf, fun B σ Γ H0 H v x Γ' Q ok r e k => by cases e; exact k _ (ok.setD i r) (wipe_set m) less_setD fun _ => own_setD⟩
theorem jgsw_nil : JGsw X vs [] gNil' := ⟨_, pgs_nil, fun B σ Γ H0 H v x Γ' Q ok r e k => by
  cases r with
  | nil => cases e; exact ⟨rfl, k σ ok rfl (Less.refl _) fun _ h => h⟩
  | cons _ _ => cases e⟩
theorem jgsw_cons {g : D → Ga → Option Ga} {h : List D → Ga → Option Ga} (h1 : JGw X vs e g) (h2 : JGsw X vs es h) (hs : (assignEach (e :: es) X.env).map (·.2) = assign e X.env :: (assignEach es X.env).map (·.2) := by rfl) : JGsw X vs (e :: es) (gCons' g h) := by
  obtain ⟨t, p, ha⟩ := h1.ex
  obtain ⟨t', p', hb⟩ := h2.ex
  refine ⟨_, pgs_cons p p' hs, fun B σ Γ H0 H v x Γ' Q ok r e k => ?_⟩
  cases r with
  | nil => cases e
  | cons r1 r2 =>
    rename_i v1 us x1 xs
    have e : (g x1 Γ).bind (h xs) = some Γ' := e
    cases hg : g x1 Γ with
    | none => rw [hg] at e; cases e
    | some Γ1 =>
      rw [hg] at e
      exact ⟨v1, us, rfl, ha B σ Γ H0 H v1 x1 Γ1 _ ok r1 hg fun σ1 ok1 w1 w2 o1 => hb B σ1 Γ1 H0 H us xs Γ' Q ok1 r2 e fun σ2 ok2 w3 w4 o2 => k σ2 ok2 (w3.trans w1) (w2.trans w4) fun p z => o1 p (o2 p z)⟩
theorem jgw_tup {k n : Nat} {h : List D → Ga → Option Ga} (hc : X.calm = true) (hh : JGsw X vs es h) (hn : (assignEach es X.env).length = n := by rfl) (hst : (assignEach es X.env).findIdx? (·.1) = none := by rfl) : JGw X vs (.Tuple es k pos) (gTup' h n) := by
  obtain ⟨t, p, ha⟩ := hh.ex
  refine ⟨_, pg_tup hc p hn hst, fun B σ Γ H0 H v x Γ' Q ok r e k => ?_⟩
  unfold gTup' at e
  split at e
  · split at e
    · rename_i xs hl
      cases r with
      | tup h1 h2 => exact ⟨_, _, rfl, ex_t ok.sub h1, by rw [h2.len]; exact hl, ha B σ Γ H0 H _ xs Γ' Q ok h2 e k⟩
    · cases e
  · cases e
structure JTs (X : Cx) (E : XK) (ifs : List Expr) (s : Ga → Res (Ga × Bool)) : Prop where
  ex : ∃ t, PTs X ifs t ∧ ∀ B σ Γ H0 H Q, EnvOk X.K B σ Γ H0 H → TW X B E σ Γ H0 H (s Γ) Q → t σ H Q
def sYes : Ga → Res (Ga × Bool) := fun Γ => .ok (Γ, true)
theorem jts_nil : JTs X E [] sYes := ⟨_, pts_nil, fun B σ Γ H0 H Q ok w => w H0 H ok (Grow.refl _ _ _) (Less.refl _)⟩
theorem lc_sound {s : Ga → Res (Ga × List D)} {g : D → Ga → Option Ga} {tt : Ga → Res (Ga × Bool)} {te : Ga → Res (Ga × D)} {wi : TI} {tg' : TG} {tt' : TT} {te' : TE} {X' : Cx} (hK : X'.K = X.K)
    (hi : ∀ B σ Γ H0 H R, EnvOk X.K B σ Γ H0 H → IW X B E σ Γ H0 H (s Γ) R → wi σ H R)
    (hg : ∀ B σ Γ H0 H v x Γ' Q, EnvOk X'.K B σ Γ H0 H → Rp X'.K H0 v x → g x Γ = some Γ' → (∀ σ', EnvOk X'.K B σ' Γ' H0 H → wipe σ' vs = wipe σ vs → Less Γ Γ' → (∀ p, OwnOf σ' Γ' p → OwnOf σ Γ p) → Q σ' H) → tg' v σ H Q)
    (ht : ∀ B σ Γ H0 H Q, EnvOk X'.K B σ Γ H0 H → TW X' B E0 σ Γ H0 H (tt Γ) Q → tt' σ H Q)
    (he : ∀ B σ Γ H0 H Q, EnvOk X'.K B σ Γ H0 H → DW X' B E0 σ Γ H0 H (te Γ) Q → te' σ H Q) :
    ∀ B σ Γ H0 H Q, EnvOk X.K B σ Γ H0 H → EW X B E σ Γ H0 H (sLc s g tt te vs Γ) Q → tLc wi tg' tt' te' vs σ H Q := fun B σ Γ H0 H Q ok w => by
  refine i_then (R := fun J H1 => ∀ D, H1 D = none → ∃ W : Nat → Nat → Hp → Prop, (∃ m, W 0 m (upd H1 D (.lst []))) ∧ ∀ i m H, W i m H →
    (J.stop i H ∧ Q (.ref D) H) ∨ (J.go i H ∧ ∃ Nx : Hp → Prop, (∀ H', Nx H' → ∃ m', m' < m ∧ W (i + 1) m' H') ∧ ∀ x H', J.yld i H x H' → tg' x (wipe σ vs) H' fun σ2 H2 => wipe σ2 vs = wipe σ vs ∧ tt' σ2 H2 fun b H3 =>
      if b = true then te' σ2 H3 fun y H4 => ∃ acc, H4 D = some (.lst acc) ∧ acc.length < sizeLine ∧ Nx (upd H4 D (.lst (acc ++ [y]))) else Nx H3))
    hi wok_E ok w fun Γ1 xs J H01 H1 w1 ok1 g1 l1 it => ?_
  intro Da hDa
  cases hr : lcL g tt te vs xs (wipeG Γ1 vs) with
  | stuck => simp only [hr] at w1; exact w1.elim
  | exc c x =>
    -- no exception comes out of a comprehension
    exfalso
    have none_exc : ∀ (xs : List D) (Γ : Ga) c x, lcL g tt te vs xs Γ ≠ .exc c x := by
      intro xs
      induction xs with
      | nil => intro Γ c x h; cases h
      | cons y ys ih =>
        intro Γ c x h
        unfold lcL at h
        cases hg : g y Γ with
        | none => rw [hg] at h; cases h
        | some Γ1 =>
          rw [hg] at h
          simp only at h
          cases htt : tt Γ1 with
          | stuck => rw [htt] at h; cases h
          | exc _ _ => rw [htt] at h; cases h
          | ok p =>
            rw [htt] at h
            simp only [noX, bind_ok] at h
            split at h
            · cases hte : te p.1 with
              | stuck => rw [hte] at h; cases h
              | exc _ _ => rw [hte] at h; cases h
              | ok q =>
                rw [hte] at h
                simp only [bind_ok] at h
                cases hl : lcL g tt te vs ys (wipeG q.1 vs) with
                | stuck => rw [hl] at h; cases h
                | exc c' x' => exact ih _ _ _ hl
                | ok r => rw [hl] at h; cases h
            · exact ih _ _ _ h
    exact none_exc _ _ _ _ hr
  | ok res =>
    obtain ⟨Γe, total⟩ := res
    simp only [hr, bind_ok] at w1
    split at w1
    · rename_i hsz
      have hb : B.He Da = none := RV.he ok1 hDa
      have n0 : H01 Da = none := fresh_back ok1.sub hDa
      refine ⟨fun i m Hi => ∃ Γi H0i acc accD rest, EnvOk X.K B (wipe σ vs) Γi H0i Hi ∧ Grow (OwnOf (wipe σ vs) (wipeG Γ1 vs)) H01 H1 H0i Hi ∧ Less (wipeG Γ1 vs) Γi ∧ Hi Da = some (.lst acc) ∧ H0i Da = none ∧ RpAll X.K H0i acc accD ∧
        lcL g tt te vs (xs.drop i) Γi = .ok (Γe, rest) ∧ accD ++ rest = total ∧ m = xs.length - i, ⟨xs.length, wipeG Γ1 vs, H01, [], [], total, ?_, ?_, Less.refl _, upd_same, n0, .nil, by simpa using hr, rfl, by simp⟩, ?_⟩
      · exact (ok1.wiped vs).poke n0 (fun z => (ok1.ownLive z.wiped).1 hDa) hb (.inr hDa)
      · exact Grow.fresh hDa
      · rintro i m Hi ⟨Γi, H0i, acc, accD, rest, oki, gi, li, hacc, hn, racc, hrest, htot, rfl⟩
        have ei := gi.ex0
        have nod : ∀ {Γ' : Ga}, Less (wipeG Γ1 vs) Γ' → ¬ OwnOf (wipe σ vs) Γ' Da := fun l z => (ok1.ownLive (l.own z).wiped).1 hDa
        by_cases hlt : i < xs.length
        · refine .inr ⟨it.go i H0i Hi ei oki.sub hlt, fun H' => ∃ Γi H0i acc accD rest, EnvOk X.K B (wipe σ vs) Γi H0i H' ∧ Grow (OwnOf (wipe σ vs) (wipeG Γ1 vs)) H01 H1 H0i H' ∧ Less (wipeG Γ1 vs) Γi ∧ H' Da = some (.lst acc) ∧ H0i Da = none ∧ RpAll X.K H0i acc accD ∧
            lcL g tt te vs (xs.drop (i + 1)) Γi = .ok (Γe, rest) ∧ accD ++ rest = total, fun H' ⟨Γi, H0i, acc, accD, rest, q1, q2, q3, q4, q5, q6, q7, q8⟩ => ⟨xs.length - (i + 1), by omega, Γi, H0i, acc, accD, rest, q1, q2, q3, q4, q5, q6, q7, q8, rfl⟩, fun v H' y => ?_⟩
          have hx : xs[i]? = some xs[i] := List.getElem?_eq_getElem hlt
          obtain ⟨H0y, gy, sy, ry⟩ := it.yld i xs[i] H0i Hi v H' ei oki.sub hx y
          have oky := oki.same gy sy
          have hd : xs.drop i = xs[i] :: xs.drop (i + 1) := List.drop_eq_getElem_cons hlt
          rw [hd] at hrest
          unfold lcL at hrest
          cases hgx : g xs[i] Γi with
          | none => rw [hgx] at hrest; cases hrest
          | some Γg =>
            rw [hgx] at hrest
            simp only at hrest
            refine hg B (wipe σ vs) Γi H0y H' v xs[i] Γg _ (hK ▸ oky) (hK ▸ ry) hgx fun σg okg wg lg og => ?_
            have ww : wipe (wipe σ vs) vs = wipe σ vs := by
              have : ∀ (ws : List Nat) (τ : L2.St), (∀ j ∈ ws, τ[j]? = some none ∨ τ.length ≤ j) → wipe τ ws = τ := by
                intro ws
                induction ws with
                | nil => intro τ _; rfl
                | cons w ws ih =>
                  intro τ hτ
                  unfold wipe
                  rw [ih τ fun j hj => hτ j (List.mem_cons_of_mem _ hj)]
                  rcases hτ w List.mem_cons_self with h | h
                  · apply List.ext_getElem?
                    intro k
                    by_cases e : k = w
                    · subst e
                      rw [List.getElem?_set_self (List.getElem?_eq_some_iff.mp h).1, h]
                    · rw [List.getElem?_set_ne (Ne.symm e)]
                  · exact List.set_eq_of_length_le h
              refine this vs _ fun j hj => ?_
              have : ∀ (ws : List Nat), j ∈ ws → (wipe σ ws)[j]? = some none ∨ (wipe σ ws).length ≤ j := by
                intro ws
                induction ws with
                | nil => intro h; cases h
                | cons w ws ih =>
                  intro h
                  unfold wipe
                  by_cases e : j = w
                  · subst e
                    by_cases hj : j < (wipe σ ws).length
                    · left; exact List.getElem?_set_self hj
                    · right; rw [List.length_set]; omega
                  · rcases List.mem_cons.mp h with h | h
                    · exact absurd h e
                    · rw [List.getElem?_set_ne (Ne.symm e), List.length_set]; exact ih h
              exact this vs hj
            refine ⟨wg.trans ww, ?_⟩
            -- what stands behind a part of the turn
            have okg : EnvOk X.K B σg Γg H0y H' := hK ▸ okg
            have own_g : ∀ p, OwnOf σg Γg p → OwnOf (wipe σ vs) (wipeG Γ1 vs) p := fun p z => li.own (og p z)
            have nog : ¬ OwnOf σg Γg Da := fun z => nod li (og _ z)
            have hy1 : H' Da = some (.lst acc) := gy.keep _ _ hacc id nofun
            have hy0 : H0y Da = none := by rw [gy.old Da (by rw [hacc]; simp) id]; exact hn
            have gyy : Grow (OwnOf (wipe σ vs) (wipeG Γ1 vs)) H01 H1 H0y H' := gi.trans gy fun p z => z.elim
            -- the end of a turn: the state (Γz, H0z, Hz) behind the test or the element
            have close : ∀ {Γz : Ga} {H0z Hz : Hp}, EnvOk X.K B σg Γz H0z Hz → Grow (OwnOf σg Γg) H0y H' H0z Hz → Less Γg Γz →
                EnvOk X.K B (wipe σ vs) (wipeG Γz vs) H0z Hz ∧ Grow (OwnOf (wipe σ vs) (wipeG Γ1 vs)) H01 H1 H0z Hz ∧ Less (wipeG Γ1 vs) (wipeG Γz vs) ∧ Hz Da = some (.lst acc) ∧ H0z Da = none ∧ RpAll X.K H0z acc accD := fun {Γz H0z Hz} okz gz lz => by
              refine ⟨?_, gyy.trans gz fun p z => .inl (own_g p z), fun j c ys h => ?_, gz.keep _ _ hy1 nog nofun, ?_, racc.m (gy.ex0.trans gz.ex0)⟩
              · have := okz.wiped vs
                rwa [wg.trans ww] at this
              · rcases wipeG_get h with ⟨e, _⟩ | ⟨e, m⟩
                · cases e
                · exact (li.trans (lg.trans lz)) j c ys e
              · rw [gz.old Da (by rw [hy1]; simp) nog]; exact hy0
            cases htt : tt Γg with
            | stuck => rw [htt] at hrest; cases hrest
            | exc _ _ => rw [htt] at hrest; cases hrest
            | ok pt =>
              obtain ⟨Γt, bt⟩ := pt
              rw [htt] at hrest
              simp only [noX, bind_ok] at hrest
              refine ht B σg Γg H0y H' _ (hK ▸ okg) ?_
              rw [htt]
              intro H0t Ht okt gt lt
              have okt : EnvOk X.K B σg Γt H0t Ht := hK ▸ okt
              cases bt with
              | false =>
                simp only [Bool.false_eq_true, if_false] at hrest ⊢
                obtain ⟨c1, c2, c3, c4, c5, c6⟩ := close okt gt lt
                exact ⟨_, _, acc, accD, rest, c1, c2, c3, c4, c5, c6, hrest, htot⟩
              | true =>
                simp only [if_true] at hrest ⊢
                cases hte : te Γt with
                | stuck => rw [hte] at hrest; cases hrest
                | exc _ _ => rw [hte] at hrest; cases hrest
                | ok pe =>
                  obtain ⟨Γz, yd⟩ := pe
                  rw [hte] at hrest
                  simp only [bind_ok] at hrest
                  refine he B σg Γt H0t Ht _ (hK ▸ okt) ?_
                  rw [hte]
                  intro yv H0z Hz okz gz lz rz
                  have okz : EnvOk X.K B σg Γz H0z Hz := hK ▸ okz
                  have rz : Rp X.K H0z yv yd := hK ▸ rz
                  obtain ⟨c1, c2, c3, c4, c5, c6⟩ := close okz (gt.trans gz fun p z => .inl (lt.own z)) (lt.trans lz)
                  cases hrr : lcL g tt te vs (xs.drop (i + 1)) (wipeG Γz vs) with
                  | stuck => rw [hrr] at hrest; cases hrest
                  | exc _ _ => rw [hrr] at hrest; cases hrest
                  | ok pr =>
                    obtain ⟨Γr, rr⟩ := pr
                    rw [hrr] at hrest
                    cases hrest
                    have hlen : acc.length < sizeLine := by
                      have h1 : total.length = accD.length + (rr.length + 1) := by rw [← htot]; simp
                      rw [c6.len]; omega
                    refine ⟨acc, c4, hlen, wipeG Γz vs, H0z, acc ++ [yv], accD ++ [yd], rr, c1.poke c5 (nod c3) hb (.inl ⟨_, c4⟩), c2.trans (Grow.poke (.inl ⟨_, c4⟩)) fun p z => .inr (by rw [z]; exact hDa), c3, upd_same, c5, c6.app (.one rz), hrr, ?_⟩
                    rw [← htot]; simp
        · refine .inl ⟨it.stop i H0i Hi ei oki.sub (by omega), ?_⟩
          rw [List.drop_eq_nil_of_le (by omega)] at hrest
          cases hrest
          rw [List.append_nil] at htot
          subst htot
          obtain ⟨q1, q2, q3⟩ := unwipe_ok ok1 oki gi li
          exact w1 (.ref Da) H0i Hi q1 q2 q3 (.f hDa hn hacc racc)
    · exact w1.elim
def TDc (X : Cx) (E : XK) (s : Ga → Res (Ga × D)) : TE := fun σ H Q => ∃ B Γ H0, EnvOk X.K B σ Γ H0 H ∧ DW X B E σ Γ H0 H (s Γ) Q
def TTc (X : Cx) (E : XK) (s : Ga → Res (Ga × Bool)) : TT := fun σ H Q => ∃ B Γ H0, EnvOk X.K B σ Γ H0 H ∧ TW X B E σ Γ H0 H (s Γ) Q
def TGc (X : Cx) (vs : List Nat) (g : D → Ga → Option Ga) : TG := fun v σ H Q => ∃ B Γ H0 x Γ', EnvOk X.K B σ Γ H0 H ∧ Rp X.K H0 v x ∧ g x Γ = some Γ' ∧ ∀ σ', EnvOk X.K B σ' Γ' H0 H → wipe σ' vs = wipe σ vs → Less Γ Γ' → (∀ p, OwnOf σ' Γ' p → OwnOf σ Γ p) → Q σ' H
theorem je_lc {s : Ga → Res (Ga × List D)} {g : D → Ga → Option Ga} {tt : Ga → Res (Ga × Bool)} {te : Ga → Res (Ga × D)} {ifs : List Expr} {scope : Scope} {own : List (Str × Nat)} (hc : X.calm = true) (hN : X.N.Nodup) (hi : JI X E tg iter s) (ok : BlkOk X.N X.env.scope scope own)
    (hg : ∀ (s : Shared) (H : Hp) (C : Addr) (cl : List (Str × Addr)) (fp : List Addr), JGw (X.blk s H scope (compEnvC scope cl C X.env) fp) (own.map (·.2)) tg g)
    (ht : ∀ (s : Shared) (H : Hp) (C : Addr) (cl : List (Str × Addr)) (fp : List Addr), JTs (X.blk s H scope (compEnvC scope cl C X.env) fp) E0 ifs tt)
    (he : ∀ (s : Shared) (H : Hp) (C : Addr) (cl : List (Str × Addr)) (fp : List Addr), JD (X.blk s H scope (compEnvC scope cl C X.env) fp) E0 elt te)
    (hs : ∀ x, foldedSetIterable iter X.env x = pure x := by intro _; rfl) : JE X E (.ListComp elt [⟨tg, iter, ifs, 0⟩] scope pos) (sLc s g tt te (own.map (·.2))) := by
  obtain ⟨wi, pi, hi⟩ := hi.ex
  refine ⟨_, pe_lc (g := TGc X (own.map (·.2)) g) (tt := TTc X E0 tt) (te := TDc X E0 te) hc hN pi ok (fun s H C cl fp => ?_) (fun s H C cl fp => ?_) (fun s H C cl fp => ?_) hs, lc_sound (X' := X) rfl hi ?_ ?_ ?_⟩
  · obtain ⟨t, p, h⟩ := (hg s H C cl fp).ex
    exact ⟨fun pins s σ H v u Q I r ⟨B, Γ, H0, x, Γ', o, rx, e, k⟩ => p.run pins s σ H v u Q I r (h B σ Γ H0 H v x Γ' Q o rx e k)⟩
  · obtain ⟨t, p, h⟩ := (ht s H C cl fp).ex
    exact ⟨fun pins s σ H Q I ⟨B, Γ, H0, o, w⟩ => p.run pins s σ H Q I (h B σ Γ H0 H Q o w)⟩
  · obtain ⟨t, p, h⟩ := (he s H C cl fp).ex
    exact ⟨fun pins s σ H Q I ⟨B, Γ, H0, o, w⟩ => p.run pins s σ H Q I (h B σ Γ H0 H Q o w)⟩
  · exact fun B σ Γ H0 H v x Γ' Q o rx e k => ⟨B, Γ, H0, x, Γ', o, rx, e, k⟩
  · exact fun B σ Γ H0 H Q o w => ⟨B, Γ, H0, o, w⟩
  · exact fun B σ Γ H0 H Q o w => ⟨B, Γ, H0, o, w⟩
end
end Mi
namespace Mi
open PySem PySem.Spec PyProof.Rows L2 Evl
variable [Tbl]

structure FnG (P : Program) (w : World) (K : PySem.W.Frag) (mg : Str → Option Value) (base : Heap) (k : Nat) (f : Addr) (fd : FuncData) (ps : List Str) (sp : Sp) : Prop where
  args : ∀ vs H Q E, sp vs H Q E → vs.length = ps.length
  go : ∀ (A : Around) (fr : List Env) (s : Shared) (H : Hp) (ar : Args) (us : List Value) (vs : List V) (Q : VK) (E : XK), Room k A → A.guards = some [] → Env0 P w K mg base A fr s H → BindsTo s fd ar (ps.zip us) → Vals vs us →
    sp vs H Q E → codeAny (model P w) A (.call (.ref f) ar) (CR (L2.CX P w) fr P w H s Q E) s
omit [Tbl] in
theorem FnG.up {P : Program} {w : World} {K : PySem.W.Frag} {mg : Str → Option Value} {base : Heap} {j k : Nat} {f : Addr} {fd : FuncData} {ps : List Str} {sp : Sp} (F : FnG P w K mg base j f fd ps sp) (h : j ≤ k) : FnG P w K mg base k f fd ps sp where
  args := F.args
  go := fun A fr s H ar us vs Q E r => F.go A fr s H ar us vs Q E (r.mono h)
section
variable {X : Cx} {E : XK} {k : Nat} {f : Addr} {fd : FuncData} {ps : List Str} {sp : Sp} {x : Str} {p pos : Pos} {e : Expr} {es : List Expr} {t : TA}
omit [Tbl] in
theorem run_G {pins : List (Addr × Obj)} {σ : L2.St} {H : Hp} {s : Shared} {Q : VK} {us : List Value} {vs : List V} (F : FnG X.prog X.w X.K X.mg X.base k f fd ps sp) (hr : Room k X.A) (hq : X.A.guards = some []) (hb : Binds X.K fd ps []) (tk : Takes X fun cls d _ H => E cls d H)
    (I : Inv X pins σ H s) (r : Vals vs us) (h : sp vs H Q E) : wpAny (model X.prog X.w) X.A (PySem.call (.ref f) us) (EP X pins σ Q) X.xe s := by
  have el : us.length = ps.length := by rw [← r.length, F.args _ _ _ _ h]
  have bt : BindsTo s fd ⟨us, []⟩ (ps.zip us) := by
    have := hb s us I.kIn (by rw [List.append_nil]; exact el)
    rwa [List.append_nil] at this
  refine wpAny_call (codeAny_mono (F.go X.A X.stack s H _ us vs Q E hr hq I.env0 bt r h) ?_)
  intro res s' hres
  match res, hres with
  | .ok (.ret u), c => exact I.after c
  | .ok .next, c => exact c.elim
  | .ok .brk, c => exact c.elim
  | .ok .cont, c => exact c.elim
  | .error ex, c => exact passes_call tk (fun _ _ _ _ z => z) pins σ H s ex s' I c
omit [Tbl] in
theorem pe_G (F : FnG X.prog X.w X.K X.mg X.base k f fd ps sp) (hr : Room k X.A) (hq : X.A.guards = some []) (hg : Gl X x) (hm : X.mg x = some (.ref f)) (hk : PySem.W.keepIn X.K (.ref f) = true) (hb : Binds X.K fd ps []) (tk : Takes X fun cls d _ H => E cls d H) (ha : PA X (e :: es) t)
    (hdb : (x == ("__debug__" : Str)) = false) (he : starEach (e :: es) X.env = (false, eval e X.env) :: starEach es X.env) (hpl : (backTo pos (starEach es X.env)).any (·.1) = false) : PE X (.Call (.Name x p) (e :: es) [] pos) (fun σ H Q => t σ H fun vs H1 => sp vs H1 Q E) where
  run := fun pins s σ H Q I h => wpAny_Call_Name_kw (ld_glob I hg hm (PySem.W.callWith_K (h₀ := X.base) I.ok.mod.kin hk (thn (ha.run pos pins s σ H _ I h) fun us s1 ⟨vs, H1, I1, r, q⟩ => ⟨I1.kIn, run_G F hr hq hb tk I1 r q⟩) he hpl) hdb)
end
section
variable {P : Program} {w : World} {K : PySem.W.Frag} {mg : Str → Option Value} {base : Heap}
omit [Tbl] in
theorem fnG_of {x qual : Str} {st : Stmt} {f : Addr} {fd : FuncData} {N ps : List Str} {k : Nat} {sp : Sp} (F : Fun K x qual st f fd) (S : FnScope N ps (defScope st)) (hlen : ∀ vs H Q E, sp vs H Q E → vs.length = ps.length)
    (hbody : ∀ (cdv : Value) (A : Around) (fr : List Env) (s : Shared) (H : Hp) (vs : List V) (Q : VK) (E : XK), Room k (A.deeper (envOfC qual (defScope st) s.heap.objs.size f cdv)) → A.guards = some [] → sp vs H Q E →
      ∃ t, PSs (cxOf (L2.CX P w) P w K mg base N qual (defScope st) f cdv A fr s H E) (defBody st) t ∧ t { nx := fun _ H' => Q .non H', rt := Q } (L2.start N vs) H) : FnG P w K mg base (k + 1) f fd ps sp := by
  obtain ⟨oc, od, kV, doc, pm, an, cdv, ct, osl, rfl, lk, hcd⟩ := F.ex
  refine ⟨hlen, fun A fr s H ar us vs Q E hr hq e0 hb r h => ?_⟩
  have inK : K.In s.heap := e0.mod.kin.keeps fun b o z => (e0.bs b o z).1
  have noLim : s.heap.NoLimit := e0.mod.nolimit.keeps fun b o z => (e0.bs b o z).1
  refine codeAny_call_function hr.depth (inK _ _ lk) rfl S.co S.gen rfl (PySem.W.codeRec_of inK hcd) (hb _ _ _ _ (wpAny_newFunctionEnv_cells S.kind ?_ ?_))
  · rintro ⟨n, v⟩ hy
    rcases S.par n (List.of_mem_zip hy).1 with q | q
    · exact Or.inl q
    · exact Or.inr ⟨q, PySem.W.cellsFrom_some _ _ _ (Or.inl q)⟩
  · rintro env rfl s1 x1
    refine ⟨noLim.keeps x1.toInCall.keep, codeAny_func ?_⟩
    obtain ⟨t, ht, hd⟩ := hbody cdv A fr s H vs Q E (hr.deeper _) hq h
    have I := inv_start (CX := L2.CX P w) (E := E) S hr.hd e0 (hlen _ _ _ _ h) r x1
    refine wpAny_mono (ht.run [] s1 (L2.start N vs) H _ I hd) ?_ fun _ _ z => z
    intro fl s' hs
    match fl, hs with
    | .ret u, ⟨v, σ', H', J, rv, q⟩ => exact ⟨v, H', J.os, J.bare, J.base, J.hok, rv, q⟩
    | .next, ⟨σ', H', J, q⟩ => exact ⟨.non, H', J.os, J.bare, J.base, J.hok, rfl, q⟩
    | .brk, ⟨_, _, _, q⟩ => exact q.elim
    | .cont, ⟨_, _, _, q⟩ => exact q.elim
end
def Bof (H0 H : Hp) (vs : List V) (Γ : Ga) : Bg := ⟨H0, H, fun i => match Γ[i]? with
  | some (.own _ _) => (match vs[i]? with | some (.ref a) => some a | _ => none)
  | _ => none⟩
def XF (K : PySem.W.Frag) (mg : Str → Option Value) (B : Bg) (E : XK) (c : Str) (x : D) : Prop := ∀ C d v H0' H', mg c = some (.ref C) → H' d = some (.xd [(fieldOf c, v)]) → Rp K H0' v x → Ex H0' H' → Grow (fun p => ∃ i, B.io i = some p) B.He0 B.He H0' H' → E (.ref C) (some d) H'
def FW (K : PySem.W.Frag) (mg : Str → Option Value) (H0 H : Hp) (vs : List V) (Γ : Ga) (E : XK) (r : Res (Ga × R)) (Q : VK) : Prop := match r with
  | .ok (Γ', x) => ∀ v H0' H', EnvOk K (Bof H0 H vs Γ) (vs.map some) Γ' H0' H' → RV K H0 H H0' H' x v → Q v H'
  | .exc c x => XF K mg (Bof H0 H vs Γ) E c x
  | .stuck => False
def spD (K : PySem.W.Frag) (mg : Str → Option Value) (n : Nat) (m : Ga → Res (Ga × R)) : Sp := fun vs H Q E => vs.length = n ∧ ∃ H0 Γ, EnvOk K (Bof H0 H vs Γ) (vs.map some) Γ H0 H ∧ FW K mg H0 H vs Γ E (m Γ) Q
def Shape (Γ Γ' : Ga) : Prop := ∀ (k : Nat) b xs, Γ[k]? = some (.own b xs) → ∃ ys, Γ'[k]? = some (.own b ys)
structure FD (P : Program) (w : World) (K : PySem.W.Frag) (mg : Str → Option Value) (base : Heap) (k : Nat) (f : Addr) (fd : FuncData) (ps : List Str) (m : Ga → Res (Ga × R)) : Prop where
  ok : FnG P w K mg base k f fd ps (spD K mg ps.length m)
  shape : ∀ Γ Γ' r, m Γ = .ok (Γ', r) → Shape Γ Γ'

def refSl (Γ : Ga) (i : Nat) : Res Sl := match Γ[i]? with
  | some (.own (.b _) xs) => .ok (.own true xs)
  | some (.scr ns) => .ok (.scr ns)
  | _ => .stuck
def argSl (Γ : Ga) : List (Option Nat) → List D → Res Ga
  | [], [] => .ok []
  | none :: ks, x :: xs => (argSl Γ ks xs).bind fun r => .ok (.d x :: r)
  | some i :: ks, xs => (refSl Γ i).bind fun s => (argSl Γ ks xs).bind fun r => .ok (s :: r)
  | _, _ => .stuck
def refAt : List (Option Nat) → Ga → Nat → Option (List D)
  | some j :: ks, .own true ys :: os, i => if j = i then some ys else refAt ks os i
  | _ :: ks, _ :: os, i => refAt ks os i
  | _, _, _ => none
def putB (ks : List (Option Nat)) (os : Ga) (i : Nat) (s : Sl) : Sl := match s with
  | .own b xs => .own b ((refAt ks os i).getD xs)
  | s => s
def putBack (Γ : Ga) (ks : List (Option Nat)) (os : Ga) : Ga := Γ.mapIdx (putB ks os)
inductive ArgR (K : PySem.W.Frag) (H0 : Hp) (σ : L2.St) : List V → List (Option Nat) → List D → Prop
  | nil : ArgR K H0 σ [] [] []
  | d {v : V} {vs : List V} {ks : List (Option Nat)} {x : D} {xs : List D} : Rp K H0 v x → ArgR K H0 σ vs ks xs → ArgR K H0 σ (v :: vs) (none :: ks) (x :: xs)
  | ref {v : V} {vs : List V} {i : Nat} {ks : List (Option Nat)} {xs : List D} : σ[i]? = some (some v) → ArgR K H0 σ vs ks xs → ArgR K H0 σ (v :: vs) (some i :: ks) xs
def PW' (X : Cx) (B : Bg) (E : XK) (σ : L2.St) (ks : List (Option Nat)) (Γ : Ga) (H0 H : Hp) (r : Res (Ga × List D)) (Q : List V → Hp → Prop) : Prop := match r with
  | .ok (Γ', xs) => ∀ vs H0' H', EnvOk X.K B σ Γ' H0' H' → Grow (OwnOf σ Γ) H0 H H0' H' → Less Γ Γ' → ArgR X.K H0' σ vs ks xs → Q vs H'
  | .exc c x => XW X B E c x
  | .stuck => False
structure JP (X : Cx) (E : XK) (es : List Expr) (ks : List (Option Nat)) (s : Ga → Res (Ga × List D)) : Prop where
  ex : ∃ t, PA X es t ∧ ∀ B σ Γ H0 H Q, EnvOk X.K B σ Γ H0 H → PW' X B E σ ks Γ H0 H (s Γ) Q → t σ H Q
section
variable {X : Cx} {E : XK} {B : Bg} {σ : L2.St}
theorem wok_P {ks : List (Option Nat)} {Q : List V → Hp → Prop} : WOk X B E σ fun Γ H0 H r => PW' X B E σ ks Γ H0 H r Q where
  exc := fun _ _ _ _ _ h => h
  stuck := fun _ _ _ h => h
  shift := fun Γ H0 H Γ1 H01 H1 r ok g l w => by
    cases r with
    | stuck => exact w
    | exc c x => exact w
    | ok p => exact fun v H0' H' o' g' l' r' => w v H0' H' o' (shift_g g l g') (l.trans l') r'
theorem p_then {β : Type} {W : Ga → Hp → Hp → Res β → Prop} {Γ : Ga} {H0 H : Hp} {ks : List (Option Nat)} {t : TA} {s : Ga → Res (Ga × List D)} {f : Ga × List D → Res β} {Q : List V → Hp → Prop} (ha : ∀ B σ Γ H0 H Q, EnvOk X.K B σ Γ H0 H → PW' X B E σ ks Γ H0 H (s Γ) Q → t σ H Q) (wo : WOk X B E σ W) (ok : EnvOk X.K B σ Γ H0 H) (w : W Γ H0 H ((s Γ).bind f))
    (k : ∀ Γ1 x v H01 H1, W Γ1 H01 H1 (f (Γ1, x)) → EnvOk X.K B σ Γ1 H01 H1 → Grow (OwnOf σ Γ) H0 H H01 H1 → Less Γ Γ1 → ArgR X.K H01 σ v ks x → Q v H1) : t σ H Q := by
  refine ha B σ Γ H0 H Q ok ?_
  cases hs : s Γ with
  | stuck => rw [hs] at w; exact (wo.stuck _ _ _ w).elim
  | exc c x => rw [hs] at w; exact wo.exc _ _ _ _ _ w
  | ok p =>
    rw [hs] at w
    exact fun v H01 H1 ok1 g l r => k _ _ v H01 H1 (wo.shift _ _ _ _ _ _ _ ok g l w) ok1 g l r
omit [Tbl] in
theorem ArgR.m {K : PySem.W.Frag} {H0 H0' : Hp} {vs : List V} {ks : List (Option Nat)} {xs : List D} (h : ArgR K H0 σ vs ks xs) (e : Ex H0 H0') : ArgR K H0' σ vs ks xs := by
  induction h with
  | nil => exact .nil
  | d r _ ih => exact .d (r.m e) ih
  | ref r _ ih => exact .ref r ih
variable {e : Expr} {es : List Expr} {ks : List (Option Nat)}
theorem jp_nil : JP X E [] [] sNil := ⟨_, pa_nil, fun B σ Γ H0 H Q ok w => w [] H0 H ok (Grow.refl _ _ _) (Less.refl _) .nil⟩
theorem jp_d {s : Ga → Res (Ga × D)} {r : Ga → Res (Ga × List D)} (h : JD X E e s) (hr : JP X E es ks r) (hs : starEach (e :: es) X.env = (false, eval e X.env) :: starEach es X.env := by rfl) : JP X E (e :: es) (none :: ks) (sCons s r) := by
  obtain ⟨t, p, ha⟩ := h.ex
  obtain ⟨u, q, hb⟩ := hr.ex
  refine ⟨_, pa_cons p q hs, fun B σ Γ H0 H Q ok w => ?_⟩
  show t σ H fun x H1 => u σ H1 fun xs H2 => Q (x :: xs) H2
  refine d_then ha wok_P ok w fun Γ1 x v H01 H1 w1 ok1 g1 l1 r1 => ?_
  refine p_then hb wok_P ok1 w1 fun Γ2 xs vs H02 H2 w2 ok2 g2 l2 r2 => ?_
  exact w2 _ H02 H2 ok2 (Grow.refl _ _ _) (Less.refl _) (.d (r1.m g2.ex0) r2)
def sRef (i : Nat) (r : Ga → Res (Ga × List D)) : Ga → Res (Ga × List D) := fun Γ => (refSl Γ i).bind fun _ => r Γ
theorem jp_ref {i : Nat} {r : Ga → Res (Ga × List D)} (p : PE X e (tVar i)) (hr : JP X E es ks r) (hs : starEach (e :: es) X.env = (false, eval e X.env) :: starEach es X.env := by rfl) : JP X E (e :: es) (some i :: ks) (sRef i r) := by
  obtain ⟨u, q, hb⟩ := hr.ex
  refine ⟨_, pa_cons p q hs, fun B σ Γ H0 H Q ok w => ?_⟩
  unfold sRef at w
  have key : ∀ v, σ[i]? = some (some v) → PW' X B E σ (some i :: ks) Γ H0 H (r Γ) Q → tCons (tVar i) u σ H Q := fun v ev w => ⟨v, ev, by
    show u σ H fun xs H2 => Q (v :: xs) H2
    refine hb B σ Γ H0 H _ ok ?_
    cases hr : r Γ with
    | stuck => rw [hr] at w; exact w
    | exc c x => rw [hr] at w; exact w
    | ok p => rw [hr] at w; exact fun vs H0' H' o' g' l' r' => w _ H0' H' o' g' l' (.ref ev r')⟩
  unfold refSl at w
  split at w
  · rename_i b xs hx
    obtain ⟨a, vs, q1, _⟩ := ok.own i _ _ hx
    exact key _ q1 w
  · rename_i ns hx
    obtain ⟨a, q1, _⟩ := ok.scr i _ hx
    exact key _ q1 w
  · exact w.elim
end

section
variable {K : PySem.W.Frag} {B : Bg} {σ : L2.St} {Γ : Ga} {H0 H : Hp} {vs : List V} {ks : List (Option Nat)} {xs : List D} {Γa : Ga}
omit [Tbl] in
theorem arg_get (r : ArgR K H0 σ vs ks xs) (h : argSl Γ ks xs = .ok Γa) : ∀ (j : Nat) s, Γa[j]? = some s → ∃ v, vs[j]? = some v ∧ ((∃ x, s = .d x ∧ Rp K H0 v x ∧ ks[j]? = some none) ∨ ∃ i, ks[j]? = some (some i) ∧ σ[i]? = some (some v) ∧ refSl Γ i = .ok s) := by
  induction r generalizing Γa with
  | nil => cases h; intro j s hj; simp at hj
  | @d v vs ks x xs rx _ ih =>
    unfold argSl at h
    cases hr : argSl Γ ks xs with
    | stuck => rw [hr] at h; cases h
    | exc _ _ => rw [hr] at h; cases h
    | ok r =>
      rw [hr] at h; cases h
      intro j s hj
      cases j with
      | zero => simp at hj; subst hj; exact ⟨v, rfl, .inl ⟨x, rfl, rx, rfl⟩⟩
      | succ j => exact ih hr j s (by simpa using hj)
  | @ref v vs i ks xs rx _ ih =>
    unfold argSl at h
    cases hi : refSl Γ i with
    | stuck => rw [hi] at h; cases h
    | exc _ _ => rw [hi] at h; cases h
    | ok s0 =>
      rw [hi] at h
      cases hr : argSl Γ ks xs with
      | stuck => simp only [bind_ok, hr] at h; cases h
      | exc _ _ => simp only [bind_ok, hr] at h; cases h
      | ok r =>
        simp only [bind_ok, hr] at h; cases h
        intro j s hj
        cases j with
        | zero => simp at hj; subst hj; exact ⟨v, rfl, .inr ⟨i, rfl, rx, hi⟩⟩
        | succ j => exact ih hr j s (by simpa using hj)
omit [Tbl] in
theorem arg_len (r : ArgR K H0 σ vs ks xs) (h : argSl Γ ks xs = .ok Γa) : Γa.length = vs.length ∧ vs.length = ks.length := by
  induction r generalizing Γa with
  | nil => cases h; exact ⟨rfl, rfl⟩
  | @d v vs ks x xs rx _ ih =>
    unfold argSl at h
    cases hr : argSl Γ ks xs with
    | stuck => rw [hr] at h; cases h
    | exc _ _ => rw [hr] at h; cases h
    | ok r => rw [hr] at h; cases h; simp [ih hr]
  | @ref v vs i ks xs rx _ ih =>
    unfold argSl at h
    cases hi : refSl Γ i with
    | stuck => rw [hi] at h; cases h
    | exc _ _ => rw [hi] at h; cases h
    | ok s0 =>
      rw [hi] at h
      cases hr : argSl Γ ks xs with
      | stuck => simp only [bind_ok, hr] at h; cases h
      | exc _ _ => simp only [bind_ok, hr] at h; cases h
      | ok r => simp only [bind_ok, hr] at h; cases h; simp [ih hr]
omit [Tbl] in
theorem refSl_own {i : Nat} {b : Ow} {ys : List D} (h : refSl Γ i = .ok (.own b ys)) : b = .b true ∧ ∃ c : Bool, Γ[i]? = some (.own (.b c) ys) := by
  unfold refSl at h
  split at h
  · cases h; exact ⟨rfl, _, by assumption⟩
  · cases h
  · cases h
omit [Tbl] in
theorem refs_apart : ∀ {ks : List (Option Nat)} {j k i : Nat}, (ks.filterMap id).Nodup → ks[j]? = some (some i) → ks[k]? = some (some i) → j = k
  | [], j, _, _, _, h, _ => by simp at h
  | none :: ks, j, k, i, nd, h1, h2 => by
    cases j with
    | zero => simp at h1
    | succ j =>
      cases k with
      | zero => simp at h2
      | succ k => exact congrArg (· + 1) (refs_apart (ks := ks) (i := i) (by simpa using nd) (by simpa using h1) (by simpa using h2))
  | some m :: ks, j, k, i, nd, h1, h2 => by
    have nd' : (m :: ks.filterMap id).Nodup := by simpa using nd
    have hm := (List.nodup_cons.mp nd').1
    cases j with
    | zero =>
      cases k with
      | zero => rfl
      | succ k =>
        simp at h1 h2; subst h1
        exact absurd (List.mem_filterMap (f := id).mpr ⟨some m, List.mem_of_getElem? h2, rfl⟩) hm
    | succ j =>
      cases k with
      | zero =>
        simp at h1 h2; subst h2
        exact absurd (List.mem_filterMap (f := id).mpr ⟨some m, List.mem_of_getElem? h1, rfl⟩) hm
      | succ k => exact congrArg (· + 1) (refs_apart (ks := ks) (i := i) (List.nodup_cons.mp nd').2 (by simpa using h1) (by simpa using h2))
omit [Tbl] in
theorem io_of {j : Nat} {b : Bool} {ys : List D} {a : Addr} (h : Γa[j]? = some (.own b ys)) (e : vs[j]? = some (.ref a)) : (Bof H0 H vs Γa).io j = some a := by
  show (match Γa[j]? with | some (.own _ _) => (match vs[j]? with | some (.ref a) => some a | _ => none) | _ => none) = _
  rw [h, e]
omit [Tbl] in
theorem of_io {j : Nat} {a : Addr} (h : (Bof H0 H vs Γa).io j = some a) : ∃ b ys, Γa[j]? = some (.own b ys) ∧ vs[j]? = some (.ref a) := by
  have h : (match Γa[j]? with | some (.own _ _) => (match vs[j]? with | some (.ref a) => some a | _ => none) | _ => none) = some a := h
  split at h
  · rename_i b ys hj
    split at h
    · cases h; exact ⟨b, ys, hj, by assumption⟩
    · cases h
  · cases h
theorem env_args (ok : EnvOk K B σ Γ H0 H) (r : ArgR K H0 σ vs ks xs) (h : argSl Γ ks xs = .ok Γa) (nd : (ks.filterMap id).Nodup) : EnvOk K (Bof H0 H vs Γa) (vs.map some) Γa H0 H where
  sub := ok.sub
  len := by rw [List.length_map]; exact (arg_len r h).1
  dat := fun j x hj => by
    obtain ⟨v, e1, q⟩ := arg_get r h j _ hj
    refine ⟨v, by simp [e1], ?_⟩
    rcases q with ⟨y, e, rx, _⟩ | ⟨i, _, _, e⟩
    · cases e; exact rx
    · unfold refSl at e; split at e <;> cases e
  scr := fun j ns hj => by
    obtain ⟨v, e1, q⟩ := arg_get r h j _ hj
    rcases q with ⟨y, e, rx, _⟩ | ⟨i, _, es, e⟩
    · cases e
    · unfold refSl at e
      split at e
      · cases e
      · rename_i ms hm
        cases e
        obtain ⟨a, e3, r3⟩ := ok.scr i _ hm
        rw [es] at e3; cases e3
        exact ⟨a, by simp [e1], r3⟩
      · cases e
  own := fun j b ys hj => by
    obtain ⟨v, e1, q⟩ := arg_get r h j _ hj
    rcases q with ⟨y, e, rx, _⟩ | ⟨i, _, es, e⟩
    · cases e
    · obtain ⟨rfl, c, hc⟩ := refSl_own e
      obtain ⟨a, us, q1, q2, q3, q4, _⟩ := ok.own i _ _ hc
      rw [es] at q1; cases q1
      exact ⟨a, us, by simp [e1], q2, q3, q4, fun _ => io_of hj e1, fun z => nomatch z⟩
  apart := fun j k b c ys zs a hjk h1 h2 => by
    obtain ⟨v, e1, q⟩ := arg_get r h j _ h1
    obtain ⟨v', e1', q'⟩ := arg_get r h k _ h2
    rcases q with ⟨y, e, _⟩ | ⟨i, ki, es, e⟩
    · cases e
    · rcases q' with ⟨y, e', _⟩ | ⟨i', ki', es', e'⟩
      · cases e'
      · obtain ⟨_, d, hd⟩ := refSl_own e
        obtain ⟨_, d', hd'⟩ := refSl_own e'
        have ne : i ≠ i' := fun z => hjk (refs_apart nd ki (by rw [z]; exact ki'))
        intro z1 z2
        simp [e1] at z1
        simp [e1'] at z2
        subst z1 z2
        exact ok.apart i i' _ _ _ _ a ne hd hd' es es'
  grow := Grow.refl _ _ _
  tabs := ok.tabs
  past := ok.past
  cl := fun j hj => by
    obtain ⟨v, e1, q⟩ := arg_get r h j _ hj
    rcases q with ⟨y, e, _⟩ | ⟨i, _, _, e⟩
    · cases e
    · unfold refSl at e; split at e <;> cases e
omit [Tbl] in
theorem refAt_some : ∀ {ks : List (Option Nat)} {os : Ga} {i : Nat} {ys : List D}, refAt ks os i = some ys → ∃ (j : Nat), ks[j]? = some (some i) ∧ os[j]? = some (Sl.own true ys)
  | [], _, _, _, h => by simp [refAt] at h
  | _ :: _, [], _, _, h => by simp [refAt] at h
  | none :: ks, o :: os, i, ys, h => by
    have h : refAt ks os i = some ys := by simpa [refAt] using h
    obtain ⟨j, h1, h2⟩ := refAt_some h
    exact ⟨j + 1, by simpa using h1, by simpa using h2⟩
  | some m :: ks, o :: os, i, ys, h => by
    have go : refAt ks os i = some ys → ∃ (j : Nat), (some m :: ks)[j]? = some (some i) ∧ (o :: os)[j]? = some (Sl.own true ys) := fun h => by
      obtain ⟨j, h1, h2⟩ := refAt_some h
      exact ⟨j + 1, by simpa using h1, by simpa using h2⟩
    cases o with
    | un => exact go (by simpa [refAt] using h)
    | d _ => exact go (by simpa [refAt] using h)
    | scr _ => exact go (by simpa [refAt] using h)
    | cl => exact go (by simpa [refAt] using h)
    | own b zs =>
      cases b with
      | o k t => exact go (by simpa [refAt] using h)
      | b k =>
        cases k with
        | false => exact go (by simpa [refAt] using h)
        | true =>
          unfold refAt at h
          split at h
          · rename_i e; cases h; subst e; exact ⟨0, rfl, rfl⟩
          · exact go h
omit [Tbl] in
theorem refAt_none : ∀ {ks : List (Option Nat)} {os : Ga} {i j : Nat} {ys : List D}, refAt ks os i = none → ks[j]? = some (some i) → os[j]? ≠ some (.own true ys)
  | [], _, _, j, _, _, h1 => by simp at h1
  | _ :: _, [], _, j, _, _, _ => by simp
  | none :: ks, o :: os, i, j, ys, h, h1 => by
    have h : refAt ks os i = none := by simpa [refAt] using h
    cases j with
    | zero => simp at h1
    | succ j => simpa using refAt_none h (by simpa using h1)
  | some m :: ks, o :: os, i, j, ys, h, h1 => by
    cases j with
    | zero =>
      simp at h1; subst h1
      intro z
      simp at z; subst z
      simp [refAt] at h
    | succ j =>
      have : refAt ks os i = none := by
        cases o with
        | un => simpa [refAt] using h
        | d _ => simpa [refAt] using h
        | scr _ => simpa [refAt] using h
        | cl => simpa [refAt] using h
        | own b zs =>
          cases b with
          | o k t => simpa [refAt] using h
          | b k =>
            cases k with
            | false => simpa [refAt] using h
            | true =>
              unfold refAt at h
              split at h
              · cases h
              · exact h
      simpa using refAt_none this (by simpa using h1)
omit [Tbl] in
theorem putBack_get {os : Ga} {i : Nat} {s : Sl} (h : (putBack Γ ks os)[i]? = some s) : ∃ s0, Γ[i]? = some s0 ∧ s = putB ks os i s0 := by
  unfold putBack at h
  rw [List.getElem?_mapIdx] at h
  obtain ⟨s0, h1, h2⟩ := Option.map_eq_some_iff.mp h
  exact ⟨s0, h1, h2.symm⟩
theorem env_back {Γo : Ga} {H0' H' : Hp} (ok : EnvOk K B σ Γ H0 H) (r : ArgR K H0 σ vs ks xs) (h : argSl Γ ks xs = .ok Γa) (nd : (ks.filterMap id).Nodup) (ok' : EnvOk K (Bof H0 H vs Γa) (vs.map some) Γo H0' H') (sh : Shape Γa Γo) :
    EnvOk K B σ (putBack Γ ks Γo) H0' H' ∧ Grow (OwnOf σ Γ) H0 H H0' H' ∧ Less Γ (putBack Γ ks Γo) := by
  have g : Grow (OwnOf σ Γ) H0 H H0' H' := ok'.grow.wide fun p ⟨j, hj⟩ => by
    obtain ⟨b, ys, h1, h2⟩ := of_io hj
    obtain ⟨v, e1, q⟩ := arg_get r h j _ h1
    rw [h2] at e1; cases e1
    rcases q with ⟨y, e, _⟩ | ⟨i, _, es, e⟩
    · cases e
    · obtain ⟨_, c, hc⟩ := refSl_own e
      exact ⟨i, c, ys, hc, es⟩
  refine ⟨ok.step g ok'.sub (fun i x hi => ?_) (fun i ns hi => ?_) (fun i b ys hi => ?_) (by simp [putBack]) (fun i hi => by
    obtain ⟨s0, h1, h2⟩ := putBack_get hi
    cases s0 <;> simp [putB] at h2
    exact h1), g, fun i b ys hi => ?_⟩
  · obtain ⟨s0, h1, h2⟩ := putBack_get hi
    cases s0 <;> simp [putB] at h2
    subst h2; exact .inl h1
  · obtain ⟨s0, h1, h2⟩ := putBack_get hi
    cases s0 <;> simp [putB] at h2
    subst h2; exact h1
  · obtain ⟨s0, h1, h2⟩ := putBack_get hi
    cases s0 with
    | un => simp [putB] at h2
    | d _ => simp [putB] at h2
    | scr _ => simp [putB] at h2
    | cl => simp [putB] at h2
    | own c zs =>
      simp only [putB, Sl.own.injEq] at h2
      obtain ⟨rfl, h2⟩ := h2
      refine ⟨zs, h1, fun a ea => ?_⟩
      obtain ⟨a', us, q1, q2, q3, q4, _⟩ := ok.own i _ _ h1
      rw [ea] at q1; cases q1
      cases hr : refAt ks Γo i with
      | some ws =>
        rw [hr] at h2
        simp at h2; subst h2
        obtain ⟨j, k1, k2⟩ := refAt_some hr
        obtain ⟨p, vs', p1, p2, p3, p4, p5, _⟩ := ok'.own j _ _ k2
        obtain ⟨b', ys', z1, z2⟩ := of_io (p5 rfl)
        obtain ⟨v, e1, q⟩ := arg_get r h j _ z1
        rw [z2] at e1; cases e1
        rcases q with ⟨y, e, _⟩ | ⟨i', ki, es, e⟩
        · cases e
        · rw [k1] at ki; cases ki
          rw [ea] at es; cases es
          obtain ⟨_, c', hc'⟩ := refSl_own e
          rw [h1] at hc'; cases hc'
          exact ⟨p2, vs', p3, p4⟩
      | none =>
        rw [hr] at h2
        simp at h2; subst h2
        have no : ¬ ∃ j, (Bof H0 H vs Γa).io j = some a := fun ⟨j, hj⟩ => by
          obtain ⟨b', ys', z1, z2⟩ := of_io hj
          obtain ⟨v, e1, q⟩ := arg_get r h j _ z1
          rw [z2] at e1; cases e1
          rcases q with ⟨y, e, _⟩ | ⟨i', ki, es, e⟩
          · cases e
          · obtain ⟨rfl, c, hc⟩ := refSl_own e
            by_cases hii : i' = i
            · subst hii
              obtain ⟨ws, hw⟩ := sh j _ _ z1
              exact refAt_none hr ki hw
            · exact ok.apart i' i _ _ _ _ a hii hc h1 es ea
        exact ⟨by rw [ok'.grow.old a (by show H a ≠ none; rw [q3]; simp) no]; exact q2, us, ok'.grow.keep a _ q3 no q4.notbl, q4.m g.ex0⟩
  · obtain ⟨s0, h1, h2⟩ := putBack_get hi
    cases s0 with
    | un => simp [putB] at h2
    | d _ => simp [putB] at h2
    | scr _ => simp [putB] at h2
    | cl => simp [putB] at h2
    | own c zs =>
      simp only [putB, Sl.own.injEq] at h2
      obtain ⟨rfl, h2⟩ := h2
      exact ⟨zs, h1⟩
end
def callS (m : Ga → Res (Ga × R)) (ks : List (Option Nat)) (s : Ga → Res (Ga × List D)) : Ga → Res (Ga × R) := fun Γ => (s Γ).bind fun p => (argSl p.1 ks p.2).bind fun Γa => (m Γa).bind fun q => .ok (putBack p.1 ks q.1, q.2)
section
variable {X : Cx} {E : XK} {k : Nat} {f : Addr} {fd : FuncData} {ps : List Str} {m : Ga → Res (Ga × R)} {x : Str} {p pos : Pos} {e : Expr} {es : List Expr} {ks : List (Option Nat)} {s : Ga → Res (Ga × List D)}
theorem call_sound {t : TA} (sh : ∀ Γ Γ' r, m Γ = .ok (Γ', r) → Shape Γ Γ') (nd : (ks.filterMap id).Nodup) (hl : ks.length = ps.length) (ha : ∀ B σ Γ H0 H Q, EnvOk X.K B σ Γ H0 H → PW' X B E σ ks Γ H0 H (s Γ) Q → t σ H Q) :
    ∀ B σ Γ H0 H Q, EnvOk X.K B σ Γ H0 H → EW X B E σ Γ H0 H (callS m ks s Γ) Q → t σ H (fun vs H1 => spD X.K X.mg ps.length m vs H1 Q E) := fun B σ Γ H0 H Q ok w => by
  refine p_then ha wok_E ok w fun Γ1 xs vs H01 H1 w1 ok1 g1 l1 r1 => ?_
  cases hA : argSl Γ1 ks xs with
  | stuck => simp only [hA] at w1; exact w1.elim
  | exc c y =>
    exfalso
    have none_exc : ∀ (ks : List (Option Nat)) (xs : List D) c y, argSl Γ1 ks xs ≠ .exc c y := by
      intro ks
      induction ks with
      | nil => intro xs c y h; cases xs <;> cases h
      | cons a ks ih =>
        intro xs c y h
        cases a with
        | none =>
          cases xs with
          | nil => cases h
          | cons z zs =>
            unfold argSl at h
            cases hr : argSl Γ1 ks zs with
            | stuck => rw [hr] at h; cases h
            | exc _ _ => exact ih _ _ _ hr
            | ok _ => rw [hr] at h; cases h
        | some i =>
          unfold argSl at h
          cases hi : refSl Γ1 i with
          | stuck => rw [hi] at h; cases h
          | exc _ _ => unfold refSl at hi; split at hi <;> cases hi
          | ok s0 =>
            rw [hi] at h
            cases hr : argSl Γ1 ks xs with
            | stuck => simp only [bind_ok, hr] at h; cases h
            | exc _ _ => exact ih _ _ _ hr
            | ok _ => simp only [bind_ok, hr] at h; cases h
    exact none_exc _ _ _ _ hA
  | ok Γa =>
    simp only [hA, bind_ok] at w1
    refine ⟨by rw [(arg_len r1 hA).2, hl], H01, Γa, env_args ok1 r1 hA nd, ?_⟩
    cases hm : m Γa with
    | stuck => rw [hm] at w1; exact w1.elim
    | exc c y =>
      rw [hm] at w1
      exact fun C d v H0' H' h1 h2 h3 h4 h5 => w1 C d v H0' H' h1 h2 h3 h4 (ok1.grow.trans h5 fun p ⟨j, hj⟩ => by
        obtain ⟨b, ys, z1, z2⟩ := of_io hj
        obtain ⟨v, e1, q⟩ := arg_get r1 hA j _ z1
        rw [z2] at e1; cases e1
        rcases q with ⟨y, e, _⟩ | ⟨i, _, es, e⟩
        · cases e
        · obtain ⟨_, c, hc⟩ := refSl_own e
          exact ok1.ioOr ⟨i, c, ys, hc, es⟩)
    | ok q =>
      obtain ⟨Γo, z⟩ := q
      rw [hm] at w1
      intro v H0' H' ok' rv
      obtain ⟨b1, b2, b3⟩ := env_back ok1 r1 hA nd ok' (sh _ _ _ hm)
      exact w1 v H0' H' b1 b2 b3 rv
theorem je_call (F : FD X.prog X.w X.K X.mg X.base k f fd ps m) (hr : Room k X.A) (hq : X.A.guards = some []) (hg : Gl X x) (hm : X.mg x = some (.ref f)) (hk : PySem.W.keepIn X.K (.ref f) = true) (hb : Binds X.K fd ps []) (tk : Takes X fun cls d _ H => E cls d H) (ha : JP X E (e :: es) ks s) (nd : (ks.filterMap id).Nodup) (hl : ks.length = ps.length)
    (hdb : (x == ("__debug__" : Str)) = false := by decide) (he : starEach (e :: es) X.env = (false, eval e X.env) :: starEach es X.env := by rfl) (hpl : (backTo pos (starEach es X.env)).any (·.1) = false := by rfl) :
    JE X E (.Call (.Name x p) (e :: es) [] pos) (callS m ks s) := by
  obtain ⟨t, pp, hs⟩ := ha.ex
  exact ⟨_, pe_G F.ok hr hq hg hm hk hb tk pp hdb he hpl, call_sound F.shape nd hl hs⟩
end

def outs : Ga → Ga → Res Ga
  | [], _ => .ok []
  | .own true _ :: r, .own true ys :: q => (outs r q).bind fun z => .ok (.own true ys :: z)
  | .own _ _ :: _, _ => .stuck
  | s :: r, _ :: q => (outs r q).bind fun z => .ok (s :: z)
  | _ :: _, [] => .stuck
def endF (Γ : Ga) (p : Ga × Fl) : Res (Ga × R) := match p.2 with
  | .nx => (outs Γ p.1).bind fun z => .ok (z, .d .none)
  | .rt r => (outs Γ p.1).bind fun z => .ok (z, r)
  | _ => .stuck
def defS (n l : Nat) (body : Ga → Res (Ga × Fl)) : Ga → Res (Ga × R) := fun Γ => if Γ.length = n then (body (Γ ++ List.replicate l .un)).bind (endF Γ) else .stuck
omit [Tbl] in
theorem outs_ok : ∀ {Γ Γ1 Γ' : Ga}, outs Γ Γ1 = .ok Γ' → Γ'.length = Γ.length ∧ ∀ (i : Nat) s, Γ'[i]? = some s → (Γ[i]? = some s ∧ ∀ b xs, s ≠ .own b xs) ∨ ∃ xs ys, s = .own true ys ∧ Γ[i]? = some (.own true xs) ∧ Γ1[i]? = some (.own true ys)
  | [], _, _, h => by cases h; exact ⟨rfl, fun i s h => by simp at h⟩
  | s0 :: r, [], _, h => by cases s0 with
    | own b _ => rcases b with k | ⟨k, t⟩ <;> (try cases k) <;> cases h
    | _ => cases h
  | s0 :: r, s1 :: q, Γ', h => by
    have go : ∀ {s2 : Sl}, (outs r q).bind (fun z => .ok (s2 :: z)) = .ok Γ' → ((s0 = s2 ∧ ∀ b xs, s2 ≠ .own b xs) ∨ ∃ xs ys, s2 = .own true ys ∧ s0 = .own true xs ∧ s1 = .own true ys) →
        Γ'.length = (s0 :: r).length ∧ ∀ (i : Nat) s, Γ'[i]? = some s → ((s0 :: r)[i]? = some s ∧ ∀ b xs, s ≠ .own b xs) ∨ ∃ xs ys, s = .own true ys ∧ (s0 :: r)[i]? = some (.own true xs) ∧ (s1 :: q)[i]? = some (.own true ys) := fun {s2} h hd => by
      cases hz : outs r q with
      | stuck => rw [hz] at h; cases h
      | exc _ _ => rw [hz] at h; cases h
      | ok z =>
        rw [hz] at h; cases h
        obtain ⟨hl, ih⟩ := outs_ok hz
        refine ⟨by simp [hl], fun i s hi => ?_⟩
        cases i with
        | zero =>
          simp at hi; subst hi
          rcases hd with ⟨e, n⟩ | ⟨xs, ys, e1, e2, e3⟩
          · exact .inl ⟨by simp [e], n⟩
          · exact .inr ⟨xs, ys, e1, by simp [e2], by simp [e3]⟩
        | succ i =>
          rcases ih i s (by simpa using hi) with ⟨e, n⟩ | ⟨xs, ys, e1, e2, e3⟩
          · exact .inl ⟨by simpa using e, n⟩
          · exact .inr ⟨xs, ys, e1, by simpa using e2, by simpa using e3⟩
    cases s0 with
    | un => exact go (s2 := .un) h (.inl ⟨rfl, fun _ _ z => nomatch z⟩)
    | d x => exact go (s2 := .d x) h (.inl ⟨rfl, fun _ _ z => nomatch z⟩)
    | scr x => exact go (s2 := .scr x) h (.inl ⟨rfl, fun _ _ z => nomatch z⟩)
    | cl => exact go (s2 := .cl) h (.inl ⟨rfl, fun _ _ z => nomatch z⟩)
    | own b xs =>
      cases b with
      | o k t => cases s1 <;> cases h
      | b k =>
        cases k with
        | false => cases s1 <;> cases h
        | true =>
          cases s1 with
          | own c ys =>
            cases c with
            | o k t => cases h
            | b k =>
              cases k with
              | true => exact go (s2 := .own true ys) h (.inr ⟨xs, ys, rfl, rfl, rfl⟩)
              | false => cases h
          | _ => cases h
omit [Tbl] in
theorem outs_shape {Γ Γ1 Γ' : Ga} (h : outs Γ Γ1 = .ok Γ') (n : ∀ (i : Nat) xs, Γ[i]? ≠ some (.own false xs)) : Shape Γ Γ' := fun k b xs hk => by
  obtain ⟨hl, ho⟩ := outs_ok h
  have hk' : k < Γ'.length := by rw [hl]; exact (List.getElem?_eq_some_iff.mp hk).1
  rcases ho k _ (List.getElem?_eq_getElem hk') with ⟨e, z⟩ | ⟨xs', ys, e1, e2, e3⟩
  · rw [hk] at e
    exact absurd (Option.some.inj e).symm (z b xs)
  · rw [hk] at e2; cases e2
    exact ⟨ys, by rw [List.getElem?_eq_getElem hk', e1]⟩
omit [Tbl] in
theorem outs_nofalse : ∀ {Γ Γ1 Γ' : Ga}, outs Γ Γ1 = .ok Γ' → ∀ (i : Nat) xs, Γ[i]? ≠ some (.own false xs)
  | [], _, _, _, i, xs, h => by simp at h
  | s0 :: r, [], _, h, _, _, _ => by cases s0 with
    | own b _ => rcases b with k | ⟨k, t⟩ <;> (try cases k) <;> cases h
    | _ => cases h
  | s0 :: r, s1 :: q, Γ', h, i, xs, hi => by
    have go : ∀ {s2 : Sl}, (outs r q).bind (fun z => .ok (s2 :: z)) = .ok Γ' → (∀ xs, s0 ≠ .own false xs) → False := fun {s2} h hd => by
      cases hz : outs r q with
      | stuck => rw [hz] at h; cases h
      | exc _ _ => rw [hz] at h; cases h
      | ok z =>
        cases i with
        | zero => simp at hi; exact hd xs hi
        | succ i => exact outs_nofalse hz i xs (by simpa using hi)
    cases s0 with
    | un => exact go (s2 := .un) h (fun _ z => nomatch z)
    | d x => exact go (s2 := .d x) h (fun _ z => nomatch z)
    | scr x => exact go (s2 := .scr x) h (fun _ z => nomatch z)
    | cl => exact go (s2 := .cl) h (fun _ z => nomatch z)
    | own b ys =>
      cases b with
      | o k t => cases s1 <;> cases h
      | b k =>
        cases k with
        | false => cases s1 <;> cases h
        | true =>
          cases s1 with
          | own c ys =>
            cases c with
            | o k t => cases h
            | b k =>
              cases k with
              | true => exact go (s2 := .own true ys) h (fun _ z => nomatch z)
              | false => cases h
          | _ => cases h
omit [Tbl] in
theorem defS_shape {n l : Nat} {body : Ga → Res (Ga × Fl)} (Γ Γ' : Ga) (r : R) (h : defS n l body Γ = .ok (Γ', r)) : Shape Γ Γ' := by
  unfold defS at h
  split at h
  · cases hb : body (Γ ++ List.replicate l .un) with
    | stuck => rw [hb] at h; cases h
    | exc _ _ => rw [hb] at h; cases h
    | ok p =>
      obtain ⟨Γ1, fl⟩ := p
      rw [hb] at h
      have go : ∀ {r'}, (outs Γ Γ1).bind (fun z => .ok (z, r')) = .ok (Γ', r) → Shape Γ Γ' := fun {r'} h => by
        cases hz : outs Γ Γ1 with
        | stuck => rw [hz] at h; cases h
        | exc _ _ => rw [hz] at h; cases h
        | ok z => rw [hz] at h; cases h; exact outs_shape hz (outs_nofalse hz)
      cases fl with
      | nx => exact go h
      | rt _ => exact go h
      | bk => cases h
      | ct => cases h
  · cases h
section
variable {P : Program} {w : World} {K : PySem.W.Frag} {mg : Str → Option Value} {base : Heap}
theorem body_ok1 {qual : Str} {st : Stmt} {f : Addr} {N ps : List Str} {body : Ga → Res (Ga × Fl)} (S : FnScope N ps (defScope st)) (cdv : Value) (A : Around) (outer : List Env) (s : Shared) (H : Hp) (vs : List V) (Q : VK) (E : XK)
    (hbody : JSs (cxOf (L2.CX P w) P w K mg base N qual (defScope st) f cdv A outer s H E) E (defBody st) body)
    (h : spD K mg ps.length (defS ps.length (N.length - ps.length) body) vs H Q E) : ∃ t, PSs (cxOf (L2.CX P w) P w K mg base N qual (defScope st) f cdv A outer s H E) (defBody st) t ∧ t { nx := fun _ H' => Q .non H', rt := Q } (L2.start N vs) H := by
  obtain ⟨t, p, hs⟩ := hbody.ex
  obtain ⟨hlen, H0, Γ, ok, w⟩ := h
  refine ⟨t, p, ?_⟩
  have hG : Γ.length = vs.length := by rw [ok.len, List.length_map]
  have hpl : ps.length ≤ N.length := by have := congrArg List.length S.pre; rw [List.length_take] at this; omega
  have hst : L2.start N vs = vs.map some ++ List.replicate (N.length - ps.length) none := by unfold L2.start; rw [hlen]
  have back : ∀ {Γ2 : Ga} {i : Nat} {s : Sl}, (Γ2 ++ List.replicate (N.length - ps.length) Sl.un)[i]? = some s → (i < Γ2.length ∧ Γ2[i]? = some s) ∨ s = .un := fun {Γ2 i s} h => by
    by_cases hi : i < Γ2.length
    · rw [List.getElem?_append_left hi] at h; exact .inl ⟨hi, h⟩
    · rw [List.getElem?_append_right (by omega), List.getElem?_replicate] at h
      split at h <;> cases h
      exact .inr rfl
  have fw : ∀ {i : Nat} {v : V}, i < Γ.length → (vs.map some)[i]? = some (some v) → (L2.start N vs)[i]? = some (some v) := fun {i v} hi e => by
    rw [hst, List.getElem?_append_left (by simpa [← hG] using hi)]; exact e
  have bk : ∀ {i : Nat} {v : V}, i < Γ.length → (L2.start N vs)[i]? = some (some v) → (vs.map some)[i]? = some (some v) := fun {i v} hi e => by
    rw [hst, List.getElem?_append_left (by simpa [← hG] using hi)] at e; exact e
  have ok1 : EnvOk K (Bof H0 H vs Γ) (L2.start N vs) (Γ ++ List.replicate (N.length - ps.length) Sl.un) H0 H := by
    refine ⟨ok.sub, by rw [hst]; simp [hG], fun i x h => ?_, fun i x h => ?_, fun i b x h => ?_, fun i j b c xs ys a hij h1 h2 => ?_, ok.grow, ok.tabs, ok.past, fun i h => (by
      rcases back h with ⟨hi, h⟩ | h
      · exact fw hi (ok.cl i h)
      · cases h)⟩
    · rcases back h with ⟨hi, h⟩ | h
      · obtain ⟨v, e, r⟩ := ok.dat i x h
        exact ⟨v, fw hi e, r⟩
      · cases h
    · rcases back h with ⟨hi, h⟩ | h
      · obtain ⟨v, e, r⟩ := ok.scr i x h
        exact ⟨v, fw hi e, r⟩
      · cases h
    · rcases back h with ⟨hi, h⟩ | h
      · obtain ⟨a, us, e, r⟩ := ok.own i b x h
        exact ⟨a, us, fw hi e, r⟩
      · cases h
    · rcases back h1 with ⟨hi, h1⟩ | h
      · rcases back h2 with ⟨hj, h2⟩ | h
        · exact fun z1 z2 => ok.apart i j b c xs ys a hij h1 h2 (bk hi z1) (bk hj z2)
        · cases h
      · cases h
  refine hs (Bof H0 H vs Γ) _ _ H0 H _ ok1 ?_
  have w : FW K mg H0 H vs Γ E (defS ps.length (N.length - ps.length) body Γ) Q := w
  unfold defS at w
  rw [if_pos (by rw [hG, hlen])] at w
  cases hb : body (Γ ++ List.replicate (N.length - ps.length) .un) with
  | stuck => rw [hb] at w; exact w.elim
  | exc c y => rw [hb] at w; exact w
  | ok q =>
    obtain ⟨Γ1, fl⟩ := q
    rw [hb] at w
    have fin : ∀ {r : R} {σ1 : L2.St} {H01 H1 : Hp} {v : V}, FW K mg H0 H vs Γ E ((outs Γ Γ1).bind fun z => .ok (z, r)) Q → EnvOk K (Bof H0 H vs Γ) σ1 Γ1 H01 H1 → Ex H0 H01 → RVB K (Bof H0 H vs Γ) H01 H1 r v → Q v H1 := fun {r σ1 H01 H1 v} w o1 e1 rv => by
      cases hz : outs Γ Γ1 with
      | stuck => rw [hz] at w; exact w.elim
      | exc c y =>
        exfalso
        have : ∀ (Γ Γ1 : Ga) c y, outs Γ Γ1 ≠ .exc c y := by
          intro Γ
          induction Γ with
          | nil => intro Γ1 c y h; cases h
          | cons s0 r ih =>
            intro Γ1 c y h
            cases Γ1 with
            | nil => cases s0 with
              | own b _ => rcases b with k | ⟨k, t⟩ <;> (try cases k) <;> cases h
              | _ => cases h
            | cons s1 q =>
              have go : ∀ {s2 : Sl}, (outs r q).bind (fun z => .ok (s2 :: z)) = .exc c y → False := fun {s2} h => by
                cases hz : outs r q with
                | stuck => rw [hz] at h; cases h
                | exc _ _ => exact ih _ _ _ hz
                | ok _ => rw [hz] at h; cases h
              cases s0 with
              | un => exact go (s2 := .un) h
              | d x => exact go (s2 := .d x) h
              | scr x => exact go (s2 := .scr x) h
              | cl => exact go (s2 := .cl) h
              | own b xs =>
                cases b with
                | o k t => cases s1 <;> cases h
                | b k =>
                  cases k with
                  | false => cases s1 <;> cases h
                  | true =>
                    cases s1 with
                    | own c ys =>
                      cases c with
                      | o k t => cases h
                      | b k =>
                        cases k with
                        | true => exact go (s2 := .own true ys) h
                        | false => cases h
                    | _ => cases h
        exact this _ _ _ _ hz
      | ok Γ' =>
        rw [hz] at w
        obtain ⟨hl', ho⟩ := outs_ok hz
        refine w v H01 H1 ?_ ?_
        · refine ⟨o1.sub, by rw [hl', hG, List.length_map], fun i x h => ?_, fun i x h => ?_, fun i b x h => ?_, fun i j b c xs ys a hij h1 h2 => ?_, o1.grow, o1.tabs, o1.past, fun i h => (by
            rcases ho i _ h with ⟨e, _⟩ | ⟨xs, ys, e1, _⟩
            · exact ok.cl i e
            · cases e1)⟩
          · rcases ho i _ h with ⟨e, _⟩ | ⟨xs, ys, e1, _⟩
            · obtain ⟨v, e2, r2⟩ := ok.dat i x e
              exact ⟨v, e2, r2.m e1⟩
            · cases e1
          · rcases ho i _ h with ⟨e, _⟩ | ⟨xs, ys, e1, _⟩
            · obtain ⟨v, e2, r2⟩ := ok.scr i x e
              exact ⟨v, e2, ex_l e1 r2⟩
            · cases e1
          · rcases ho i _ h with ⟨e, n⟩ | ⟨xs, ys, e1, e2, e3⟩
            · exact absurd rfl (n b x)
            · cases e1
              obtain ⟨a, us, q1, q2, q3, q4, q5, q6⟩ := o1.own i _ _ e3
              obtain ⟨b', ys', z1, z2⟩ := of_io (q5 rfl)
              exact ⟨a, us, by simp [z2], q2, q3, q4, q5, q6⟩
          · rcases ho i _ h1 with ⟨e, n⟩ | ⟨xs', ys', e1, e2, e3⟩
            · exact absurd rfl (n b xs)
            · rcases ho j _ h2 with ⟨e, n⟩ | ⟨xs'', ys'', e1', e2', e3'⟩
              · exact absurd rfl (n c ys)
              · exact ok.apart i j _ _ _ _ a hij e2 e2'
        · cases rv with
          | d r => exact .d r
          | f h1 h2 h3 h4 => exact .f h1 h2 h3 h4
    intro σ1 H01 H1 o1 e1
    cases fl with
    | nx => exact fin (r := .d .none) (v := .non) w o1 e1 (.d .non)
    | rt r => exact fun v rv => fin w o1 e1 rv
    | bk => exact w.elim
    | ct => exact w.elim
theorem fd_of {x qual : Str} {st : Stmt} {f : Addr} {fd : FuncData} {N ps : List Str} {k : Nat} {body : Ga → Res (Ga × Fl)} (F : Fun K x qual st f fd) (S : FnScope N ps (defScope st))
    (hbody : ∀ (cdv : Value) (A : Around) (outer : List Env) (s : Shared) (H : Hp) (E : XK), Room k (A.deeper (envOfC qual (defScope st) s.heap.objs.size f cdv)) → A.guards = some [] →
      JSs (cxOf (L2.CX P w) P w K mg base N qual (defScope st) f cdv A outer s H E) E (defBody st) body) : FD P w K mg base (k + 1) f fd ps (defS ps.length (N.length - ps.length) body) :=
  ⟨fnG_of F S (fun vs H Q E h => h.1) fun cdv A outer s H vs Q E hr hq h => body_ok1 S cdv A outer s H vs Q E (hbody cdv A outer s H E hr hq) h, fun Γ Γ' r h => defS_shape Γ Γ' r h⟩
end
end Mi
namespace Mi
open PySem PySem.Spec PyProof.Rows L2 Evl
variable [Tbl]

section
variable {X : Cx} {E : XK} {e a b c d : Expr} {pos pos' apos cpos : Pos} {B : Bg} {σ : L2.St} {Γ : Ga} {H0 H : Hp}
def ownAt (Γ : Ga) (i : Nat) : Option (Bool × List D) := match Γ[i]? with
  | some (.own (.b b) xs) => some (b, xs)
  | _ => none
omit [Tbl] in
theorem ownAt_eq {i : Nat} {b : Bool} {xs : List D} (h : ownAt Γ i = some (b, xs)) : Γ[i]? = some (.own b xs) := by
  unfold ownAt at h
  split at h
  · cases h; assumption
  · cases h
def sAppend (i : Nat) (s : Ga → Res (Ga × D)) : Ga → Res (Ga × R) := fun Γ => match ownAt Γ i with
  | some _ => (s Γ).bind fun p => match ownAt p.1 i with
    | some (b, xs) => if xs.length < sizeLine then .ok (p.1.set i (.own b (xs ++ [p.2])), .d .none) else .stuck
    | none => .stuck
  | none => .stuck
theorem own_same {K : PySem.W.Frag} {Γ1 : Ga} {H01 H1 : Hp} {i : Nat} {b b' : Bool} {xs ys : List D} {p : Addr} (e : σ[i]? = some (some (.ref p))) (ok1 : EnvOk K B σ Γ1 H01 H1) (h : Γ1[i]? = some (.own b' ys)) : ∃ vs, H1 p = some (.lst vs) ∧ H01 p = none ∧ RpAll K H01 vs ys := by
  obtain ⟨q, vs, q1, q2, q3, q4, _⟩ := ok1.ownL i _ _ h
  rw [e] at q1; cases q1
  exact ⟨vs, q3, q2, q4⟩
theorem je_append {i : Nat} {s : Ga → Res (Ga × D)} (hp : PE X a (tVar i)) (h : JD X E e s)
    (hbase : attributeBase a "append" X.env (eval a X.env) = eval a X.env := by rfl)
    (hfew : ((backTo cpos (starEach (e :: []) X.env)).all (fun x => !x.1) && (backToKw cpos (keywordEach [] X.env)).all (fun x => x.1.isSome)
      && decide ((e :: []).length + ([] : List Keyword).length + (if ([] : List Keyword).isEmpty then 0 else 1) < 30)) = true := by rfl)
    (hline : (apos.endLine == cpos.line) = true := by rfl) (hs : starEach (e :: []) X.env = (false, eval e X.env) :: starEach [] X.env := by rfl) (hplain : (backTo cpos (starEach [] X.env)).any (·.1) = false := by rfl) :
    JE X E (.Call (.Attribute a "append" apos) [e] [] cpos) (sAppend i s) := by
  obtain ⟨t, p, ha⟩ := h.ex
  refine ⟨_, pe_bm PySem.F.plainAttrs_list PySem.F.slot_list_append PySem.F.type_list_append mt_append hp (pa_cons p pa_nil hs) hbase hfew hline hs hplain, fun B σ Γ H0 H Q ok w => ?_⟩
  unfold sAppend at w
  split at w
  · rename_i bx hbx
    obtain ⟨b0, xs0⟩ := bx
    obtain ⟨q, us, q1, q2, q3, q4, _⟩ := ok.ownL i _ _ (ownAt_eq hbx)
    refine ⟨.ref q, q1, .inl ⟨rfl, us, SqL.of q3⟩, ?_⟩
    show t σ H fun y H2 => rAppend (.ref q) [y] H2 Q
    refine d_then ha wok_E ok w fun Γ1 x v H01 H1 w1 ok1 g1 l1 r1 => ?_
    split at w1
    · rename_i b xs hx
      split at w1
      · rename_i hz
        have hx := ownAt_eq hx
        obtain ⟨vs, h1, h2, h3⟩ := own_same (xs := xs0) (b := b0) q1 ok1 hx
        refine ⟨q, vs, v, rfl, rfl, h1, by rw [h3.len]; exact hz, ?_⟩
        exact w1 .non H01 _ (ok1.setOwn hx q1 (h3.app (.one r1))) (Grow.own hx q1 ⟨_, h1⟩) (Less.setOwn hx) (.d .non)
      · exact w1.elim
    · exact w1.elim
  · exact w.elim
def sPop (i : Nat) : Ga → Res (Ga × D) := fun Γ => match ownAt Γ i with
  | some (b, xs) => (match xs.getLast? with | some x => .ok (Γ.set i (.own b xs.dropLast), x) | none => .stuck)
  | none => .stuck
theorem jd_pop {i : Nat} (hp : PE X a (tVar i)) (hbase : attributeBase a "pop" X.env (eval a X.env) = eval a X.env := by rfl) (hline : (apos.endLine == cpos.line) = true := by rfl) :
    JD X E (.Call (.Attribute a "pop" apos) [] [] cpos) (sPop i) := by
  refine ⟨_, pe_bm0 PySem.F.plainAttrs_list PySem.F.slot_list_pop PySem.F.type_list_pop mt_pop hp hbase hline, fun B σ Γ H0 H Q ok w => ?_⟩
  unfold sPop at w
  split at w
  · rename_i b xs hx
    have hx := ownAt_eq hx
    split at w
    · rename_i x hl
      obtain ⟨q, us, q1, q2, q3, q4, _⟩ := ok.ownL i _ _ hx
      rw [List.getLast?_eq_getElem?] at hl
      obtain ⟨v, e1, r⟩ := q4.get hl
      refine ⟨.ref q, q1, .inl ⟨rfl, us, SqL.of q3⟩, q, us, v, rfl, rfl, q3, by rw [q4.len]; exact e1, ?_⟩
      exact w v H0 _ (ok.setOwn hx q1 q4.dropLast) (Grow.own hx q1 ⟨_, q3⟩) (Less.setOwn hx) r
    · exact w.elim
  · exact w.elim
noncomputable def sPopAt (i : Nat) (s : Ga → Res (Ga × D)) : Ga → Res (Ga × D) := fun Γ => match ownAt Γ i with
  | some _ => (s Γ).bind fun p => match ownAt p.1 i, p.2 with
    | some (b, xs), .int k => if okB (-(2 ^ 63) ≤ k ∧ k < 2 ^ 63) = true then (match ixN xs.length k with
      | some j => (match xs[j]? with | some x => .ok (p.1.set i (.own b (xs.eraseIdx j)), x) | none => .stuck)
      | none => .stuck) else .stuck
    | _, _ => .stuck
  | none => .stuck
theorem jd_popAt {i : Nat} {s : Ga → Res (Ga × D)} (hp : PE X a (tVar i)) (h : JD X E e s)
    (hbase : attributeBase a "pop" X.env (eval a X.env) = eval a X.env := by rfl)
    (hfew : ((backTo cpos (starEach (e :: []) X.env)).all (fun x => !x.1) && (backToKw cpos (keywordEach [] X.env)).all (fun x => x.1.isSome)
      && decide ((e :: []).length + ([] : List Keyword).length + (if ([] : List Keyword).isEmpty then 0 else 1) < 30)) = true := by rfl)
    (hline : (apos.endLine == cpos.line) = true := by rfl) (hs : starEach (e :: []) X.env = (false, eval e X.env) :: starEach [] X.env := by rfl) (hplain : (backTo cpos (starEach [] X.env)).any (·.1) = false := by rfl) :
    JD X E (.Call (.Attribute a "pop" apos) [e] [] cpos) (sPopAt i s) := by
  obtain ⟨t, p, ha⟩ := h.ex
  refine ⟨_, pe_bm PySem.F.plainAttrs_list PySem.F.slot_list_pop PySem.F.type_list_pop mt_popAt hp (pa_cons p pa_nil hs) hbase hfew hline hs hplain, fun B σ Γ H0 H Q ok w => ?_⟩
  unfold sPopAt at w
  split at w
  · rename_i bx hbx
    obtain ⟨b0, xs0⟩ := bx
    obtain ⟨q, us, q1, q2, q3, q4, _⟩ := ok.ownL i _ _ (ownAt_eq hbx)
    refine ⟨.ref q, q1, .inl ⟨rfl, us, SqL.of q3⟩, ?_⟩
    show t σ H fun y H2 => rPopAt (.ref q) [y] H2 Q
    refine d_then ha wok_D ok w fun Γ1 x v H01 H1 w1 ok1 g1 l1 r1 => ?_
    split at w1
    · rename_i b xs k hx hk
      have hk : x = .int k := hk
      subst hk
      cases r1
      split at w1
      · rename_i hz
        have hz := okB_iff.mp hz
        split at w1
        · rename_i j hj
          split at w1
          · rename_i y hy
            have hx := ownAt_eq hx
            obtain ⟨vs, h1, h2, h3⟩ := own_same (xs := xs0) (b := b0) q1 ok1 hx
            obtain ⟨yv, e1, ry⟩ := h3.get hy
            have hj' : ixN vs.length k = some j := by rw [h3.len]; exact hj
            refine ⟨q, vs, k, j, yv, rfl, rfl, h1, hz.1, hz.2, (ixN_seq hj').1, e1, ?_⟩
            exact w1 yv H01 _ (ok1.setOwn hx q1 (h3.eraseIdx j)) (Grow.own hx q1 ⟨_, h1⟩) (Less.setOwn hx) ry
          · exact w1.elim
        · exact w1.elim
      · exact w1.elim
    · exact w1.elim
  · exact w.elim
def sPut (i : Nat) (k v : Ga → Res (Ga × D)) : Ga → Res (Ga × Fl) := fun Γ => (v Γ).bind fun p => match ownAt p.1 i with
  | some _ => (k p.1).bind fun q => match ownAt q.1 i, q.2 with
    | some (b, xs), .int n => (match ixN xs.length n with | some j => .ok (q.1.set i (.own b (xs.set j p.2)), .nx) | none => .stuck)
    | _, _ => .stuck
  | none => .stuck
theorem js_put {i : Nat} {sk sv : Ga → Res (Ga × D)} {tpos : Pos} (hp : PE X a (tVar i)) (hk : JD X E b sk) (hv : JD X E e sv)
    (ha : ∀ v, assign (.Subscript a b tpos) X.env v = (do
      let ov ← holding [v] (eval a X.env)
      let iv ← holding [v, ov] (eval b X.env)
      standAt tpos
      holding [v, ov, iv] (setItem ov iv v)
      release [v, ov, iv] []) := by intro _; rfl)
    (hs : swapsWithSole [.Subscript a b tpos] e pos.line X.env = pure false := by rfl) (hw : swappedStores [.Subscript a b tpos] e X.env = pure none := by rfl)
    (h1 : (assignEach [.Subscript a b tpos] X.env).map (·.2) = [assign (.Subscript a b tpos) X.env] := by rfl) : JS X E (.Assign [.Subscript a b tpos] e pos) (sPut i sk sv) := by
  obtain ⟨t, p, hke⟩ := hk.ex
  obtain ⟨u, q, hve⟩ := hv.ex
  refine ⟨_, ps_asg q (pg_sub hp p set_list ha) hs hw h1, fun B σ Γ H0 H Dn ok w => ?_⟩
  unfold sPut at w
  show u σ H fun x H1 => ∃ o, σ[i]? = some (some o) ∧ t σ H1 fun n H2 => rSetL o n x H2 fun H3 => Dn.nx σ H3
  refine d_then hve wok_S ok w fun Γ1 x v H01 H1 w1 ok1 g1 l1 r1 => ?_
  split at w1
  · rename_i bx hbx
    obtain ⟨b0, xs0⟩ := bx
    obtain ⟨q, us, q1, q2, q3, q4, _⟩ := ok1.ownL i _ _ (ownAt_eq hbx)
    refine ⟨.ref q, q1, d_then hke wok_S ok1 w1 fun Γ2 n nv H02 H2 w2 ok2 g2 l2 r2 => ?_⟩
    split at w2
    · rename_i b xs k hx hk
      have hk : n = .int k := hk
      subst hk
      cases r2
      split at w2
      · rename_i j hj
        have hx := ownAt_eq hx
        obtain ⟨vs, h1, h2, h3⟩ := own_same (xs := xs0) (b := b0) q1 ok2 hx
        refine ⟨q, vs, k, j, rfl, rfl, h1, by rw [h3.len]; exact hj, ?_⟩
        exact w2 σ H02 _ (ok2.setOwn hx q1 (h3.set j (r1.m g2.ex0))) (Ex.refl _)
      · exact w2.elim
    · exact w2.elim
  · exact w1.elim
def sAug (g : Int → Int → Int) (i : Nat) (s : Ga → Res (Ga × D)) : Ga → Res (Ga × Fl) := fun Γ => match Γ[i]? with
  | some (.d (.int m)) => (s Γ).bind fun p => match p.2 with | .int n => .ok (p.1.set i (.d (.int (g m n))), .nx) | _ => .stuck
  | _ => .stuck
def sExt (i : Nat) (s : Ga → Res (Ga × D)) : Ga → Res (Ga × Fl) := fun Γ => match ownAt Γ i with
  | some _ => (s Γ).bind fun p => match ownAt p.1 i, p.2 with
    | some (b, xs), .list ys => if xs.length + ys.length ≤ sizeLine then .ok (p.1.set i (.own b (xs ++ ys)), .nx) else .stuck
    | _, _ => .stuck
  | none => .stuck
theorem js_ext {i : Nat} {x : Str} {s : Ga → Res (Ga × D)} (hN : X.N.Nodup) (hi : X.N[i]? = some x) (hx : Loc X.env.scope x) (he : JD X E e s)
    (hf : X.fn x = true ∨ X.env.scope.names.lookup x = some .local := by first | exact .inl rfl | exact .inr rfl | assumption) : JS X E (.AugAssign (.Name x pos') .Add e pos) (sExt i s) := by
  obtain ⟨t, p, ha⟩ := he.ex
  refine ⟨_, ps_aug hN hi hx p (ti := rExt2) (fun pins s σ H x y v u Q I r1 r2 h => iop_ext pins s σ H x y v u Q I r1 r2 h) hf, fun B σ Γ H0 H Dn ok w => ?_⟩
  unfold sExt at w
  split at w
  · rename_i bx hbx
    obtain ⟨b0, xs0⟩ := bx
    obtain ⟨q, us, q1, q2, q3, q4, _⟩ := ok.ownL i _ _ (ownAt_eq hbx)
    refine ⟨.ref q, q1, d_then ha wok_S ok w fun Γ1 x v H01 H1 w1 ok1 g1 l1 r1 => ?_⟩
    split at w1
    · rename_i b xs ys hx hy
      have hy : x = .list ys := hy
      subst hy
      split at w1
      · rename_i hz
        have hx := ownAt_eq hx
        obtain ⟨vs, h1, h2, h3⟩ := own_same (xs := xs0) (b := b0) q1 ok1 hx
        cases r1 with
        | lst r1 r2 =>
          refine ⟨q, _, vs, _, rfl, rfl, h1, ok1.sub _ _ r1, by rw [h3.len, r2.len]; exact hz, ?_⟩
          have o2 := ok1.setOwn hx q1 (h3.app r2)
          have e : σ.set i (some (.ref q)) = σ := by
            apply List.ext_getElem?
            intro k
            by_cases hk : k = i
            · subst hk; rw [List.getElem?_set_self (List.getElem?_eq_some_iff.mp q1).1, q1]
            · rw [List.getElem?_set_ne (Ne.symm hk)]
          show Dn.nx (σ.set i (some (.ref q))) _
          rw [e]
          exact w1 σ H01 _ o2 (Ex.refl _)
      · exact w1.elim
    · exact w1.elim
  · exact w.elim

inductive RVs (K : PySem.W.Frag) (H0 H H0' H' : Hp) : List R → List V → Prop
  | nil : RVs K H0 H H0' H' [] []
  | cons {r : R} {v : V} {rs : List R} {vs : List V} : RV K H0 H H0' H' r v → RVs K H0 H H0' H' rs vs → (∀ xs a, r = .f xs → v = .ref a → ∀ (j : Nat) ys, rs[j]? = some (.f ys) → vs[j]? ≠ some (.ref a)) → RVs K H0 H H0' H' (r :: rs) (v :: vs)
def RW (X : Cx) (B : Bg) (E : XK) (σ : L2.St) (Γ : Ga) (H0 H : Hp) (r : Res (Ga × List R)) (Q : List V → Hp → Prop) : Prop := match r with
  | .ok (Γ', xs) => ∀ vs H0' H', EnvOk X.K B σ Γ' H0' H' → Grow (OwnOf σ Γ) H0 H H0' H' → Less Γ Γ' → RVs X.K H0 H H0' H' xs vs → Q vs H'
  | .exc c x => XW X B E c x
  | .stuck => False
structure JR (X : Cx) (E : XK) (es : List Expr) (s : Ga → Res (Ga × List R)) : Prop where
  ex : ∃ t, PA X es t ∧ ∀ B σ Γ H0 H Q, EnvOk X.K B σ Γ H0 H → RW X B E σ Γ H0 H (s Γ) Q → t σ H Q
def sRNil : Ga → Res (Ga × List R) := fun Γ => .ok (Γ, [])
def sRCons (s : Ga → Res (Ga × R)) (r : Ga → Res (Ga × List R)) : Ga → Res (Ga × List R) := fun Γ => (s Γ).bind fun p => (r p.1).bind fun q => .ok (q.1, p.2 :: q.2)
theorem RVs.back {K : PySem.W.Frag} {H0 H H01 H1 H02 H2 : Hp} {r : List R} {v : List V} {O : Addr → Prop} (g : Grow O H0 H H01 H1) (h : RVs K H01 H1 H02 H2 r v) : RVs K H0 H H02 H2 r v := by
  induction h with
  | nil => exact .nil
  | cons h1 _ h3 ih => exact .cons (h1.back g) ih h3
theorem r_then {β : Type} {W : Ga → Hp → Hp → Res β → Prop} {t : TA} {s : Ga → Res (Ga × List R)} {f : Ga × List R → Res β} {Q : List V → Hp → Prop} (ha : ∀ B σ Γ H0 H Q, EnvOk X.K B σ Γ H0 H → RW X B E σ Γ H0 H (s Γ) Q → t σ H Q) (wo : WOk X B E σ W) (ok : EnvOk X.K B σ Γ H0 H) (w : W Γ H0 H ((s Γ).bind f))
    (k : ∀ Γ1 x v H01 H1, W Γ1 H01 H1 (f (Γ1, x)) → EnvOk X.K B σ Γ1 H01 H1 → Grow (OwnOf σ Γ) H0 H H01 H1 → Less Γ Γ1 → RVs X.K H0 H H01 H1 x v → Q v H1) : t σ H Q := by
  refine ha B σ Γ H0 H Q ok ?_
  cases hs : s Γ with
  | stuck => rw [hs] at w; exact (wo.stuck _ _ _ w).elim
  | exc c x => rw [hs] at w; exact wo.exc _ _ _ _ _ w
  | ok p =>
    rw [hs] at w
    exact fun v H01 H1 ok1 g l r => k _ _ v H01 H1 (wo.shift _ _ _ _ _ _ _ ok g l w) ok1 g l r
omit [Tbl] in
theorem RVs.fresh {K : PySem.W.Frag} {H0 H H0' H' : Hp} {rs : List R} {vs : List V} (h : RVs K H0 H H0' H' rs vs) : ∀ (j : Nat) ys a, rs[j]? = some (.f ys) → vs[j]? = some (.ref a) → H a = none := by
  induction h with
  | nil => intro j ys a h; simp at h
  | cons h1 _ _ ih =>
    intro j ys a e1 e2
    cases j with
    | zero =>
      simp at e1 e2; subst e1 e2
      cases h1 with
      | f n _ _ _ => exact n
    | succ j => exact ih j ys a (by simpa using e1) (by simpa using e2)
theorem jr_nil : JR X E [] sRNil := ⟨_, pa_nil, fun B σ Γ H0 H Q ok w => w [] H0 H ok (Grow.refl _ _ _) (Less.refl _) .nil⟩
theorem jr_cons {es : List Expr} {s : Ga → Res (Ga × R)} {r : Ga → Res (Ga × List R)} (h : JE X E e s) (hr : JR X E es r) (hs : starEach (e :: es) X.env = (false, eval e X.env) :: starEach es X.env := by rfl) : JR X E (e :: es) (sRCons s r) := by
  obtain ⟨t, p, ha⟩ := h.ex
  obtain ⟨u, q, hb⟩ := hr.ex
  refine ⟨_, pa_cons p q hs, fun B σ Γ H0 H Q ok w => ?_⟩
  show t σ H fun x H1 => u σ H1 fun xs H2 => Q (x :: xs) H2
  unfold sRCons at w
  cases hsG : s Γ with
  | stuck => rw [hsG] at w; exact w.elim
  | exc c x => rw [hsG] at w; exact ha B σ Γ H0 H _ ok (by rw [hsG]; exact w)
  | ok pr =>
    obtain ⟨Γ1, x⟩ := pr
    rw [hsG] at w
    refine ha B σ Γ H0 H _ ok (by
      rw [hsG]
      intro v H01 H1 ok1 g1 l1 r1
      have w1 : RW X B E σ Γ1 H01 H1 ((r Γ1).bind fun q => .ok (q.1, x :: q.2)) fun vs H' => ∃ H0' Γ', EnvOk X.K B σ Γ' H0' H' → True := by
        cases hr : r Γ1 with
        | stuck => simp only [hr, bind_ok, bind_stuck] at w; exact w.elim
        | exc c y => simp only [hr, bind_ok, bind_exc] at w; exact w
        | ok _ => exact fun _ _ _ _ _ _ _ => ⟨H01, Γ1, fun _ => trivial⟩
      -- the tail
      cases hrr : r Γ1 with
      | stuck => simp only [hrr, bind_ok, bind_stuck] at w; exact w.elim
      | exc c y =>
        simp only [hrr, bind_ok, bind_exc] at w
        exact hb B σ Γ1 H01 H1 _ ok1 (by rw [hrr]; exact w)
      | ok pq =>
        obtain ⟨Γ2, xs⟩ := pq
        simp only [hrr, bind_ok] at w
        refine hb B σ Γ1 H01 H1 _ ok1 (by
          rw [hrr]
          intro vs H02 H2 ok2 g2 l2 r2
          refine w (v :: vs) H02 H2 ok2 (shift_g g1 l1 g2) (l1.trans l2) ?_
          have hr2 := r2.back g1
          cases r1 with
          | d r1 => exact .cons (.d (r1.m g2.ex0)) hr2 fun _ _ z => nomatch z
          | @f ys a us n n0 e3 r3 =>
            have no : ¬ OwnOf σ Γ1 a := fun z => (ok.ownLive (l1.own z)).1 n
            refine .cons (.f n (by rw [g2.old a (by rw [e3]; simp) no]; exact n0) (g2.keep _ _ e3 no nofun) (r3.m g2.ex0)) hr2 fun zs a' e4 e5 j ws e6 e7 => ?_
            cases e5
            have := r2.fresh j ws a e6 e7
            rw [e3] at this; cases this))
def sPar2 (i j : Nat) (s : Ga → Res (Ga × List R)) : Ga → Res (Ga × Fl) := fun Γ => (s Γ).bind fun p => match p.2 with
  | [x, y] => .ok ((p.1.set i (slotOf x)).set j (slotOf y), .nx)
  | _ => .stuck
def sPar3 (i j l : Nat) (s : Ga → Res (Ga × List R)) : Ga → Res (Ga × Fl) := fun Γ => (s Γ).bind fun p => match p.2 with
  | [x, y, z] => .ok (((p.1.set i (slotOf x)).set j (slotOf y)).set l (slotOf z), .nx)
  | _ => .stuck
theorem setR {K : PySem.W.Frag} {x : R} {v : V} {H0' H' : Hp} (i : Nat) (ok : EnvOk K B σ Γ H0' H') (r : RVB K B H0' H' x v) (no : ∀ xs a, x = .f xs → v = .ref a → ¬ OwnOf σ Γ a) : EnvOk K B (σ.set i (some v)) (Γ.set i (slotOf x)) H0' H' := by
  cases r with
  | d r => exact ok.setD i r
  | f h1 h2 h3 h4 => exact ok.setF i h1 h2 h3 h4 (no _ _ rfl rfl)
theorem RV.toB {K : PySem.W.Frag} {x : R} {v : V} {H0 H H0' H' : Hp} (ok : EnvOk K B σ Γ H0 H) (r : RV K H0 H H0' H' x v) : RVB K B H0' H' x v := by
  cases r with
  | d r => exact .d r
  | f h1 h2 h3 h4 => exact .f (RV.he ok h1) h2 h3 h4
omit [Tbl] in
theorem own_set {x : R} {v : V} {i : Nat} {p : Addr} (hl : Γ.length = σ.length) (h : OwnOf (σ.set i (some v)) (Γ.set i (slotOf x)) p) : OwnOf σ Γ p ∨ ∃ xs, x = .f xs ∧ v = .ref p := by
  obtain ⟨j, c, ys, h1, h2⟩ := h
  rcases set_back h1 with ⟨z1, z, hi⟩ | ⟨z1, z⟩
  · subst z1
    rw [set_at (by rw [← hl]; exact hi)] at h2
    cases x with
    | d _ => cases z
    | f xs => cases h2; exact .inr ⟨xs, rfl, rfl⟩
  · rw [List.getElem?_set_ne (Ne.symm z1)] at h2; exact .inl ⟨j, c, ys, z, h2⟩
end
end Mi
namespace Mi
open PySem PySem.Spec PyProof.Rows L2 Evl
variable [Tbl]

abbrev ZipB (h : Heap) (b : Bool) (z TI TO : Addr) (f0 : Value) : Prop :=
  h.get? z = some { cls := .type "zip", dict := none, data := .fields #[f0, .bool false, .bool b, .ref TI, .ref TO], slots := #[] }
abbrev gzB2 (b : Bool) (h : Heap) (o1 o2 : Obj) : Heap := (gzO2 h o1 o2).push { cls := .type "zip", data := .fields #[.none, .bool false, .bool b, .ref ((h.push o1).push o2).objs.size, .ref (gzT2 h o1 o2).objs.size] }
omit [Tbl] in
theorem meets_zipB {v1 v2 : Value} {o1 o2 : Obj} {H1 H2 : Heap → Prop} (b : Bool) (B1 : Begins v1 o1 H1) (B2 : Begins v2 o2 H2) :
    Meets (Builtin.«zip.__new__» ⟨[.type "zip", v1, v2], [(Str.ofString "strict", .bool b)]⟩) (fun _ R s => (H1 s.heap ∧ H2 s.heap) ∧
      R (.ok (.ret (.ref (gzO2 s.heap o1 o2).objs.size))) { s with heap := gzB2 b s.heap o1 o2 }) :=
  .of_wp fun prog w A R s h => by
    obtain ⟨hp, g, d, tk, os⟩ := s
    obtain ⟨⟨h1, h2⟩, h⟩ := h
    have hsub := sub_zip
    have n1 : (Str.ofString "strict" != ("strict" : Str)) = false := by decide +kernel
    have n2 : (Str.ofString "strict" == ("strict" : Str)) = true := by decide +kernel
    have w1 : ∀ {A' : Around} {E : Value → Shared → Prop} {Q : Value → Shared → Prop}, Q (.ref hp.objs.size) ⟨hp.push o1, g, d, tk, os⟩ → wpAny (model prog w) A' (pyIter v1) Q E ⟨hp, g, d, tk, os⟩ :=
      fun q => B1.iter prog w _ _ ⟨hp, g, d, tk, os⟩ _ h1 q
    have w2 : ∀ {A' : Around} {E : Value → Shared → Prop} {Q : Value → Shared → Prop}, Q (.ref (hp.push o1).objs.size) ⟨(hp.push o1).push o2, g, d, tk, os⟩ → wpAny (model prog w) A' (pyIter v2) Q E ⟨hp.push o1, g, d, tk, os⟩ :=
      fun q => B2.iter prog w _ _ ⟨hp.push o1, g, d, tk, os⟩ _ (B2.keeps _ _ h2 fun _ _ e => Heap.get?_push_of_some _ e) q
    cases b
    · wp_walk using w1, w2
      all_goals exact ⟨_, rfl, h⟩
    · wp_walk using w1, w2
      all_goals exact ⟨_, rfl, h⟩
end Mi
namespace Mi
open PySem PySem.Spec PyProof.Rows L2 Evl
variable [Tbl]
section
variable {prog : Program} {w : World} {A : Around} {E : Value → Shared → Prop} {s : Shared}
omit [Tbl] in
theorem orEnd_item {it l : Addr} {i : Nat} {items : Array Value} {x : Value} {Q : Option Value → Shared → Prop} (hit : s.heap.IsListIter it l i) (hl : s.heap.IsList l items) (hx : items[i]? = some x)
    (hQ : ∀ h', h'.IsListIter it l (i + 1) → Heap.SameBut it s.heap h' → Q (some x) { s with heap := h' }) :
    wpAny (model prog w) A (Builtin.SmallTypes.nextOrEnd (.ref it)) Q E s := by
  unfold Builtin.SmallTypes.nextOrEnd
  exact wpAny_bind (wpAny_attempt (wpAny_nextOf_list_item hit hl hx fun h' a b => wpAny_pure (hQ h' a b)))
omit [Tbl] in
theorem orEnd_end {it l : Addr} {i : Nat} {items : Array Value} {Q : Option Value → Shared → Prop} (hh : A.handled = none) (hit : s.heap.IsListIter it l i) (hl : s.heap.IsList l items) (hx : items[i]? = none)
    (hQ : ∀ h', Heap.ExtBut it s.heap h' → Q none { s with heap := h' }) :
    wpAny (model prog w) A (Builtin.SmallTypes.nextOrEnd (.ref it)) Q E s := by
  unfold Builtin.SmallTypes.nextOrEnd
  refine wpAny_bind (wpAny_attempt (wpAny_nextOf_list_end hh hit hl hx fun h' e k he => ?_))
  obtain ⟨o, ho, hc⟩ := he
  exact wpAny_bind (wpAny_isInstance (T := "StopIteration") (b := true) ⟨o, ho, hc⟩ isSubtype_stop (wpAny_pure (hQ _ k)))
variable {z TI TO i1 i2 l1 l2 : Addr} {k : Nat} {xs ys : Array Value} {x y a b : Value}
omit [Tbl] in
theorem strict_item {Q : Value → Shared → Prop} (D : ZipApart z TI TO i1 i2 l1 l2) (hz : ZipB s.heap true z TI TO .none) (hTI : IsPair s.heap TI (.ref i1) (.ref i2)) (hTO : IsPair s.heap TO a b)
    (h1 : s.heap.IsListIter i1 l1 k) (h2 : s.heap.IsListIter i2 l2 k) (hl1 : s.heap.IsList l1 xs) (hl2 : s.heap.IsList l2 ys) (hx : xs[k]? = some x) (hy : ys[k]? = some y)
    (hQ : ∀ h', ZipB h' true z TI TO (rawInt s.heap.objs.size) → IsPair h' TO x y → h'.IsListIter i1 l1 (k + 1) → h'.IsListIter i2 l2 (k + 1) → IsPair h' s.heap.objs.size x y →
      (∀ c o, c ≠ z → c ≠ TO → c ≠ i1 → c ≠ i2 → s.heap.get? c = some o → h'.get? c = some o) → Q (.ref s.heap.objs.size) { s with heap := h' }) :
    wpAny (model prog w) A (Builtin.«zip.__next__» ⟨[.ref z], []⟩) (fun fin s' => ∃ v, fin = .done (.ret v) ∧ Q v s') E s := by
  refine wpAny_bind (wpAny_pure ?_)
  refine wpAny_bind (wpAny_field hz rfl (x := .bool true) rfl ?_)
  refine wpAny_bind (wpAny_field hz rfl (x := .ref TI) rfl ?_)
  refine wpAny_bind (wpAny_seqItems hTI rfl ?_)
  refine wpAny_bind (m := Builtin.SmallTypes.ownedTupleIsFree (.ref z)) ?_
  refine wpAny_bind (wpAny_field hz rfl (x := .none) rfl (wpAny_pure ?_))
  refine wpAny_bind (wpAny_rule ?_)
  refine wpAny_bind (wpAny_field hz rfl (x := .ref TO) rfl ?_)
  refine wpAny_bind (wpAny_setField_rec hz (by simp) fun g0 hz0 s0 => ?_)
  have hz0 : ZipB g0 true z TI TO .ellipsis := hz0
  have hTO0 : IsPair g0 TO a b := s0.extBut _ _ D.TOz hTO
  refine wpAny_bind ?_
  simp only [List.zipIdx_cons, List.zipIdx_nil, List.forIn_cons, List.forIn_nil]
  refine wpAny_bind (wpAny_bind (wpAny_onRaise (orEnd_item (h1.extBut s0.extBut D.i1z) (hl1.extBut s0.extBut D.l1z) hx fun g1 j1 s1 => ?_)))
  have hTO1 : IsPair g1 TO a b := s1.extBut _ _ D.TOi1 hTO0
  refine wpAny_bind (wpAny_seqItems hTO1 rfl (wpAny_bind (wpAny_updateSeq_pair hTO1 fun g2 hTO2 s2 => wpAny_bind (wpAny_letGo (wpAny_pure ?_)))))
  have hTO2 : IsPair g2 TO x b := hTO2
  have t2 : ∀ c o, c ≠ z → c ≠ TO → c ≠ i1 → s.heap.get? c = some o → g2.get? c = some o := fun c o c1 c2 c3 e => s2.extBut _ _ c2 (s1.extBut _ _ c3 (s0.extBut _ _ c1 e))
  refine wpAny_bind (wpAny_bind (wpAny_onRaise (orEnd_item (h2.at fun o e => t2 _ o D.i2z D.TOi2.symm D.i12.symm e) (hl2.at fun o e => t2 _ o D.l2z D.l2TO D.l2i1 e) hy fun g3 j2 s3 => ?_)))
  have hTO3 : IsPair g3 TO x b := s3.extBut _ _ D.TOi2 hTO2
  refine wpAny_bind (wpAny_seqItems hTO3 rfl (wpAny_bind (wpAny_updateSeq_pair hTO3 fun g4 hTO4 s4 => wpAny_bind (wpAny_letGo (wpAny_pure (wpAny_pure ?_))))))
  have hTO4 : IsPair g4 TO x y := hTO4
  have t4 : ∀ c o, c ≠ TO → c ≠ i2 → g2.get? c = some o → g4.get? c = some o := fun c o c1 c2 e => s4.extBut _ _ c1 (s3.extBut _ _ c2 e)
  have hz4 : ZipB g4 true z TI TO .ellipsis := t4 _ _ D.TOz.symm D.i2z.symm (s2.extBut _ _ D.TOz.symm (s1.extBut _ _ D.i1z.symm hz0))
  have n4 : g4.objs.size = s.heap.objs.size := s4.1.trans (s3.1.trans (s2.1.trans (s1.1.trans s0.1)))
  have zl : z < s.heap.objs.size := Heap.lt_size hz
  refine wpAny_bind (wpAny_seqItems hTO4 rfl (wpAny_bind (wpAny_newTuple ?_)))
  refine wpAny_bind (m := Builtin.SmallTypes.ownedTupleHandOut (.ref z) (.ref g4.objs.size)) ?_
  refine wpAny_bind (wpAny_setField_rec (Heap.get?_push_of_some _ hz4) (by simp) fun g5 hz5 s5 => ?_)
  refine wpAny_setField_rec hz5 (by simp) fun g6 hz6 s6 => wpAny_pure ⟨_, rfl, ?_⟩
  have up : ∀ c o, c ≠ z → (g4.push { cls := .type "tuple", data := .seq #[x, y] }).get? c = some o → g6.get? c = some o := fun c o c1 e => s6.extBut _ _ c1 (s5.extBut _ _ c1 e)
  have hT : IsPair g6 g4.objs.size x y := up _ _ (by rw [n4]; exact Nat.ne_of_gt zl) (Heap.get?_push_size _ rfl)
  have hz6 : ZipB g6 true z TI TO (rawInt g4.objs.size) := hz6
  rw [n4] at hT hz6
  show Q (.ref g4.objs.size) _
  rw [n4]
  refine hQ g6 hz6 (up _ _ D.TOz (Heap.get?_push_of_some _ hTO4)) ?_ ?_ hT fun c o c1 c2 c3 c4 e => up _ _ c1 (Heap.get?_push_of_some _ (t4 _ _ c2 c4 (t2 _ _ c1 c2 c3 e)))
  · exact j1.at fun o e => up _ o D.i1z (Heap.get?_push_of_some _ (t4 _ _ D.TOi1.symm D.i12 (s2.extBut _ _ D.TOi1.symm e)))
  · exact j2.at fun o e => up _ o D.i2z (Heap.get?_push_of_some _ (s4.extBut _ _ D.TOi2.symm e))
omit [Tbl] in
theorem strict_end {Q : Fin → Shared → Prop} (hh : A.handled = none) (D : ZipApart z TI TO i1 i2 l1 l2) (hz : ZipB s.heap true z TI TO .none) (hTI : IsPair s.heap TI (.ref i1) (.ref i2)) (hTO : IsPair s.heap TO a b)
    (h1 : s.heap.IsListIter i1 l1 k) (h2 : s.heap.IsListIter i2 l2 k) (hl1 : s.heap.IsList l1 xs) (hl2 : s.heap.IsList l2 ys) (hx : xs[k]? = none) (hy : ys[k]? = none)
    (hE : ∀ h' e, (∀ c o, c ≠ z → c ≠ TO → c ≠ i1 → c ≠ i2 → s.heap.get? c = some o → h'.get? c = some o) → (∃ o, h'.get? e = some o ∧ o.cls = .type "StopIteration") → E (.ref e) { s with heap := h' }) :
    wpAny (model prog w) A (Builtin.«zip.__next__» ⟨[.ref z], []⟩) Q E s := by
  refine wpAny_bind (wpAny_pure ?_)
  refine wpAny_bind (wpAny_field hz rfl (x := .bool true) rfl ?_)
  refine wpAny_bind (wpAny_field hz rfl (x := .ref TI) rfl ?_)
  refine wpAny_bind (wpAny_seqItems hTI rfl ?_)
  refine wpAny_bind (m := Builtin.SmallTypes.ownedTupleIsFree (.ref z)) ?_
  refine wpAny_bind (wpAny_field hz rfl (x := .none) rfl (wpAny_pure ?_))
  refine wpAny_bind (wpAny_rule ?_)
  refine wpAny_bind (wpAny_field hz rfl (x := .ref TO) rfl ?_)
  refine wpAny_bind (wpAny_setField_rec hz (by simp) fun g0 hz0 s0 => ?_)
  have hz0 : ZipB g0 true z TI TO .ellipsis := hz0
  refine wpAny_bind ?_
  simp only [List.zipIdx_cons, List.zipIdx_nil, List.forIn_cons, List.forIn_nil]
  refine wpAny_bind (wpAny_bind (wpAny_onRaise (orEnd_end hh (h1.extBut s0.extBut D.i1z) (hl1.extBut s0.extBut D.l1z) hx fun g1 s1 => ?_)))
  have hz1 : ZipB g1 true z TI TO .ellipsis := s1 _ _ D.i1z.symm hz0
  refine wpAny_bind (wpAny_setField_rec hz1 (by simp) fun g2 hz2 s2 => ?_)
  have t2 : ∀ c o, c ≠ z → c ≠ i1 → s.heap.get? c = some o → g2.get? c = some o := fun c o c1 c3 e => s2.extBut _ _ c1 (s1 _ _ c3 (s0.extBut _ _ c1 e))
  refine wpAny_bind (wpAny_bind ?_)
  simp only [List.drop_succ_cons, List.drop_zero, List.zipIdx_cons, List.zipIdx_nil, List.forIn_cons, List.forIn_nil]
  refine wpAny_bind (wpAny_bind (orEnd_end hh (h2.at fun o e => t2 _ o D.i2z D.i12.symm e) (hl2.at fun o e => t2 _ o D.l2z D.l2i1 e) hy fun g3 s3 => ?_))
  rw [if_neg (show ¬ (Option.isSome (none : Option Value) = true) from Bool.false_ne_true)]
  refine wpAny_pure (wpAny_pure (wpAny_bind (wpAny_rule ?_)))
  refine wpAny_bind (m := newExc (.type "StopIteration") []) (wpAny_bind (wpAny_newTuple (wpAny_bind (wpAny_of_eq (a := Value.none) (by first | rfl | (simp only [firstArgMember]; rfl)) (wpAny_newObj_type ?_ (by size_fits))))))
  simp only [raiseNew]
  refine wpAny_bind (wpAny_handled ?_)
  first | rw [show A.in1.handled = none from hh] | rw [hh]
  exact wpAny_bind (wpAny_pure (wpAny_throw (hE _ _ (fun c o c1 c2 c3 c4 e => Heap.get?_push_of_some _ (Heap.get?_push_of_some _ (s3 _ _ c4 (t2 _ _ c1 c3 e)))) ⟨_, Heap.get?_push_size _ rfl, rfl⟩)))
omit [Tbl] in
theorem strict_next_item {Q : Option Value → Shared → Prop} (D : ZipApart z TI TO i1 i2 l1 l2) (hz : ZipB s.heap true z TI TO .none) (hTI : IsPair s.heap TI (.ref i1) (.ref i2)) (hTO : IsPair s.heap TO a b)
    (h1 : s.heap.IsListIter i1 l1 k) (h2 : s.heap.IsListIter i2 l2 k) (hl1 : s.heap.IsList l1 xs) (hl2 : s.heap.IsList l2 ys) (hx : xs[k]? = some x) (hy : ys[k]? = some y)
    (hQ : ∀ h', ZipB h' true z TI TO (rawInt s.heap.objs.size) → IsPair h' TO x y → h'.IsListIter i1 l1 (k + 1) → h'.IsListIter i2 l2 (k + 1) → IsPair h' s.heap.objs.size x y →
      (∀ c o, c ≠ z → c ≠ TO → c ≠ i1 → c ≠ i2 → s.heap.get? c = some o → h'.get? c = some o) → Q (some (.ref s.heap.objs.size)) { s with heap := h' }) :
    wpAny (model prog w) A (pyNext (.ref z)) Q E s := by
  have hT : s.TypeIs (.ref z) "zip" := ⟨_, hz, rfl⟩
  unfold pyNext
  exact wpAny_bind (wpAny_attempt (wpAny_callSpecial?_slot (name := Str.ofString "__next__") hT F.slot_zip_next (wpAny_call_entry F.slot_zip_next hT F.entry_zip_next
    (strict_item D hz hTI hTO h1 h2 hl1 hl2 hx hy fun h' a1 a2 a3 a4 a5 a6 => wpAny_pure (hQ h' a1 a2 a3 a4 a5 a6)) (F.args_zip_next_1 _))))
omit [Tbl] in
theorem strict_next_end {Q : Option Value → Shared → Prop} (hh : A.handled = none) (D : ZipApart z TI TO i1 i2 l1 l2) (hz : ZipB s.heap true z TI TO .none) (hTI : IsPair s.heap TI (.ref i1) (.ref i2)) (hTO : IsPair s.heap TO a b)
    (h1 : s.heap.IsListIter i1 l1 k) (h2 : s.heap.IsListIter i2 l2 k) (hl1 : s.heap.IsList l1 xs) (hl2 : s.heap.IsList l2 ys) (hx : xs[k]? = none) (hy : ys[k]? = none)
    (hQ : ∀ h', (∀ c o, c ≠ z → c ≠ TO → c ≠ i1 → c ≠ i2 → s.heap.get? c = some o → h'.get? c = some o) → Q none { s with heap := h' }) :
    wpAny (model prog w) A (pyNext (.ref z)) Q E s := by
  have hT : s.TypeIs (.ref z) "zip" := ⟨_, hz, rfl⟩
  unfold pyNext
  refine wpAny_bind (wpAny_attempt (wpAny_callSpecial?_slot (name := Str.ofString "__next__") hT F.slot_zip_next (wpAny_call_entry F.slot_zip_next hT F.entry_zip_next
    (strict_end hh D hz hTI hTO h1 h2 hl1 hl2 hx hy fun h' e hk he => ?_) (F.args_zip_next_1 _))))
  obtain ⟨o, ho, hc⟩ := he
  exact wpAny_bind (wpAny_isInstance (T := "StopIteration") (b := true) ⟨o, ho, hc⟩ isSubtype_stop (wpAny_pure (hQ _ hk)))
omit [Tbl] in
theorem letGo_zipB {elts : List Expr} {n : Nat} {pos : Pos} {T : Addr} {bb : Bool} {Q : Unit → Shared → Prop} (hz : ZipB s.heap bb z TI TO (rawInt T)) (hQ : ∀ h', ZipB h' bb z TI TO .none → Heap.SameBut z s.heap h' → Q () { s with heap := h' }) :
    wpAny (model prog w) A (letOwnedTupleGo (.Tuple elts n pos) (.ref z) (.ref T)) Q E s := by
  refine wpAny_bind (wpAny_load hz ?_)
  show wpAny _ _ (ite (_ = true) _ _) Q E s
  rw [if_pos (by simp)]
  exact wpAny_bind (wpAny_rule (wpAny_setField_rec hz (by simp) fun h' a b => hQ h' a b))
omit [Tbl] in
theorem iter_zipB {bb : Bool} {f0 : Value} {Q : Value → Shared → Prop} (hz : ZipB s.heap bb z TI TO f0) (h : Q (.ref z) s) : wpAny (model prog w) A (pyIter (.ref z)) Q E s := by
  have hT : s.TypeIs (.ref z) "zip" := ⟨_, hz, rfl⟩
  exact wpAny_pyIter_slot hT F.slot_zip_iter (wpAny_call_entry F.slot_zip_iter hT F.entry_zip_iter (wpAny_pure ⟨_, rfl, "zip", _, hT, F.slot_zip_next.lookup, h⟩) (F.args_zip_iter_1 _))
end
def Itzs (K : PySem.W.Frag) (a b : Addr) : It :=
  ⟨(Itz K a b).go, (Itz K a b).yld, fun i H => ∃ xs ys : List V, SqL K H a xs ∧ SqL K H b ys ∧ xs.length ≤ i ∧ ys.length ≤ i⟩
omit [Tbl] in
theorem turn_zipS {P : Program} {w : World} {K : PySem.W.Frag} {elts : List Expr} {kk : Nat} {tpos : Pos} {a b z TI TO i1 i2 : Addr} (D : ZipApart z TI TO i1 i2 a b) :
    Turn P w K (.Tuple elts kk tpos) (Itzs K a b) [z, TI, TO, i1, i2] z (fun i h => ZipB h true z TI TO .none ∧ IsPair h TI (.ref i1) (.ref i2) ∧ (∃ x y, IsPair h TO x y) ∧ h.IsListIter i1 a i ∧ h.IsListIter i2 b i) where
  mem := by simp
  obj := fun i h st c hc => by
    obtain ⟨hz, hTI, ⟨x, y, hTO⟩, ⟨o1, e1, _, d1⟩, ⟨o2, e2, _, d2⟩⟩ := st
    simp only [List.mem_cons, List.not_mem_nil, or_false] at hc
    rcases hc with rfl | rfl | rfl | rfl | rfl
    · exact ⟨_, hz, nofun⟩
    · exact ⟨_, hTI, nofun⟩
    · exact ⟨_, hTO, nofun⟩
    · exact ⟨o1, e1, fun v q => by rw [d1] at q; cases q⟩
    · exact ⟨o2, e2, fun v q => by rw [d2] at q; cases q⟩
  keep := fun i h h' ⟨hz, hTI, ⟨x, y, hTO⟩, h1, h2⟩ k =>
    ⟨k z (by simp) _ hz, k TI (by simp) _ hTI, ⟨x, y, k TO (by simp) _ hTO⟩, h1.at fun o q => k i1 (by simp) o q, h2.at fun o q => k i2 (by simp) o q⟩
  item := by
    rintro X rfl rfl rfl hc i pins s σ H E I hf ⟨hz, hTI, ⟨x0, y0, hTO⟩, h1, h2⟩ ⟨xs, ys, x, y, qx, qy, hx, hy⟩
    obtain ⟨its, rv, p, _⟩ := I.list qx
    obtain ⟨its2, rv2, p2, _⟩ := I.list qy
    obtain ⟨u, hu, ru⟩ := rv.get hx
    obtain ⟨u2, hu2, ru2⟩ := rv2.get hy
    have out : ∀ {c : Addr}, c ∉ [z, TI, TO, i1, i2] → c ≠ z ∧ c ≠ TO ∧ c ≠ i1 ∧ c ≠ i2 := fun hb => ⟨fun q => hb (by simp [q]), fun q => hb (by simp [q]), fun q => hb (by simp [q]), fun q => hb (by simp [q])⟩
    have zl : z < s.heap.objs.size := Heap.lt_size hz
    refine strict_next_item D hz hTI hTO h1 h2 p.isList p2.isList (x := u) (y := u2) (by simpa using hu) (by simpa using hu2) fun g1 z1 o1 j1 j2 hT k1 => ⟨_, rfl, letGo_zipB (s := { s with heap := g1 }) z1 fun g2 z2 sb => ?_⟩
    have ob : ObjOk X.prog X.w (upd H s.heap.objs.size (.tup [x, y])) g2 s.heap.objs.size (.tup [x, y]) :=
      ⟨by show 2 ≤ sizeLine; decide, [u, u2], .cons ru (.cons ru2 .nil), ⟨_, (sb.2 _ (Nat.ne_of_gt zl)).trans hT, rfl, _, rfl⟩⟩
    have I1 : Inv X pins σ (upd H s.heap.objs.size (.tup [x, y])) { s with heap := g2 } :=
      I.turnedNew (t' := s.toks) (ch := [z, TI, TO, i1, i2]) (fun c o hb q => (sb.2 c (out hb).1).trans (k1 c o (out hb).1 (out hb).2.1 (out hb).2.2.1 (out hb).2.2.2 q)) hf (Nat.le_refl _) ob
    refine ⟨.ref s.heap.objs.size, _, I1, rfl, ⟨_, x, y, rfl, I.hok.fresh (Nat.le_refl _), rfl, fun l hl => by rw [I.list_inj hl qx]; exact hx, fun l hl => by rw [I.list_inj hl qy]; exact hy⟩,
      ⟨z2, (sb.2 _ D.TIz).trans (k1 _ _ D.TIz D.TITO D.TIi1 D.TIi2 hTI), ⟨u, u2, (sb.2 _ D.TOz).trans o1⟩, j1.at fun o q => (sb.2 _ D.i1z).trans q, j2.at fun o q => (sb.2 _ D.i2z).trans q⟩, fun c hcm => ?_⟩
    have lt : c < s.heap.objs.size := by
      obtain ⟨_, e1, _⟩ := h1
      obtain ⟨_, e2, _⟩ := h2
      have hcm' := hcm
      simp only [List.mem_cons, List.not_mem_nil, or_false] at hcm'
      rcases hcm' with rfl | rfl | rfl | rfl | rfl
      · exact zl
      · exact Heap.lt_size hTI
      · exact Heap.lt_size hTO
      · exact Heap.lt_size e1
      · exact Heap.lt_size e2
    rw [upd_ne (Nat.ne_of_lt lt)]
    exact (hf c hcm).1
  done := by
    rintro X rfl rfl rfl hc i pins s σ H E I hf ⟨hz, hTI, ⟨x0, y0, hTO⟩, h1, h2⟩ ⟨xs, ys, qx, qy, e1, e2⟩
    obtain ⟨its, rv, p, _⟩ := I.list qx
    obtain ⟨its2, rv2, p2, _⟩ := I.list qy
    have l1 := rv.length
    have l2 := rv2.length
    have out : ∀ {c : Addr}, c ∉ [z, TI, TO, i1, i2] → c ≠ z ∧ c ≠ TO ∧ c ≠ i1 ∧ c ≠ i2 := fun hb => ⟨fun q => hb (by simp [q]), fun q => hb (by simp [q]), fun q => hb (by simp [q]), fun q => hb (by simp [q])⟩
    exact strict_next_end (I.ok.hd hc) D hz hTI hTO h1 h2 p.isList p2.isList (by simp; omega) (by simp; omega) fun h' hk => ⟨rfl, I.turnedL (t' := s.toks) (ch := [z, TI, TO, i1, i2]) (fun c o hb q => hk c o (out hb).1 (out hb).2.1 (out hb).2.2.1 (out hb).2.2.2 q) hf⟩
  self := fun A i s Q E st h => iter_zipB st.1 h

namespace F
theorem type_zipB (a b c : Value) : checkTypeCall "zip" ⟨[a, b], [(Str.ofString "strict", c)]⟩ = pure () := by kernel_rfl
theorem new_zipB (a b c : Value) : checkBuiltinCall "zip.__new__" ⟨[.type "zip", a, b], [(Str.ofString "strict", c)]⟩ = pure () := by kernel_rfl
theorem init_zipB (o a b c : Value) : argsOk "object.__init__" ⟨[o, a, b], [(Str.ofString "strict", c)]⟩ := by unfold argsOk; kernel_rfl
end F
section
variable {prog : Program} {w : World} {A : Around} {E : Value → Shared → Prop} {s : Shared}
theorem call_zipB {bb : Bool} {v1 v2 : Value} {o1 o2 : Obj} {H1 H2 : Heap → Prop} {Q : Value → Shared → Prop} (B1 : Begins v1 o1 H1) (B2 : Begins v2 o2 H2) (h1 : H1 s.heap) (h2 : H2 s.heap)
    (h : ∀ h', ZipB h' bb (s.heap.objs.size + 4) (s.heap.objs.size + 2) (s.heap.objs.size + 3) .none → IsPair h' (s.heap.objs.size + 2) (.ref s.heap.objs.size) (.ref (s.heap.objs.size + 1)) →
      IsPair h' (s.heap.objs.size + 3) .none .none → h'.get? s.heap.objs.size = some o1 → h'.get? (s.heap.objs.size + 1) = some o2 →
      (∀ c o, s.heap.get? c = some o → h'.get? c = some o) → Q (.ref (s.heap.objs.size + 4)) { s with heap := h' }) :
    wpAny (model prog w) A (call (.type "zip") [v1, v2] [(Str.ofString "strict", .bool bb)]) Q E s := by
  refine callType_newKw F.called_zip (by decide) (F.type_zipB _ _ _) (F.new_zipB _ _ _) (fun o => F.init_zipB o _ _ _) F.entry_zip_new (meets_zipB bb B1 B2) ⟨⟨h1, h2⟩, ?_⟩
  have n1 : (s.heap.push o1).objs.size = s.heap.objs.size + 1 := Heap.size_push ..
  have n2 : ((s.heap.push o1).push o2).objs.size = s.heap.objs.size + 2 := by rw [Heap.size_push, n1]
  have n3 : (gzT2 s.heap o1 o2).objs.size = s.heap.objs.size + 3 := by rw [Heap.size_push, n2]
  have n4 : (gzO2 s.heap o1 o2).objs.size = s.heap.objs.size + 4 := by rw [Heap.size_push, n3]
  have gz : (gzB2 bb s.heap o1 o2).get? (gzO2 s.heap o1 o2).objs.size = some _ := Heap.get?_push_size _ rfl
  have go : (gzB2 bb s.heap o1 o2).get? (gzT2 s.heap o1 o2).objs.size = some _ := Heap.get?_push_of_some _ (Heap.get?_push_size _ rfl)
  have gt : (gzB2 bb s.heap o1 o2).get? ((s.heap.push o1).push o2).objs.size = some _ := Heap.get?_push_of_some _ (Heap.get?_push_of_some _ (Heap.get?_push_size _ rfl))
  have g2 : (gzB2 bb s.heap o1 o2).get? (s.heap.push o1).objs.size = some o2 := Heap.get?_push_of_some _ (Heap.get?_push_of_some _ (Heap.get?_push_of_some _ (Heap.get?_push_size _ B2.free)))
  have g1 : (gzB2 bb s.heap o1 o2).get? s.heap.objs.size = some o1 := Heap.get?_push_of_some _ (Heap.get?_push_of_some _ (Heap.get?_push_of_some _ (Heap.get?_push_of_some _ (Heap.get?_push_size _ B1.free))))
  rw [n4, n3, n2] at gz
  rw [n3] at go
  rw [n2, n1] at gt
  rw [n1] at g2
  show _ ∧ _
  rw [n4]
  exact ⟨⟨_, gz, rfl⟩, h _ gz gt go g1 g2 fun c o e => Heap.get?_push_of_some _ (Heap.get?_push_of_some _ (Heap.get?_push_of_some _ (Heap.get?_push_of_some _ (Heap.get?_push_of_some _ e))))⟩
end
section
variable {M : Model} {A : Around} {E : Value → Shared → Prop} {s : Shared}
omit [Tbl] in
theorem args_kwT {f : Value} {x : Sem Value} {rest : List (Bool × Sem Value)} {keywords : List (Option Str × Sem Value)} {Q : Args → Shared → Prop} (hall : keywords.all (·.1.isSome) = true)
    (h : wpAny M A (spliced ((false, x) :: rest)) (fun vs s₁ => wpAny M A (evalAll (keywords.map (·.2))) (fun kvs s₂ => Q ⟨vs, (keywords.filterMap (·.1)).zip kvs⟩ s₂) E s₁) E s) :
    wpAny M A (evalArgs f true ((false, x) :: rest) keywords) Q E s := PyProof.Rows.evalArgs_kwB hall h
omit [Tbl] in
theorem callWith_kwT {pos : Pos} {T : String} {args : List (Bool × Sem Value)} {keywords : List (Option Str × Sem Value)} {Q : Value → Shared → Prop} (hp : args.any (·.1) = false) (hk : keywords.any (·.1.isNone) = false)
    (h : wpAny M A (evalArgs (.type T) true args keywords) (fun a s₁ => wpAny M A (call (.type T) a.pos a.kw) Q E s₁) E s) : wpAny M A (callWith pos (.type T) [] args keywords) Q E s := by
  unfold callWith
  refine wpAny_bind (wpAny_holding (wpAny_mono h (fun a s₁ h₁ => wpAny_bind (wpAny_standAt ?_)) fun _ _ x => x))
  simp only [hp, hk, Bool.or_false]
  exact wpAny_bind (wpAny_pure (wpAny_bind (wpAny_mono h₁ (fun r s₂ hr => wpAny_bind (wpAny_holding (wpAny_point (wpAny_pure hr)))) fun _ _ x => x)))
end
section
variable {X : Cx} {E : XK} {e e2 ek : Expr} {p pos tpos kpos : Pos} {elts : List Expr} {kk : Nat}
def iZipB (K : PySem.W.Frag) (bb : Bool) (ta : TA) : TI := fun σ H R => ta σ H fun vs H1 => ∃ a b xs ys, vs = [.ref a, .ref b] ∧
  ((bb = true ∧ SqL K H1 a xs ∧ SqL K H1 b ys ∧ R (Itzs K a b) H1) ∨ (bb = false ∧ SqL K H1 a xs ∧ SqL K H1 b ys ∧ R (Itz K a b) H1) ∨ (bb = false ∧ SqT K H1 a xs ∧ SqT K H1 b ys ∧ R (RZ.ItzT K a b) H1))
theorem pi_zipB {ta : TA} {bb : Bool} (hg : Gl X "zip") (hm : X.mg "zip" = none) (ha : PA X [e, e2] ta) (hek : ∀ s Q, Q (.bool bb) s → wpAny (model X.prog X.w) X.A (eval ek X.env) Q X.xe s)
    (hs : backTo pos (starEach [e, e2] X.env) = (false, eval e X.env) :: backTo pos (starEach [e2] X.env) := by rfl) (hpl : (backTo pos (starEach [e, e2] X.env)).any (·.1) = false := by rfl) :
    PI X (.Tuple elts kk tpos) (.Call (.Name "zip" p) [e, e2] [⟨some "strict", ek, kpos⟩] pos) (iZipB X.K bb ta) := by
  refine ⟨fun pins s σ H R I h => ?_⟩
  refine wpAny_Call_Name_kw (ld_blt I hg hm PyProof.Rows.boot_zip (callWith_kwT hpl rfl ?_))
  rw [hs]
  refine args_kwT rfl ?_
  rw [← hs]
  refine thn (ha.run pos pins s σ H _ I h) fun us s1 ⟨vs, H1, I1, r1, q1⟩ => ?_
  refine wpAny_evalAll_cons (wpAny_bind (hek _ _ (wpAny_bind (wpAny_standAt (wpAny_pure (wpAny_evalAll_nil ?_))))))
  obtain ⟨a, b, xs, ys, ex, q1⟩ := q1
  subst ex
  cases r1 with
  | cons r rr =>
    cases rr with
    | cons r' rr =>
      cases rr
      cases r
      cases r'
      have fr : ∀ c, c ∈ [s1.heap.objs.size + 4, s1.heap.objs.size + 2, s1.heap.objs.size + 3, s1.heap.objs.size, s1.heap.objs.size + 1] → FpOk X pins H1 c := fun c hc => by
        have le : s1.heap.objs.size ≤ c := by
          simp only [List.mem_cons, List.not_mem_nil, or_false] at hc
          rcases hc with rfl | rfl | rfl | rfl | rfl <;> omega
        exact I1.fpOk le (I1.hok.fresh le)
      rcases q1 with ⟨rfl, qx, qy, q⟩ | ⟨rfl, qx, qy, q⟩ | ⟨rfl, qx, qy, q⟩
      · obtain ⟨its, rv, p1, _⟩ := I1.list qx
        obtain ⟨its2, rv2, p2, _⟩ := I1.list qy
        refine call_zipB (begins_list a _) (begins_list b _) p1.isList p2.isList fun h' hz hTI hTO h1 h2 hk => iter_zipB hz ?_
        exact ⟨_, [s1.heap.objs.size + 4, s1.heap.objs.size + 2, s1.heap.objs.size + 3, s1.heap.objs.size, s1.heap.objs.size + 1], _, _, H1, rfl, I1.kept (t' := s1.toks) hk, turn_zipS (PySem.W.ktu_apart s1.heap.objs.size a b p1.lt p2.lt), ⟨hz, hTI, ⟨_, _, hTO⟩, ⟨_, h1, rfl, rfl⟩, ⟨_, h2, rfl, rfl⟩⟩, fr, q⟩
      · obtain ⟨its, rv, p1, _⟩ := I1.list qx
        obtain ⟨its2, rv2, p2, _⟩ := I1.list qy
        refine call_zipB (begins_list a _) (begins_list b _) p1.isList p2.isList fun h' hz hTI hTO h1 h2 hk => iter_zipB hz ?_
        exact ⟨_, [s1.heap.objs.size + 4, s1.heap.objs.size + 2, s1.heap.objs.size + 3, s1.heap.objs.size, s1.heap.objs.size + 1], _, _, H1, rfl, I1.kept (t' := s1.toks) hk, turn_zip (PySem.W.ktu_apart s1.heap.objs.size a b p1.lt p2.lt), ⟨hz, hTI, ⟨_, _, hTO⟩, ⟨_, h1, rfl, rfl⟩, ⟨_, h2, rfl, rfl⟩⟩, fr, q⟩
      · obtain ⟨its, rv, p1, _⟩ := I1.tuple qx
        obtain ⟨its2, rv2, p2, _⟩ := I1.tuple qy
        obtain ⟨w1, hw1, _⟩ := id p1
        obtain ⟨w2, hw2, _⟩ := id p2
        refine call_zipB (begins_tuple a its.toArray) (begins_tuple b its2.toArray) p1 p2 fun h' hz hTI hTO h1 h2 hk => iter_zipB hz ?_
        exact ⟨_, [s1.heap.objs.size + 4, s1.heap.objs.size + 2, s1.heap.objs.size + 3, s1.heap.objs.size, s1.heap.objs.size + 1], _, _, H1, rfl, I1.kept (t' := s1.toks) hk, RZ.turn_zipT (PySem.W.ktu_apart s1.heap.objs.size a b (Heap.lt_size hw1) (Heap.lt_size hw2)), ⟨hz, hTI, ⟨_, _, hTO⟩, ⟨_, h1, rfl, rfl⟩, ⟨_, h2, rfl, rfl⟩⟩, fr, q⟩
def zipSL (bb : Bool) : List D → Res (List D)
  | [.list xs, .list ys] => if bb = true ∧ xs.length ≠ ys.length then .stuck else .ok (pairUp xs ys)
  | [.tuple xs, .tuple ys] => if bb = true then .stuck else .ok (pairUp xs ys)
  | _ => .stuck
theorem itok_zipS {K : PySem.W.Frag} {p q : Addr} {vs us : List V} {xs ys : List D} {H0 : Hp} (hl : xs.length = ys.length) (h : H0 p = some (.lst vs)) (r : RpAll K H0 vs xs) (h' : H0 q = some (.lst us)) (r' : RpAll K H0 us ys) : ItOk K (Itzs K p q) (pairUp xs ys) H0 where
  stop := fun i H0i Hi e1 e2 hi => ⟨vs, us, SqL.of (e2 _ _ (e1 _ _ h)), SqL.of (e2 _ _ (e1 _ _ h')), by rw [pair_len] at hi; rw [r.len]; omega, by rw [pair_len] at hi; rw [r'.len]; omega⟩
  go := (itok_zip h r h' r').go
  yld := (itok_zip h r h' r').yld
theorem ji_zipB {a b : Expr} {bb : Bool} {s : Ga → Res (Ga × List D)} (hg : Gl X "zip") (hm : X.mg "zip" = none) (h : JA X E [a, b] s) (hek : ∀ s Q, Q (.bool bb) s → wpAny (model X.prog X.w) X.A (eval ek X.env) Q X.xe s)
    (hs : backTo pos (starEach [a, b] X.env) = (false, eval a X.env) :: backTo pos (starEach [b] X.env) := by rfl) (hpl : (backTo pos (starEach [a, b] X.env)).any (·.1) = false := by rfl) :
    JI X E (.Tuple elts kk tpos) (.Call (.Name "zip" p) [a, b] [⟨some "strict", ek, kpos⟩] pos) (sItA (zipSL bb) s) := by
  obtain ⟨t, pp, ha⟩ := h.ex
  refine ⟨_, pi_zipB hg hm pp hek hs hpl, fun B σ Γ H0 H R ok w => ?_⟩
  have w : IW X B E σ Γ H0 H (sItA (zipSL bb) s Γ) R := w
  show t σ H fun vs H1 => _
  refine a_then ha wok_I ok w fun Γ1 x v H01 H1 w1 ok1 g1 l1 r1 => ?_
  unfold zipSL at w1
  split at w1
  · rename_i xs ys hx
    have hx : x = [.list xs, .list ys] := hx
    subst hx
    split at w1
    · exact w1.elim
    · rename_i hz
      cases r1 with
      | cons r1 r2 =>
        cases r2 with
        | cons r2 r3 =>
          cases r3
          cases r1 with
          | lst h1 h2 =>
            cases r2 with
            | lst h3 h4 =>
              cases bb
              · exact ⟨_, _, _, _, rfl, .inr (.inl ⟨rfl, SqL.of (ok1.sub _ _ h1), SqL.of (ok1.sub _ _ h3), w1 _ H01 H1 ok1 (Grow.refl _ _ _) (Less.refl _) (itok_zip h1 h2 h3 h4)⟩)⟩
              · have hl := Decidable.not_not.mp fun q => hz ⟨rfl, q⟩
                exact ⟨_, _, _, _, rfl, .inl ⟨rfl, SqL.of (ok1.sub _ _ h1), SqL.of (ok1.sub _ _ h3), w1 _ H01 H1 ok1 (Grow.refl _ _ _) (Less.refl _) (itok_zipS hl h1 h2 h3 h4)⟩⟩
  · rename_i xs ys hx
    have hx : x = [.tuple xs, .tuple ys] := hx
    subst hx
    split at w1
    · exact w1.elim
    · rename_i hz
      have hz : bb = false := by cases bb with | true => exact absurd rfl hz | false => rfl
      subst hz
      cases r1 with
      | cons r1 r2 =>
        cases r2 with
        | cons r2 r3 =>
          cases r3
          cases r1 with
          | tup h1 h2 =>
            cases r2 with
            | tup h3 h4 => exact ⟨_, _, _, _, rfl, .inr (.inr ⟨rfl, ex_t ok1.sub h1, ex_t ok1.sub h3, w1 _ H01 H1 ok1 (Grow.refl _ _ _) (Less.refl _) (itok_zipT h1 h2 h3 h4)⟩)⟩
  · exact w1.elim
end
end Mi
namespace Mi
open PySem PySem.Spec PyProof.Rows L2 Evl

def OnlyT (cs : List (Addr × Addr)) (H : Hp) : Prop := ∀ b, H b = none ∨ (∃ p ∈ cs, p.2 = b) ∨ ∃ o xs, H b = some (.frz o (.lst xs))
section
variable {P : Program} {w : World} {K : PySem.W.Frag} {mg mb : Str → Option Value} {k : Nat} {fa a : Addr} {fd : FuncData} {x : Str} {sp : Sp} {s₁ : Shared} {cs : List (Addr × Addr)}
theorem lawG_from {H : Hp} (KX : K.In s₁.heap) (hns : s₁.heap.Ns mainGlobals mg) (hb : s₁.heap.Ns builtinsNs mb) (hbb : ∀ x : Str, x ≠ "__name__" → mb x = bootBuiltins x) (hlim : s₁.heap.NoLimit) (hg : s₁.gens = #[])
    (tE : ∀ p ∈ cs, s₁.heap.get? p.2 = some { cls := .none, data := .fields #[] }) (tC : ∀ p ∈ cs, PySem.W.CodeHd s₁.heap p.1 p.2)
    (tM : ∃ (m : Addr) (o : Obj), mg "__builtins__" = some (.ref m) ∧ m ≠ builtinsNs ∧ s₁.heap.get? m = some o ∧ o.cls = .type "module" ∧ o.dict = some builtinsNs ∧ o.data = .plain)
    (hr : Room k callerA) (F : ∀ base : Heap, K.In base → base.Ns mainGlobals mg → (∀ p ∈ cs, LamX.TabB base mg p.1 p.2) → FnG P w K mg base k fa fd [x] sp) (hbind : ∀ (s : Shared) (u : Value), BindsTo s fd ⟨[u], []⟩ [(x, u)])
    (hH : ∀ p ∈ cs, H p.2 = some (.tbl #[])) (hO : OnlyT cs H) (hok : HOk P w H s₁.heap) (hKH : ∀ b o, K.lookup b = some o → H b = none) (hdH : ∀ b o, s₁.heap.get? b = some o → (∀ xs n, o.data ≠ .seq xs n) → o.data ≠ .fields #[] → H b = none)
    (hs : sp [.ref a] H (fun v _ => v = .bl true) fun _ _ _ => False) :
    codeAny (model P w) callerA (.call (.ref fa) ⟨[.ref a], []⟩) (fun r s' => r = .ok (.ret (.bool true)) ∧ OldK s₁.heap s'.heap ∧ s'.os = s₁.os ∧ AllBare s'.gens) s₁ := by
  have hid : ∀ {b : Addr} {o : Obj}, s₁.heap.get? b = some o → (∀ xs n, o.data ≠ .seq xs n) → o.data ≠ .fields #[] → (hidT s₁.heap H).get? b = some o := fun e n1 n2 => hidT_get e (hdH _ _ e n1 n2)
  have ns' : ∀ {b : Addr} {m : Str → Option Value}, s₁.heap.Ns b m → (hidT s₁.heap H).Ns b m := fun {b m} ⟨o, es, ep, e, d, r⟩ => ⟨o, es, ep, hid e (fun xs n z => by rw [d] at z; cases z) (fun z => by rw [d] at z; cases z), d, r⟩
  have kb : K.In (hidT s₁.heap H) := fun b o e => hidT_get (KX b o e) (hKH b o e)
  obtain ⟨mc, l1, l2⟩ := hlim
  have e0 : Env0 P w K mg (hidT s₁.heap H) callerA [] s₁ H :=
    ⟨rfl, ⟨kb, ns' hns, ⟨mb, ns' hb, hbb⟩, ⟨mc, ns' l1, l2⟩⟩, fun b o e => of_hidT e, Nat.le_of_eq (hidT_size _ _), trivial, fun b hb => absurd (show b ∈ ([] : List Addr) from hb) (by simp), hok, .of_eq hg⟩
  have tB : ∀ p ∈ cs, LamX.TabB (hidT s₁.heap H) mg p.1 p.2 := by
    intro p hp
    have ep := tE p hp
    constructor
    · obtain ⟨o, us, f1, f2, f3, f4, f5, f6, f7, e, c1, c2, c3, c4⟩ := tC p hp
      refine ⟨o, us, f1, f2, f3, f4, f5, f6, f7, hid e (fun xs n z => ?_) (fun z => ?_), c1, c2, c3, c4⟩ <;> (rw [c2] at z; cases z)
      simp at c3
    · obtain ⟨m, o, m1, m2, m3, m4, m5, m6⟩ := tM
      refine ⟨m, o, m1, m2, fun z => ?_, fun z => ?_, hid m3 (fun xs n z => ?_) (fun z => ?_), m4, m5, m6⟩
      · obtain ⟨o', es, ei, g1, g2, _⟩ := hns
        rw [z, g1] at m3; cases m3; rw [g2] at m6; cases m6
      · rw [z, ep] at m3; cases m3; cases m6
      · rw [m6] at z; cases z
      · rw [m6] at z; cases z
    · intro z
      obtain ⟨o', es, ei, g1, g2, _⟩ := hns
      rw [z, ep] at g1; cases g1; cases g2
  refine codeAny_mono ((F _ kb (ns' hns) tB).go callerA [] s₁ H _ [.ref a] [.ref a] _ _ hr rfl e0 (hbind s₁ (.ref a)) (.cons rfl .nil) hs) ?_
  intro r s' h
  match r, h with
  | .error _, ⟨_, _, _, _, _, _, _, _, _, _, _, _, z⟩ => exact z.elim
  | .ok .next, h => exact h.elim
  | .ok .brk, h => exact h.elim
  | .ok .cont, h => exact h.elim
  | .ok (.ret u), ⟨v, H', os, bare, un, hok', r', q⟩ =>
    cases (show v = .bl true from q)
    cases (show u = Value.bool true from r')
    have tab : ∀ p ∈ cs, ∃ vs : Array Value, s'.heap.get? p.2 = some { cls := .none, data := .fields vs } := fun p hp => by
      obtain ⟨vs, z⟩ := un.tbls _ _ (hH p hp)
      exact ⟨_, hok' _ _ z⟩
    have same : ∀ b o, s₁.heap.get? b = some o → (∀ p ∈ cs, p.2 ≠ b) → s'.heap.get? b = some o := fun b o e nt => by
      rcases hO b with z | ⟨p, hp, z⟩ | ⟨ob, xs, z⟩
      · exact un.keep b o e z (by intro y; exact absurd (show b ∈ ([] : List Addr) from y) (by simp)) (by simp)
      · exact absurd z (nt p hp)
      · have z1 := (hok b _ z).1
        rw [e] at z1
        cases z1
        exact (hok' b _ (un.frzs b _ _ z)).1
    refine ⟨rfl, ⟨fun b o e => ?_, fun b o e => ?_⟩, os, bare⟩
    all_goals by_cases hb : ∃ p ∈ cs, p.2 = b
    · obtain ⟨p, hp, rfl⟩ := hb
      obtain ⟨vs, z⟩ := tab p hp
      have ep := tE p hp
      rw [ep] at e; cases e
      exact .inr (.inl ⟨((tC p hp).tab ep).isCodeTable, rfl, #[], vs, rfl, by rw [Array.empty_append]; exact z⟩)
    · exact .inl (same b o e fun p hp z => hb ⟨p, hp, z⟩)
    · obtain ⟨p, hp, rfl⟩ := hb
      obtain ⟨vs, z⟩ := tab p hp
      exact ⟨_, z⟩
    · exact ⟨o, same b o e fun p hp z => hb ⟨p, hp, z⟩⟩
theorem lawG {vs : List Value} {ns : List Int} (KX : K.In s₁.heap) (hns : s₁.heap.Ns mainGlobals mg) (hb : s₁.heap.Ns builtinsNs mb) (hbb : ∀ x : Str, x ≠ "__name__" → mb x = bootBuiltins x) (hlim : s₁.heap.NoLimit) (hg : s₁.gens = #[])
    (tE : ∀ p ∈ cs, s₁.heap.get? p.2 = some { cls := .none, data := .fields #[] }) (tK : ∀ p ∈ cs, K.lookup p.2 = none) (tC : ∀ p ∈ cs, PySem.W.CodeHd s₁.heap p.1 p.2)
    (tM : ∃ (m : Addr) (o : Obj), mg "__builtins__" = some (.ref m) ∧ m ≠ builtinsNs ∧ s₁.heap.get? m = some o ∧ o.cls = .type "module" ∧ o.dict = some builtinsNs ∧ o.data = .plain)
    (ha : s₁.heap.get? a = some { cls := .type "list", data := .seq vs.toArray }) (hi : IntsAre vs ns) (hl : ns.length ≤ sizeLine) (hr : Room k callerA)
    (F : ∀ base : Heap, K.In base → base.Ns mainGlobals mg → (∀ p ∈ cs, LamX.TabB base mg p.1 p.2) → FnG P w K mg base k fa fd [x] sp) (hbind : ∀ (s : Shared) (u : Value), BindsTo s fd ⟨[u], []⟩ [(x, u)])
    (hsp : ∀ H : Hp, (∀ p ∈ cs, H p.2 = some (.tbl #[])) → SqL K H a (ns.map V.int) → sp [.ref a] H (fun v _ => v = .bl true) fun _ _ _ => False) :
    codeAny (model P w) callerA (.call (.ref fa) ⟨[.ref a], []⟩) (fun r s' => r = .ok (.ret (.bool true)) ∧ OldK s₁.heap s'.heap ∧ s'.os = s₁.os ∧ AllBare s'.gens) s₁ := by
  classical
  let tb : Addr → Prop := fun b => ∃ p ∈ cs, p.2 = b
  have nta : ¬ tb a := fun ⟨p, hp, z⟩ => by
    have e := tE p hp
    rw [z, ha] at e; cases e
  have tbE : ∀ b, tb b → s₁.heap.get? b = some { cls := .none, data := .fields #[] } := fun b ⟨p, hp, z⟩ => z ▸ tE p hp
  cases hk : K.lookup a with
  | some o =>
    have eo : o = { cls := .type "list", data := .seq vs.toArray } := Option.some.inj ((KX a o hk).symm.trans ha)
    subst eo
    let H : Hp := fun b => if tb b then some (.tbl #[]) else none
    have on : ∀ {b}, tb b → H b = some (.tbl #[]) := fun h => if_pos h
    have off : ∀ {b}, ¬ tb b → H b = none := fun n => if_neg n
    refine lawG_from (H := H) KX hns hb hbb hlim hg tE tC tM hr F hbind (fun p hp => on ⟨p, hp, rfl⟩) (fun b => ?_) (fun b u z => ?_) (fun b o e => off fun ⟨p, hp, z⟩ => ?_) (fun b o e n1 n2 => off fun t => ?_) (hsp H (fun p hp => on ⟨p, hp, rfl⟩) (.inr ⟨_, vs.toArray, _, hk, rfl, rfl, rfl, ?_, ?_⟩))
    · by_cases t : tb b
      · exact .inr (.inl t)
      · exact .inl (off t)
    · by_cases t : tb b
      · rw [on t] at z; cases z; exact tbE b t
      · rw [off t] at z; cases z
    · rw [← z, tK p hp] at e; cases e
    · rw [tbE b t] at e; cases e; exact n2 rfl
    · rw [List.size_toArray, hi.length]
      exact hl
    · simpa using vals_ints hi
  | none =>
    let fz : HO := .frz { cls := .type "list", data := .seq vs.toArray } (.lst (ns.map V.int))
    let H : Hp := fun b => if b = a then some fz else if tb b then some (.tbl #[]) else none
    have at_a : H a = some fz := if_pos rfl
    have on : ∀ {b}, tb b → H b = some (.tbl #[]) := fun {b} h => (if_neg fun z : b = a => nta (z ▸ h)).trans (if_pos h)
    have off : ∀ {b}, b ≠ a → ¬ tb b → H b = none := fun n n' => (if_neg n).trans (if_neg n')
    refine lawG_from (H := H) KX hns hb hbb hlim hg tE tC tM hr F hbind (fun p hp => on ⟨p, hp, rfl⟩) (fun b => ?_) (fun b u z => ?_) (fun b o e => off (fun q => ?_) fun ⟨p, hp, z⟩ => ?_) (fun b o e n1 n2 => off (fun q => ?_) fun t => ?_) (hsp H (fun p hp => on ⟨p, hp, rfl⟩) (.inl (.inr ⟨_, at_a⟩)))
    · by_cases t : tb b
      · exact .inr (.inl t)
      · by_cases e : b = a
        · exact .inr (.inr ⟨_, _, e ▸ at_a⟩)
        · exact .inl (off e t)
    · by_cases t : tb b
      · rw [on t] at z; cases z; exact tbE b t
      · by_cases e : b = a
        · subst e
          rw [at_a] at z
          cases z
          exact ⟨ha, by rw [List.length_map]; exact hl, vs, _, vals_ints hi, ha⟩
        · rw [off e t] at z
          cases z
    · rw [q, hk] at e
      cases e
    · rw [← z, tK p hp] at e; cases e
    · rw [q, ha] at e
      cases e
      exact n1 _ _ rfl
    · rw [tbE b t] at e; cases e; exact n2 rfl
end
structure Tab0 (K : PySem.W.Frag) (h : Heap) (cs : List (Addr × Addr)) : Prop where
  e : ∀ p ∈ cs, h.get? p.2 = some { cls := .none, data := .fields #[] }
  k : ∀ p ∈ cs, K.lookup p.2 = none
  c : ∀ p ∈ cs, PySem.W.CodeHd h p.1 p.2
theorem tab0_nil {K : PySem.W.Frag} {h : Heap} : Tab0 K h [] := ⟨nofun, nofun, nofun⟩
theorem walkG {l : PySem.W.OpenLaw} {n k : Nat} {q : Program} {loose : List Str} {XP : (Str → Option Value) → Heap → Prop} {YP : World → Heap → Prop} {d : DefRec} {K : Params → PySem.W.Frag} {x : Str} {m : Ga → Res (Ga × R)}
    (hn : l.most = some n) (hn2 : n ≤ sizeLine) (hdf : d.params.defaults = []) (hr : Room k callerA)
    (hY : ∀ (w : World) (h : Heap), YP w h → (K w.params).In h)
    (F : ∀ (w : World) (mg : Str → Option Value) (fa : Addr) (h : Heap), YP w h → (K w.params).In h → h.Ns mainGlobals mg → mg d.name = some (.ref fa) →
      ∃ (fd : FuncData) (T : Tbl) (cs : List (Addr × Addr)), Tab0 (K w.params) h cs ∧ (∀ p ∈ T.T, ∃ c, (c, p.1) ∈ cs) ∧ T.C = [] ∧ (∀ b, T.M b = none) ∧ (∀ (s : Shared) (u : Value), BindsTo s fd ⟨[u], []⟩ [(x, u)]) ∧
        ∀ base : Heap, (K w.params).In base → base.Ns mainGlobals mg → (∀ p ∈ cs, LamX.TabB base mg p.1 p.2) → FD l.prog w (K w.params) mg base k fa fd [x] m)
    (law : ∀ ns : List Int, ns.length ≤ n → (∀ z ∈ ns, Builtin.Int.intBits z ≤ 1048576) → ∃ Γ, m [.scr ns] = .ok (Γ, .d (.bool true))) :
    PySem.W.WalkO q loose XP YP l.row.toRowW d [] (fun f vs => PySem.call f vs) := by
  refine Att.attach_callB hn hdf fun w s₀ s₁ mg mb fa o pm cd doc a vs ns G Y ho hd hcd hmg hobj hints hlen hbits hg => ?_
  have KX := hY w _ Y
  obtain ⟨fd, T, cs, t0, tc, tC, tM, hb, hF⟩ := F w mg fa _ Y KX G.T.g hmg
  refine lawG KX G.T.g G.T.b G.T.builtins G.T.nolimit hg t0.e t0.k t0.c G.T.bmain hobj hints (Nat.le_trans hlen hn2) hr (fun base h1 h2 h3 => (hF base h1 h2 h3).ok) hb fun H hH hS => ?_
  obtain ⟨Γ', e⟩ := law ns hlen hbits
  let H0 : Hp := fun b => match H b with
    | some (.tbl _) => none
    | o => o
  have h0 : ∀ {b : Addr} {o : HO}, H b = some o → (∀ ps, o ≠ .tbl ps) → H0 b = some o := fun {b o} e n => by
    show (match H b with | some (.tbl _) => none | o => o) = some o
    rw [e]
    cases o <;> first | rfl | exact absurd rfl (n _)
  have h1 : ∀ {b : Addr} {o : HO}, H0 b = some o → H b = some o ∧ ∀ ps, o ≠ .tbl ps := fun {b o} e => by
    have e : (match H b with | some (.tbl _) => none | o => o) = some o := e
    split at e
    · cases e
    · rename_i n; exact ⟨e, fun ps z => n ps (by rw [← z]; exact e)⟩
  have hS0 : SqL (K w.params) H0 a (ns.map V.int) := by
    rcases hS with (z | ⟨o, z⟩) | z
    · exact .inl (.inl (h0 z nofun))
    · exact .inl (.inr ⟨o, h0 z nofun⟩)
    · exact .inr z
  refine ⟨rfl, H0, [.scr ns], ?_, ?_⟩
  · refine ⟨fun b o q => (h1 q).1, rfl, fun i y q => ?_, fun i ms q => ?_, fun i b xs q => ?_, fun i j b c xs ys p _ q => ?_, Grow.refl _ _ _, ⟨fun p hp => ?_, fun p hp => by rw [tC] at hp; cases hp⟩, ⟨fun b o e => (by rw [tM b] at e; cases e), fun p ps q => (h1 q).2 ps rfl⟩, fun i q => (by
      match i, q with
      | 0, q => cases q
      | i + 1, q => simp at q)⟩
    · match i, q with
      | 0, q => cases q
      | i + 1, q => simp at q
    · match i, q with
      | 0, q => cases q; exact ⟨a, rfl, hS0⟩
      | i + 1, q => simp at q
    · match i, q with
      | 0, q => cases q
      | i + 1, q => simp at q
    · match i, q with
      | 0, q => cases q
      | i + 1, q => simp at q
    · obtain ⟨c, hc⟩ := tc p hp
      exact .nil (hH _ hc)
  · rw [e]
    intro v H0' H' ok r
    rcases r with r
    cases r with
    | d r => cases r; rfl
theorem wG0 {K : PySem.W.Frag} {P : Program} {w : World} {mg : Str → Option Value} {k : Nat} {fa : Addr} {x : Str} {m : Ga → Res (Ga × R)} {h : Heap}
    (F : ∀ [Tbl], ∃ fd : FuncData, (∀ (s : Shared) (u : Value), BindsTo s fd ⟨[u], []⟩ [(x, u)]) ∧ ∀ base : Heap, K.In base → base.Ns mainGlobals mg → FD P w K mg base k fa fd [x] m) :
    ∃ (fd : FuncData) (T : Tbl) (cs : List (Addr × Addr)), Tab0 K h cs ∧ (∀ p ∈ T.T, ∃ c, (c, p.1) ∈ cs) ∧ T.C = [] ∧ (∀ b, T.M b = none) ∧ (∀ (s : Shared) (u : Value), BindsTo s fd ⟨[u], []⟩ [(x, u)]) ∧
        ∀ base : Heap, K.In base → base.Ns mainGlobals mg → (∀ p ∈ cs, LamX.TabB base mg p.1 p.2) → FD P w K mg base k fa fd [x] m := by
  letI T : Tbl := ⟨[], nofun, [], fun _ => none, 0⟩
  obtain ⟨fd, a, b⟩ := F
  exact ⟨fd, T, [], tab0_nil, nofun, rfl, fun _ => rfl, a, fun base h1 h2 _ => b base h1 h2⟩
end Mi
namespace Mi
open PySem PySem.Spec PyProof.Rows L2 Evl
variable [Tbl]
section
variable {X : Cx} {E : XK} {e a b c : Expr} {pos : Pos} {x : Str} {p : Pos}

theorem jd_gstr {z : Str} {t : Tok} (hg : Gl X x) (hm : X.mg x = some (.str z t)) (hd : (x == ("__debug__" : Str)) = false := by decide) : JD X E (.Name x p) (sC (.str z)) := jd_const (pe_glob (v := .str z) hg hm ⟨t, rfl⟩ hd) rfl fun _ _ => .str z

def sChain (g h : D → D → Res R) (sa sb sc : Ga → Res (Ga × D)) : Ga → Res (Ga × R) := fun Γ => (sa Γ).bind fun p => (sb p.1).bind fun q => (g p.2 q.2).bind fun z => match z with
  | .d (.bool true) => (sc q.1).bind fun r => (h q.2 r.2).bind fun y => .ok (r.1, y)
  | .d (.bool false) => .ok (q.1, .d (.bool false))
  | _ => .stuck
def sLenScr (i : Nat) : Ga → Res (Ga × R) := fun Γ => match Γ[i]? with
  | some (.scr ns) => .ok (Γ, .d (.int ns.length))
  | _ => .stuck
theorem je_lenScr {i : Nat} {y : Str} {q : Pos} (hg : Gl X y) (hm : X.mg y = none) (hv : bootBuiltins y = some (.builtin "len")) (pa : PE X e (tVar i)) (hn : y ≠ "__name__" := by decide) (hdb : (y == ("__debug__" : Str)) = false := by decide)
    (hst : starEach (e :: []) X.env = (false, eval e X.env) :: starEach [] X.env := by rfl) : JE X E (.Call (.Name y q) [e] [] pos) (sLenScr i) := by
  refine ⟨_, pe_callB call_len_seq hg hm hv (pa_cons pa pa_nil hst) hn hdb hst rfl, fun B σ Γ H0 H Q ok w => ?_⟩
  unfold sLenScr at w
  split at w
  · rename_i ns hns
    obtain ⟨p, e1, hq⟩ := ok.scr i ns hns
    refine ⟨_, e1, p, _, rfl, .inl (ex_l ok.sub hq), ?_⟩
    have w := w (.int ns.length) H0 H ok (Grow.refl _ _ _) (Less.refl _) (.d (.int _))
    rw [List.length_map]
    exact w
  · exact w.elim

structure Def (K : PySem.W.Frag) (mg : Str → Option Value) (x : Str) (st : Stmt) (ps : List Str) (f : Addr) (fd : FuncData) : Prop where
  fn : Fun K x x st f fd
  at_ : mg x = some (.ref f)
  bd : Binds K fd ps []
structure Has (P : Program) (w : World) (K : PySem.W.Frag) (mg : Str → Option Value) (base : Heap) (x : Str) (k : Nat) (ps : List Str) (m : Ga → Res (Ga × R)) : Prop where
  ex : ∃ f fd, FD P w K mg base k f fd ps m ∧ mg x = some (.ref f) ∧ PySem.W.keepIn K (.ref f) = true ∧ Binds K fd ps []
theorem je_callH {j k : Nat} {ps : List Str} {m : Ga → Res (Ga × R)} {es : List Expr} {ks : List (Option Nat)} {s : Ga → Res (Ga × List D)} (F : Has X.prog X.w X.K X.mg X.base x j ps m) (hr : Room k X.A) (hj : j ≤ k) (hq : X.A.guards = some []) (hg : Gl X x) (tk : Takes X fun cls d _ H => E cls d H) (ha : JP X E (e :: es) ks s) (nd : (ks.filterMap id).Nodup) (hl : ks.length = ps.length)
    (hdb : (x == ("__debug__" : Str)) = false := by decide) (he : starEach (e :: es) X.env = (false, eval e X.env) :: starEach es X.env := by rfl) (hpl : (backTo pos (starEach es X.env)).any (·.1) = false := by rfl) :
    JE X E (.Call (.Name x p) (e :: es) [] pos) (callS m ks s) := by
  obtain ⟨f, fd, G, hm, hk, hb⟩ := F.ex
  exact je_call G (hr.mono hj) hq hg hm hk hb tk ha nd hl hdb he hpl
end
section
variable {P : Program} {w : World} {K : PySem.W.Frag} {mg : Str → Option Value} {base : Heap}
theorem has_of {x : Str} {st : Stmt} {ps N : List Str} {f : Addr} {fd : FuncData} {k : Nat} {body : Ga → Res (Ga × Fl)} (D : Def K mg x st ps f fd) (S : FnScope N ps (defScope st))
    (hbody : ∀ (cdv : Value) (A : Around) (outer : List Env) (s : Shared) (H : Hp) (E : XK), Room k (A.deeper (envOfC x (defScope st) s.heap.objs.size f cdv)) → A.guards = some [] →
      JSs (cxOf (L2.CX P w) P w K mg base N x (defScope st) f cdv A outer s H E) E (defBody st) body) : Has P w K mg base x (k + 1) ps (defS ps.length (N.length - ps.length) body) :=
  ⟨f, fd, fd_of D.fn S hbody, D.at_, D.fn.kp, D.bd⟩
end
end Mi
namespace Mi
open PySem PySem.Spec PyProof.Rows L2 Evl
variable [Tbl]

section
variable {Γ : Ga} {i j k n l : Nat} {x y : D} {xs ys : List D} {g h : D → D → Res R}
omit [Tbl] in
@[simp] theorem q_pub {s : Ga → Res (Ga × R)} : sPub s Γ = (s Γ).bind fun p => .ok (p.1, pubR p.2) := rfl
omit [Tbl] in
@[simp] theorem q_dat {s : Ga → Res (Ga × D)} : sDat s Γ = (s Γ).bind fun p => .ok (p.1, .d p.2) := rfl
omit [Tbl] in
@[simp] theorem q_pubd : pubR (.d x) = x := rfl
omit [Tbl] in
@[simp] theorem q_pubf : pubR (.f xs) = .list xs := rfl
omit [Tbl] in
@[simp] theorem q_nameU : sName i Γ = match Γ[i]? with | some (.d x) => .ok (Γ, x) | some (.own false xs) => .ok (Γ.set i (.d (.list xs)), .list xs) | _ => .stuck := rfl
omit [Tbl] in
@[simp] theorem q_slD : slD Γ i = match Γ[i]? with | some (.d x) => .ok x | some (.own (.b _) xs) => .ok (.list xs) | _ => .stuck := rfl
omit [Tbl] in
@[simp] theorem q_bor : sBor i Γ = (slD Γ i).bind fun x => .ok (Γ, x) := rfl
omit [Tbl] in
@[simp] theorem q_C : sC x Γ = .ok (Γ, x) := rfl
omit [Tbl] in
@[simp] theorem q_bin {sa sb : Ga → Res (Ga × D)} : sBin g sa sb Γ = (sa Γ).bind fun p => (sb p.1).bind fun q => (g p.2 q.2).bind fun z => .ok (q.1, z) := rfl
omit [Tbl] in
@[simp] theorem q_binN {sb : Ga → Res (Ga × D)} : sBinN g i sb Γ = (slD Γ i).bind fun _ => (sb Γ).bind fun q => (slD q.1 i).bind fun x => (g x q.2).bind fun z => .ok (q.1, z) := rfl
omit [Tbl] in
@[simp] theorem q_tst {s : Ga → Res (Ga × R)} : sTst s Γ = (s Γ).bind asB := rfl
omit [Tbl] in
@[simp] theorem q_asB {b : Bool} : asB (Γ, .d (.bool b)) = .ok (Γ, b) := rfl
omit [Tbl] in
@[simp] theorem q_and {s u : Ga → Res (Ga × Bool)} : sAnd s u Γ = (s Γ).bind fun p => if p.2 = true then u p.1 else .ok (p.1, false) := rfl
omit [Tbl] in
@[simp] theorem q_or {s u : Ga → Res (Ga × Bool)} : sOr s u Γ = (s Γ).bind fun p => if p.2 = true then .ok (p.1, true) else u p.1 := rfl
omit [Tbl] in
@[simp] theorem q_not {s : Ga → Res (Ga × Bool)} : sNot s Γ = (s Γ).bind fun p => .ok (p.1, !p.2) := rfl
omit [Tbl] in
@[simp] theorem q_val {s : Ga → Res (Ga × Bool)} : sVal s Γ = (s Γ).bind fun p => .ok (p.1, .d (.bool p.2)) := rfl
omit [Tbl] in
@[simp] theorem q_if {c : Ga → Res (Ga × Bool)} {s u : Ga → Res (Ga × R)} : sIf c s u Γ = (c Γ).bind fun p => if p.2 = true then s p.1 else u p.1 := rfl
omit [Tbl] in
@[simp] theorem q_un {g : D → Res R} {s : Ga → Res (Ga × D)} : sUn g s Γ = (s Γ).bind fun p => (g p.2).bind fun z => .ok (p.1, z) := rfl
omit [Tbl] in
@[simp] theorem q_nil : sNil Γ = .ok (Γ, []) := rfl
omit [Tbl] in
@[simp] theorem q_cons {s : Ga → Res (Ga × D)} {r : Ga → Res (Ga × List D)} : sCons s r Γ = (s Γ).bind fun p => (r p.1).bind fun q => .ok (q.1, p.2 :: q.2) := rfl
omit [Tbl] in
@[simp] theorem q_star {s : Ga → Res (Ga × D)} {r : Ga → Res (Ga × List D)} : sStar s r Γ = (s Γ).bind fun p => (starD p.2).bind fun xs => (r p.1).bind fun q => .ok (q.1, xs ++ q.2) := rfl
omit [Tbl] in
@[simp] theorem q_starl : starD (.list xs) = .ok xs := rfl
omit [Tbl] in
@[simp] theorem q_start : starD (.tuple xs) = .ok xs := rfl
omit [Tbl] in
@[simp] theorem q_tup {s : Ga → Res (Ga × List D)} : sTup s Γ = (s Γ).bind fun p => if p.2.length ≤ sizeLine then .ok (p.1, .d (.tuple p.2)) else .stuck := rfl
omit [Tbl] in
@[simp] theorem q_lst {s : Ga → Res (Ga × List D)} : sLst s Γ = (s Γ).bind fun p => if p.2.length ≤ sizeLine then .ok (p.1, .f p.2) else .stuck := rfl
omit [Tbl] in
@[simp] theorem q_noO : sNoO Γ = .ok (Γ, none) := rfl
omit [Tbl] in
@[simp] theorem q_someO {s : Ga → Res (Ga × D)} : sSomeO s Γ = (s Γ).bind fun p => match p.2 with | .int i => .ok (p.1, some i) | _ => .stuck := rfl
omit [Tbl] in
@[simp] theorem q_sl {s : Ga → Res (Ga × D)} {lo hi : Ga → Res (Ga × Option Int)} : sSl s lo hi Γ = (s Γ).bind fun p => (lo p.1).bind fun q => (hi q.1).bind fun r => (slG p.2 q.2 r.2).bind fun z => .ok (r.1, z) := rfl
omit [Tbl] in
@[simp] theorem q_slN {lo hi : Ga → Res (Ga × Option Int)} : sSlN i lo hi Γ = (slD Γ i).bind fun _ => (lo Γ).bind fun q => (hi q.1).bind fun r => (slD r.1 i).bind fun x => (slG x q.2 r.2).bind fun z => .ok (r.1, z) := rfl
omit [Tbl] in
@[simp] theorem q_slGl {lo hi : Option Int} : slG (.list xs) lo hi = .ok (.f (cutD xs lo hi)) := rfl
omit [Tbl] in
@[simp] theorem q_slGt {lo hi : Option Int} : slG (.tuple xs) lo hi = .ok (.d (.tuple (cutD xs lo hi))) := rfl
omit [Tbl] in
@[simp] theorem q_callB {g : List D → Res R} {s : Ga → Res (Ga × List D)} : sCallB g s Γ = (s Γ).bind fun p => (g p.2).bind fun z => .ok (p.1, z) := rfl
omit [Tbl] in
@[simp] theorem q_lenScr {ns : List Int} (e : Γ[i]? = some (.scr ns)) : sLenScr i Γ = .ok (Γ, .d (.int ns.length)) := by unfold sLenScr; rw [e]

omit [Tbl] in
@[simp] theorem q_chain {sa sb sc : Ga → Res (Ga × D)} : sChain g h sa sb sc Γ = (sa Γ).bind fun p => (sb p.1).bind fun q => (g p.2 q.2).bind fun z => match z with
  | .d (.bool true) => (sc q.1).bind fun r => (h q.2 r.2).bind fun y => .ok (r.1, y)
  | .d (.bool false) => .ok (q.1, .d (.bool false))
  | _ => .stuck := rfl
omit [Tbl] in
@[simp] theorem q_skip : sSkip Γ = .ok (Γ, .nx) := rfl

omit [Tbl] in
@[simp] theorem q_cond {c : Ga → Res (Ga × Bool)} {s u : Ga → Res (Ga × Fl)} : sCond c s u Γ = (c Γ).bind fun p => if p.2 = true then s p.1 else u p.1 := rfl
end
end Mi
namespace Mi
open PySem PySem.Spec PyProof.Rows L2 Evl
variable [Tbl]
section
variable {X : Cx} {E : XK} {B : Bg} {σ : L2.St} {Γ : Ga} {e a b c : Expr} {pos : Pos}
omit [Tbl] in
theorem RVB.up {K : PySem.W.Frag} {H0 H : Hp} {r : R} {v : V} {p : Addr} {o : HO} (h : RVB K B H0 H r v) (n : H p = none) : RVB K B H0 (upd H p o) r v := by
  cases h with
  | d r => exact .d r
  | f h1 h2 h3 h4 => exact .f h1 h2 (by rw [upd_ne (ne_of_none h3 n)]; exact h3) h4
theorem js_parC3 {i j l : Nat} {x y z : Str} {s : Ga → Res (Ga × List R)} {px py pz pt : Pos} {kt k2 pt2} (hc : X.calm = true) (hN : X.N.Nodup) (hi : X.N[i]? = some x) (hj : X.N[j]? = some y) (hl : X.N[l]? = some z)
    (hx : Loc X.env.scope x) (hy : Loc X.env.scope y) (hz : Loc X.env.scope z) (ha : JR X E [a, b, c] s) (fx : X.fn x = true ∨ X.env.scope.names.lookup x = some .local := by first | exact .inl rfl | exact .inr rfl) (fy : X.fn y = true ∨ X.env.scope.names.lookup y = some .local := by first | exact .inl rfl | exact .inr rfl) (fz : X.fn z = true ∨ X.env.scope.names.lookup z = some .local := by first | exact .inl rfl | exact .inr rfl)
    (hw : swappedStores [.Tuple [.Name x px, .Name y py, .Name z pz] kt pt] (.Tuple [a, b, c] k2 pt2) X.env = pure none := by rfl)
    (hs : swapsWithSole [.Tuple [.Name x px, .Name y py, .Name z pz] kt pt] (.Tuple [a, b, c] k2 pt2) pos.line X.env = pure false := by rfl) (h1 : (assignEach [.Tuple [.Name x px, .Name y py, .Name z pz] kt pt] X.env).map (·.2) = [assign (.Tuple [.Name x px, .Name y py, .Name z pz] kt pt) X.env] := by rfl) :
    JS X E (.Assign [.Tuple [.Name x px, .Name y py, .Name z pz] kt pt] (.Tuple [a, b, c] k2 pt2) pos) (sPar3 i j l s) := by
  obtain ⟨t, p, he⟩ := ha.ex
  refine ⟨_, ps_asg (pe_tup p) (pg_tup hc (pgs_cons (pg_name hN hi hx fx) (pgs_cons (pg_name hN hj hy fy) (pgs_cons (pg_name hN hl hz fz) pgs_nil)))) hs hw h1, fun B σ Γ H0 H Dn ok w => ?_⟩
  show t σ H fun xs H1 => xs.length ≤ sizeLine ∧ ∀ p, H1 p = none → gTup X.K 3 _ (.ref p) σ (upd H1 p (.tup xs)) Dn.nx
  refine r_then he wok_S ok w fun Γ1 rs vs H01 H1 w1 ok1 g1 l1 r1 => ?_
  split at w1
  · rename_i x y z hxy
    have hxy : rs = [x, y, z] := hxy
    subst hxy
    cases r1 with
    | @cons _ v _ vs r1 r2 d1 =>
      cases r2 with
      | @cons _ u _ us r2 r3 d2 =>
        cases r3 with
        | @cons _ t' _ ts r3 r4 d3 =>
          cases r4
          refine ⟨by show 3 ≤ sizeLine; unfold sizeLine; omega, fun p hp => ⟨p, [v, u, t'], rfl, SqT.of upd_same, rfl, v, [u, t'], rfl, u, [t'], rfl, t', [], rfl, rfl, ?_⟩⟩
          have ok2 := ok1.same (Grow.fresh (o := .tup [v, u, t']) hp) (Ex.upd1 ok1.sub (fresh_back ok1.sub hp))
          refine w1 _ H01 _ ?_ (Ex.refl _)
          have o1 := setR i ok2 ((r1.toB ok).up hp) fun xs a e1 e2 z => by
            subst e1 e2
            cases r1 with
            | f n _ _ _ => exact (ok.ownLive (l1.own z)).1 n
          have o2 := setR j o1 ((r2.toB ok).up hp) fun xs a e1 e2 z => by
            subst e1 e2
            rcases own_set ok1.len z with z | ⟨ys, z1, z2⟩
            · cases r2 with
              | f n _ _ _ => exact (ok.ownLive (l1.own z)).1 n
            · exact d1 ys a z1 z2 0 xs rfl rfl
          refine setR l o2 ((r3.toB ok).up hp) fun xs a e1 e2 z => ?_
          subst e1 e2
          rcases own_set o1.len z with z | ⟨ys, z1, z2⟩
          · rcases own_set ok1.len z with z | ⟨ys, z1, z2⟩
            · cases r3 with
              | f n _ _ _ => exact (ok.ownLive (l1.own z)).1 n
            · exact d1 ys a z1 z2 1 xs rfl rfl
          · exact d2 ys a z1 z2 0 xs rfl rfl
  · exact w1.elim
end
end Mi
namespace Mi
open PySem PySem.Spec PyProof.Rows L2 Evl
variable [Tbl]
section
variable {X : Cx} {E : XK} {B : Bg} {σ : L2.St} {Γ : Ga} {e : Expr} {pos : Pos}
def sMatch (c1 c2 : Str) (i j l : Nat) (s : Ga → Res (Ga × D)) (b1 b2 b3 : Ga → Res (Ga × Fl)) : Ga → Res (Ga × Fl) := fun Γ => (s Γ).bind fun p => match p.2 with
  | .tuple [.str c, x, y] => if c = c1 then b1 ((p.1.set i (.d x)).set j (.d y)) else b3 p.1
  | .tuple [.str c, y] => if c = c2 then b2 (p.1.set l (.d y)) else b3 p.1
  | _ => .stuck
end
end Mi
namespace Mi
open PySem PySem.Spec PyProof.Rows L2 Evl
variable [Tbl]
section
variable {X : Cx} {E : XK} {e : Expr} {pos : Pos}
def isiG2 (S T : String) : D → Res R := fun x => match tyD x with | some t => .ok (.d (.bool (isiB t S || isiB t T))) | none => .stuck
end
end Mi
namespace Mi
open PySem PySem.Spec PyProof.Rows L2 Evl
variable [Tbl]
section
variable {X : Cx} {E : XK} {e : Expr} {pos : Pos}
def leP (a b : V × D) : Bool := PySem.W.dataLe false Prod.snd a b
def sortP (ds : List D) : Prop := PySem.W.AllAlike ds ∧ PySem.W.Sortable ds ∧ (∀ d ∈ ds, d.depth ≤ 60) ∧ ds.length ≤ sizeLine
omit [Tbl] in
mutual
theorem alike_noD : ∀ d : D, PySem.W.alike d d = true → d.hasDict = false
  | .none, _ => by simp [PyData.hasDict]
  | .bool _, _ => by simp [PyData.hasDict]
  | .int _, _ => by simp [PyData.hasDict]
  | .str _, _ => by simp [PyData.hasDict]
  | .list xs, h => by
    rw [PySem.W.alike] at h
    simp only [PyData.hasDict]
    exact alike_noDs xs h
  | .tuple xs, h => by
    rw [PySem.W.alike] at h
    simp only [PyData.hasDict]
    exact alike_noDs xs h
  | .dict _, h => by simp [PySem.W.alike] at h
theorem alike_noDs : ∀ ds : List D, PySem.W.alikeAll ds ds = true → PyData.hasDictAll ds = false
  | [], _ => by simp [PyData.hasDictAll]
  | d :: ds, h => by
    rw [PySem.W.alikeAll, Bool.and_eq_true] at h
    simp only [PyData.hasDictAll, alike_noD d h.1, alike_noDs ds h.2, Bool.or_self]
end
omit [Tbl] in
theorem each_noD : ∀ {ds : List D}, (∀ d ∈ ds, d.hasDict = false) → PyData.hasDictAll ds = false
  | [], _ => by simp [PyData.hasDictAll]
  | d :: ds, h => by
    simp only [PyData.hasDictAll, h d List.mem_cons_self, each_noD fun x hx => h x (List.mem_cons_of_mem _ hx), Bool.or_self]
omit [Tbl] in
theorem sort_noD {ds : List D} (h : sortP ds) : PyData.hasDictAll ds = false := each_noD fun d hd => alike_noD d (h.1 d hd d hd)
omit [Tbl] in
theorem each_zip {H : Hp} {pins : List (Addr × Obj)} {σ : L2.St} {s : Shared} (I : Inv X pins σ H s) : ∀ {vs : List V} {ds : List D} {us : List Value}, DpAll X.K H vs ds → Vals vs us → PySem.W.EachIs (fun u (b : V × D) => RelV b.1 u) us (vs.zip ds) ∧ PySem.W.EachIs (fun u (b : V × D) => ∃ as, Reads s.heap u b.2 as) us (vs.zip ds)
  | _, _, _, .nil, .nil => ⟨.nil, .nil⟩
  | _, _, _, .cons d r, .cons v t => by
    obtain ⟨h1, h2⟩ := each_zip I r t
    exact ⟨.cons v h1, .cons (Dp.reads I _ _ _ d v) h2⟩
omit [Tbl] in
theorem each_vals : ∀ {us : List Value} {bs : List (V × D)}, PySem.W.EachIs (fun u (b : V × D) => RelV b.1 u) us bs → Vals (bs.map Prod.fst) us
  | _, _, .nil => .nil
  | _, _, .cons h t => .cons h (each_vals t)
omit [Tbl] in
theorem dpAll_len {K : PySem.W.Frag} {H : Hp} : ∀ {vs : List V} {ds : List D}, DpAll K H vs ds → vs.length = ds.length
  | _, _, .nil => rfl
  | _, _, .cons _ t => by simp [dpAll_len t]
omit [Tbl] in
theorem zip_snd {vs : List V} {ds : List D} (h : vs.length = ds.length) : (vs.zip ds).map Prod.snd = ds := List.map_snd_zip (by omega)
omit [Tbl] in
theorem RpAll.ofZip {K : PySem.W.Frag} {H : Hp} : ∀ {vs : List V} {ds : List D}, RpAll K H vs ds → ∀ b ∈ vs.zip ds, Rp K H b.1 b.2
  | _, _, .nil, b, h => by cases h
  | _, _, .cons r t, b, h => by
    rcases List.mem_cons.mp h with rfl | h
    · exact r
    · exact ofZip t b h
omit [Tbl] in
theorem rp_of_pairs {K : PySem.W.Frag} {H : Hp} : ∀ bs : List (V × D), (∀ b ∈ bs, Rp K H b.1 b.2) → RpAll K H (bs.map Prod.fst) (bs.map Prod.snd)
  | [], _ => .nil
  | b :: bs, h => .cons (h b List.mem_cons_self) (rp_of_pairs bs fun c hc => h c (List.mem_cons_of_mem _ hc))
end
end Mi
namespace Mi
open PySem PySem.Spec PyProof.Rows L2 Evl PySem.W
variable [Tbl]
section
variable {prog : Program} {w : World} {A : Around} {E : Value → Shared → Prop} {s : Shared} {β : Type} {R : Value → β → Prop} {enc : β → PyData} {bs : List β} {vs : List Value}
omit [Tbl] in
theorem sorted_tup {t : Addr} {o : Obj} {n : Nat} {Q : Value → Shared → Prop} (ho : s.heap.get? t = some o) (hc : o.cls = .type "tuple") (hd : o.data = .seq vs.toArray n) (e : EachIs R vs bs) (er : EachIs (fun v b => ∃ as, Reads s.heap v (enc b) as) vs bs) (hal : AllAlike (bs.map enc)) (hk : Sortable (bs.map enc)) (hL : bs.length ≤ sizeLine)
    (hu : ∀ b, b ∈ bs → A.units + 2 + (enc b).depth < cLine) (h : ∀ (h1 : Heap) (p : Addr) (out : List Value) (k : Nat) (h' : Heap), (∀ b o, s.heap.get? b = some o → h1.get? b = some o) → h1.objs.size ≤ p → (∀ b o, h1.get? b = some o → h'.get? b = some o) → h'.get? p = some { cls := .type "list", data := .seq (List.toArray out) k } → EachIs R out (bs.mergeSort (dataLe false enc)) → Q (.ref p) { s with heap := h' }) :
    wpAny (model prog w) A (call (.builtin "sorted") [.ref t]) Q E s := by
  have hvs : vs.length ≤ sizeLine := by rw [e.length]; exact hL
  refine PySem.Calls.call_function_entry kind_sorted plain_sorted entry_sorted (args_sorted1 _) ?_
  unfold Builtin.«sorted»
  refine wpAny_bind (m := checkCount "sorted" 1 1 _) (wpAny_pure ?_)
  refine wpAny_bind (wpAny_collect_seq t (.inr rfl) ho hc hd (fun h1 k1 => ?_) (by rw [List.size_toArray]; exact hvs))
  have el : vs.toArray.toList = vs := by simp
  rw [el]
  refine wpAny_bind (wpAny_newList ?_ hvs)
  have hat : (h1.push { cls := .type "list", data := .seq vs.toArray }).get? h1.objs.size = some (seqObj "list" vs.toArray 0) := Heap.get?_push_size _ rfl
  have old : ∀ b o, s.heap.get? b = some o → (sortingHeap (h1.push { cls := .type "list", data := .seq vs.toArray }) h1.objs.size vs).get? b = some o := fun b o q => sortingHeap_old (Nat.ne_of_lt (Heap.lt_size (k1 b o q))) (Heap.get?_push_of_some _ (k1 b o q))
  have er' : EachIs (fun v b => ∃ as, Reads (sortingHeap (h1.push { cls := .type "list", data := .seq vs.toArray }) h1.objs.size vs) v (enc b) as) vs bs := er.mono fun _ _ ⟨as, r⟩ => ⟨as, PyProof.Rows.Reads.keeps old r⟩
  refine wpAny_bind (wpAny_holding (wpAny_call_entry slot_list_sort ⟨_, hat, rfl⟩ entry_list_sort (list_sort_vals (s := { s with heap := h1.push { cls := .type "list", data := .seq vs.toArray } }) (κ := dataKind (sortingHeap (h1.push { cls := .type "list", data := .seq vs.toArray }) h1.objs.size vs) (bs.map enc)) hat
    (SortsAt.data (s := { s with heap := sortingHeap (h1.push { cls := .type "list", data := .seq vs.toArray }) h1.objs.size vs }) (each_map (R := fun v d => ∃ as, Reads (sortingHeap (h1.push { cls := .type "list", data := .seq vs.toArray }) h1.objs.size vs) v d as) enc er') hal hk (bound_map hu)) hvs ⟨.none, rfl, ?_⟩) (args_list_sort _)))
  refine wpAny_pure ⟨_, rfl, ?_⟩
  have hout := sortVals_data (R := R) false e er' hal
  obtain ⟨k, hk'⟩ := sortedHeap_at (out := (sortVals (dataKind (sortingHeap (h1.push { cls := .type "list", data := .seq vs.toArray }) h1.objs.size vs) (bs.map enc)) false vs vs).toArray) hat
  refine h h1 _ _ k _ k1 (Nat.le_refl _) (fun b o q => ?_) hk' hout
  rw [sortedHeap_old (Nat.ne_of_lt (Heap.lt_size q)) (by rw [Heap.size_push]; exact Nat.lt_succ_of_lt (Heap.lt_size q))]
  exact Heap.get?_push_of_some _ q
end
section
variable {X : Cx} {E : XK}
noncomputable def sortedA : D → Res R
  | .list ds => if okB (sortP ds) = true then .ok (.f (ds.mergeSort fun a b => PySem.W.dataLe false id a b)) else .stuck
  | .tuple ds => if okB (sortP ds) = true then .ok (.f (ds.mergeSort fun a b => PySem.W.dataLe false id a b)) else .stuck
  | _ => .stuck
omit [Tbl] in
theorem sorted_rp {K : PySem.W.Frag} {H : Hp} {vs : List V} {ds : List D} (r1 : RpAll K H vs ds) : RpAll K H (((vs.zip ds).mergeSort leP).map Prod.fst) (ds.mergeSort fun a b => PySem.W.dataLe false id a b) := by
  have em : (vs.zip ds).map Prod.snd = ds := zip_snd r1.len
  have hm := List.map_mergeSort (r := leP) (s := fun a b => PySem.W.dataLe false id a b) (f := Prod.snd) (l := vs.zip ds) (fun a _ b _ => rfl)
  rw [em] at hm
  rw [← hm]
  exact rp_of_pairs _ fun b hb => r1.ofZip b (List.mem_mergeSort.mp hb)
theorem cd_sortedA (hu : X.A.units + 64 < cLine) : CallD1 X E (.builtin "sorted") sortedA := by
  refine ⟨fun xs H Q => ∃ a vs ds, xs = [.ref a] ∧ (SqL X.K H a vs ∨ SqT X.K H a vs) ∧ DpAll X.K H vs ds ∧ sortP ds ∧ ∀ p, H p = none → Q (.ref p) (upd H p (.lst (((vs.zip ds).mergeSort leP).map Prod.fst))), ?_, fun B σ Γ H0 H Q v x ok rx w => ?_⟩
  · intro pins s σ H xs us Q I r h
    obtain ⟨a, vs, ds, rfl, hs, hd, ⟨h1, h2, h3, h4⟩, q⟩ := h
    have hlen := dpAll_len hd
    have em : (vs.zip ds).map Prod.snd = ds := zip_snd hlen
    have ezl : (vs.zip ds).length = ds.length := by rw [List.length_zip, hlen, Nat.min_self]
    have hdep : ∀ b, b ∈ vs.zip ds → X.A.units + 2 + b.2.depth < cLine := fun b hb => by
      have : b.2 ∈ ds := by rw [← em]; exact List.mem_map_of_mem hb
      have := h3 _ this
      omega
    have hl2 : (((vs.zip ds).mergeSort leP).map Prod.fst).length ≤ sizeLine := by
      rw [List.length_map, List.length_mergeSort, ezl]
      exact h4
    rcases hs with hs | hs
    · obtain ⟨its, rv, hl, _⟩ := I.list hs
      rw [Vals.ref1 r]
      obtain ⟨z1, z2⟩ := each_zip I hd rv
      refine PySem.W.sorted_data (enc := Prod.snd) hl.isList z1 z2 (by rw [em]; exact h1) (by rw [em]; exact h2) (by rw [ezl]; exact h4) hdep fun out ho he => ?_
      obtain ⟨ep, he'⟩ := PyProof.Rows.sortedAll_at s.heap its (List.toArray out)
      exact ⟨.ref _, upd H (s.heap.objs.size + 1) (.lst (((vs.zip ds).mergeSort leP).map Prod.fst)), I.laid (t' := s.toks) (fun _ _ => PyProof.Rows.sortedAll_old) (Nat.le_succ _) ⟨hl2, out, ep, each_vals he, he'⟩, rfl, q _ (I.hok.fresh (Nat.le_succ _))⟩
    · obtain ⟨its, rv, ht, _⟩ := I.tuple hs
      rw [Vals.ref1 r]
      obtain ⟨z1, z2⟩ := each_zip I hd rv
      obtain ⟨o, e1, e2, n, e3⟩ := ht
      refine sorted_tup (enc := Prod.snd) e1 e2 e3 z1 z2 (by rw [em]; exact h1) (by rw [em]; exact h2) (by rw [ezl]; exact h4) hdep fun hh p out k h' k1 le k2 e4 he => ?_
      have I1 : Inv X pins σ H { s with heap := hh } := I.kept (t' := s.toks) k1
      exact ⟨.ref p, upd H p (.lst (((vs.zip ds).mergeSort leP).map Prod.fst)), I1.laid (t' := s.toks) k2 le ⟨hl2, out, k, each_vals he, e4⟩, rfl, q _ (I1.hok.fresh le)⟩
  · unfold sortedA at w
    split at w
    · split at w
      · rename_i ds hz
        obtain ⟨p, vs, rfl, h1, r1⟩ := rx.lst ok.sub
        exact ⟨p, vs, ds, rfl, .inl (SqL.of h1), (r1.m ok.sub).dp _ _ (sort_noD (okB_iff.mp hz)), okB_iff.mp hz, fun p hp => opd_lst ok w (sorted_rp r1) hp⟩
      · exact w.elim
    · split at w
      · rename_i ds hz
        obtain ⟨p, vs, rfl, h1, r1⟩ := rx.tup ok.sub
        exact ⟨p, vs, ds, rfl, .inr h1, (r1.m ok.sub).dp _ _ (sort_noD (okB_iff.mp hz)), okB_iff.mp hz, fun p hp => opd_lst ok w (sorted_rp r1) hp⟩
      · exact w.elim
    · exact w.elim
end
end Mi
namespace Mi
open PySem PySem.Spec PyProof.Rows L2 Evl
variable [Tbl]
section
variable {X : Cx} {E : XK}
def atomE : D → Bool
  | .none => true
  | .bool _ => true
  | .int _ => true
  | .str _ => true
  | .dict [] => true
  | .dict (_ :: _) => false
  | .list _ => false
  | .tuple _ => false
def reprP (d : D) : Prop := d.showable = true ∧ (d.hasDict = false ∨ d = .dict [] ∨ ∃ xs, d = .tuple xs ∧ xs.all atomE = true) ∧ d.depth ≤ 40 ∧ d.shown.length ≤ sizeLine
noncomputable def reprG (d : D) : Res R := if okB (reprP d) = true then .ok (.d (.str d.shown)) else .stuck
def Shw (K : PySem.W.Frag) (H : Hp) (v : V) (d : D) : Prop := (Dp K H v d ∧ d.hasDict = false) ∨ (∃ a, d = .dict [] ∧ v = .ref a ∧ H a = some (.dK [])) ∨ ∃ a vs xs, d = .tuple xs ∧ v = .ref a ∧ SqT K H a vs ∧ RpAll K H vs xs ∧ xs.all atomE = true
omit [Tbl] in
theorem RpB.show {K : PySem.W.Frag} {H0 H : Hp} {v : V} {d : D} (r : RpB K H0 H v d) (s : Ex H0 H) (h : reprP d) : Shw K H v d := by
  rcases h.2.1 with q | rfl | ⟨xs, rfl, q⟩
  · exact .inl ⟨r.dp s q, q⟩
  · rcases r with r | ⟨a, vs, ys, rfl, e, h, r⟩
    · cases r with
      | dct h1 => exact .inr (.inl ⟨_, rfl, rfl, s _ _ h1⟩)
    · cases e
  · obtain ⟨a, vs, rfl, h1, h2⟩ := r.tup s
    exact .inr (.inr ⟨a, vs, xs, rfl, rfl, h1, h2.m s, q⟩)
omit [Tbl] in
theorem Rp.show {K : PySem.W.Frag} {H : Hp} {v : V} {d : D} (r : Rp K H v d) (h : reprP d) : Shw K H v d := RpB.show (H0 := H) (.inl r) (Ex.refl _) h
end
end Mi
namespace Mi
open PySem PySem.Spec PyProof.Rows L2 Evl
variable [Tbl]
section
variable {X : Cx} {E : XK} {x : Str} {p : Pos}
end
end Mi
namespace Mi
open PySem L2 Evl
variable [Tbl]
section
variable {X : Cx} {E : XK}
omit [Tbl] in
theorem OpR.or {f : Value → Value → Sem Value} {r r' : R2} (a : OpR X f r) (b : OpR X f r') : OpR X f fun x y H Q => r x y H Q ∨ r' x y H Q := by
  intro pins s σ H x y v u Q I rx ry h
  rcases h with h | h
  · exact a pins s σ H x y v u Q I rx ry h
  · exact b pins s σ H x y v u Q I rx ry h
end
end Mi
namespace Mi
open PySem PySem.Spec PyProof.Rows L2 Evl
variable [Tbl]

section
variable {prog : Program} {w : World} {A : Around} {E : Value → Shared → Prop} {s : Shared} {z TI TO T i1 i2 : Addr} {fp1 fp2 : List Addr} {n1 n2 i : Nat} {P1 P2 : Nat → Value → Prop} {St1 St2 : Nat → Heap → Prop} {f : Bool} {oT : Obj}
omit [Tbl] in
theorem held_item {Q : Value → Shared → Prop} (S : ZipSep2 z TI TO i1 i2 fp1 fp2) (D1 : Draws prog w A i1 fp1 n1 P1 St1) (D2 : Draws prog w A i2 fp2 n2 P2 St2)
    (hz : IsZipHeld s.heap z TI TO T f) (hT : s.heap.get? T = some oT) (hTI : IsTupOf2 s.heap TI (.ref i1) (.ref i2)) (st1 : St1 i s.heap) (st2 : St2 i s.heap) (l1 : i < n1) (l2 : i < n2)
    (hQ : ∀ x1 x2 h' tk, P1 i x1 → P2 i x2 → IsZipHeld h' z TI TO T true → St1 (i + 1) h' → St2 (i + 1) h' → IsTupOf2 h' s.heap.objs.size x1 x2 → h'.objs.size = s.heap.objs.size + 1 →
      (∀ c o, c ≠ z → c ≠ i1 → c ≠ i2 → s.heap.get? c = some o → h'.get? c = some o) → Q (.ref s.heap.objs.size) { s with heap := h', toks := tk }) :
    wpAny (model prog w) A (Builtin.«zip.__next__» ⟨[.ref z], []⟩) (fun fin s' => ∃ v, fin = .done (.ret v) ∧ Q v s') E s := by
  obtain ⟨hp, g, d, tk0, os⟩ := s
  refine wpAny_bind (wpAny_pure ?_)
  refine wpAny_bind (wpAny_field hz rfl (x := .bool false) rfl ?_)
  refine wpAny_bind (wpAny_field hz rfl (x := .ref TI) rfl ?_)
  refine wpAny_bind (wpAny_seqItems hTI rfl ?_)
  show wpAny _ _ (Builtin.SmallTypes.ownedTupleIsFree (.ref z) >>= _) _ _ _
  refine wpAny_bind (wpAny_tupleHeld_zip hz hT fun g0 hz0 s0 => ?_)
  replace s0 : Heap.SameBut z hp g0 := s0
  simp only [Bool.false_eq_true, if_false]
  refine wpAny_bind ?_
  rw [← Array.forIn_toList]
  simp only [List.forIn_cons, List.forIn_nil]
  refine wpAny_bind (wpAny_bind (wpAny_holding ?_))
  show wpAny _ _ (Builtin.SmallTypes.nextOf (.ref i1) >>= _) _ _ ⟨g0, g, d, tk0, os⟩
  refine wpAny_bind (D1.item i _ _ _ l1 (D1.over st1 s0 S.zf1) fun x1 g1 tk1 p1 sn1 s1 => wpAny_pure (wpAny_pure ?_))
  replace s1 : Heap.SameBut i1 g0 g1 := s1
  refine wpAny_bind (wpAny_bind (wpAny_holding ?_))
  show wpAny _ _ (Builtin.SmallTypes.nextOf (.ref i2) >>= _) _ _ ⟨g1, g, d, tk1, os⟩
  refine wpAny_bind (D2.item i _ _ _ l2 (D2.over (D2.over st2 s0 S.zf2) s1 S.sep1_2) fun x2 g2 tk2 p2 sn2 s2 => wpAny_pure (wpAny_pure (wpAny_pure ?_)))
  replace s2 : Heap.SameBut i2 g1 g2 := s2
  show wpAny _ _ (newTuple [x1, x2] >>= _) _ _ _
  refine wpAny_bind (wpAny_newTuple (wpAny_pure ⟨_, rfl, ?_⟩))
  have hsz : g2.objs.size = hp.objs.size := by rw [s2.1, s1.1, s0.1]
  have up : ∀ (c : Addr) (o : Obj), g2.get? c = some o → (g2.push { cls := .type "tuple", data := .seq #[x1, x2] }).get? c = some o := fun c o e => Heap.get?_push_of_some _ e
  have hk : ∀ c o, c ≠ z → c ≠ i1 → c ≠ i2 → hp.get? c = some o → g2.get? c = some o := fun c o c1 c2 c3 e => s2.extBut _ _ c3 (s1.extBut _ _ c2 (s0.extBut _ _ c1 e))
  have hz2 : IsZipHeld g2 z TI TO T true := s2.extBut _ _ S.zi2 (s1.extBut _ _ S.zi1 hz0)
  have hpair : IsTupOf2 (g2.push { cls := .type "tuple", data := .seq #[x1, x2] }) g2.objs.size x1 x2 := Heap.get?_push_size _ rfl
  have hs2 : (g2.push { cls := .type "tuple", data := .seq #[x1, x2] }).objs.size = g2.objs.size + 1 := Heap.size_push ..
  show Q (.ref g2.objs.size) _
  rw [hsz] at hpair hs2 ⊢
  exact hQ x1 x2 _ tk2 p1 p2 (up _ _ hz2) (D1.frame _ _ _ (D1.over sn1 s2 S.sep2_1) fun b _ o e => up b o e) (D2.frame _ _ _ sn2 fun b _ o e => up b o e) hpair hs2 fun c o c1 c2 c3 e => up c o (hk c o c1 c2 c3 e)
omit [Tbl] in
theorem held_end {Q : Fin → Shared → Prop} (S : ZipSep2 z TI TO i1 i2 fp1 fp2) (D1 : Draws prog w A i1 fp1 n1 P1 St1) (D2 : Draws prog w A i2 fp2 n2 P2 St2)
    (hz : IsZipHeld s.heap z TI TO T f) (hT : s.heap.get? T = some oT) (hTI : IsTupOf2 s.heap TI (.ref i1) (.ref i2)) (st1 : St1 i s.heap) (st2 : St2 i s.heap) (l1 : i ≤ n1) (l2 : i ≤ n2) (hend : i = n1 ∨ i = n2)
    (hE : ∀ h' tk e, (∀ c o, c ≠ z → c ≠ i1 → c ≠ i2 → s.heap.get? c = some o → h'.get? c = some o) → (∃ o, h'.get? e = some o ∧ o.cls = .type "StopIteration") → E (.ref e) { s with heap := h', toks := tk }) :
    wpAny (model prog w) A (Builtin.«zip.__next__» ⟨[.ref z], []⟩) Q E s := by
  obtain ⟨hp, g, d, tk0, os⟩ := s
  refine wpAny_bind (wpAny_pure ?_)
  refine wpAny_bind (wpAny_field hz rfl (x := .bool false) rfl ?_)
  refine wpAny_bind (wpAny_field hz rfl (x := .ref TI) rfl ?_)
  refine wpAny_bind (wpAny_seqItems hTI rfl ?_)
  show wpAny _ _ (Builtin.SmallTypes.ownedTupleIsFree (.ref z) >>= _) _ _ _
  refine wpAny_bind (wpAny_tupleHeld_zip hz hT fun g0 hz0 s0 => ?_)
  replace s0 : Heap.SameBut z hp g0 := s0
  simp only [Bool.false_eq_true, if_false]
  refine wpAny_bind ?_
  rw [← Array.forIn_toList]
  simp only [List.forIn_cons, List.forIn_nil]
  refine wpAny_bind (wpAny_bind (wpAny_holding ?_))
  show wpAny _ _ (Builtin.SmallTypes.nextOf (.ref i1) >>= _) _ _ ⟨g0, g, d, tk0, os⟩
  by_cases h1 : i = n1
  · subst h1
    refine wpAny_bind (D1.done _ _ _ (D1.over st1 s0 S.zf1) fun h' e k he => ?_)
    exact hE h' tk0 e (fun c o c1 c2 _ x => k _ _ c2 (s0.extBut _ _ c1 x)) he
  · have h2 : i = n2 := by rcases hend with h | h; exact absurd h h1; exact h
    subst h2
    refine wpAny_bind (D1.item i _ _ _ (by omega) (D1.over st1 s0 S.zf1) fun x1 g1 tk1 p1 sn1 s1 => wpAny_pure (wpAny_pure ?_))
    replace s1 : Heap.SameBut i1 g0 g1 := s1
    refine wpAny_bind (wpAny_bind (wpAny_holding ?_))
    show wpAny _ _ (Builtin.SmallTypes.nextOf (.ref i2) >>= _) _ _ ⟨g1, g, d, tk1, os⟩
    refine wpAny_bind (D2.done _ _ _ (D2.over (D2.over st2 s0 S.zf2) s1 S.sep1_2) fun h' e k he => ?_)
    exact hE h' tk1 e (fun c o c1 c2 c3 x => k _ _ c3 (s1.extBut _ _ c2 (s0.extBut _ _ c1 x))) he

omit [Tbl] in
theorem held_next {Q : Option Value → Shared → Prop} (S : ZipSep2 z TI TO i1 i2 fp1 fp2) (D1 : Draws prog w A.in1 i1 fp1 n1 P1 St1) (D2 : Draws prog w A.in1 i2 fp2 n2 P2 St2)
    (hz : IsZipHeld s.heap z TI TO T f) (hT : s.heap.get? T = some oT) (hTI : IsTupOf2 s.heap TI (.ref i1) (.ref i2)) (st1 : St1 i s.heap) (st2 : St2 i s.heap) (l1 : i < n1) (l2 : i < n2)
    (hQ : ∀ x1 x2 h' tk, P1 i x1 → P2 i x2 → IsZipHeld h' z TI TO T true → St1 (i + 1) h' → St2 (i + 1) h' → IsTupOf2 h' s.heap.objs.size x1 x2 → h'.objs.size = s.heap.objs.size + 1 →
      (∀ c o, c ≠ z → c ≠ i1 → c ≠ i2 → s.heap.get? c = some o → h'.get? c = some o) → Q (some (.ref s.heap.objs.size)) { s with heap := h', toks := tk }) :
    wpAny (model prog w) A (pyNext (.ref z)) Q E s := by
  have hTy : s.TypeIs (.ref z) "zip" := ⟨_, hz, rfl⟩
  unfold pyNext
  exact wpAny_bind (wpAny_attempt (wpAny_callSpecial?_slot (name := Str.ofString "__next__") hTy F.slot_zip_next (wpAny_call_entry F.slot_zip_next hTy F.entry_zip_next
    (held_item S D1 D2 hz hT hTI st1 st2 l1 l2 fun x1 x2 h' tk a1 a2 a3 a4 a5 a6 a7 a8 => wpAny_pure (hQ x1 x2 h' tk a1 a2 a3 a4 a5 a6 a7 a8)) (F.args_zip_next_1 _))))
omit [Tbl] in
theorem held_stop {Q : Option Value → Shared → Prop} (S : ZipSep2 z TI TO i1 i2 fp1 fp2) (D1 : Draws prog w A.in1 i1 fp1 n1 P1 St1) (D2 : Draws prog w A.in1 i2 fp2 n2 P2 St2)
    (hz : IsZipHeld s.heap z TI TO T f) (hT : s.heap.get? T = some oT) (hTI : IsTupOf2 s.heap TI (.ref i1) (.ref i2)) (st1 : St1 i s.heap) (st2 : St2 i s.heap) (l1 : i ≤ n1) (l2 : i ≤ n2) (hend : i = n1 ∨ i = n2)
    (hQ : ∀ h' tk, (∀ c o, c ≠ z → c ≠ i1 → c ≠ i2 → s.heap.get? c = some o → h'.get? c = some o) → Q none { s with heap := h', toks := tk }) :
    wpAny (model prog w) A (pyNext (.ref z)) Q E s := by
  have hTy : s.TypeIs (.ref z) "zip" := ⟨_, hz, rfl⟩
  unfold pyNext
  refine wpAny_bind (wpAny_attempt (wpAny_callSpecial?_slot (name := Str.ofString "__next__") hTy F.slot_zip_next (wpAny_call_entry F.slot_zip_next hTy F.entry_zip_next
    (held_end S D1 D2 hz hT hTI st1 st2 l1 l2 hend fun h' tk e hk he => ?_) (F.args_zip_next_1 _))))
  obtain ⟨o, ho, hc⟩ := he
  exact wpAny_bind (wpAny_isInstance (T := "StopIteration") (b := true) ⟨o, ho, hc⟩ isSubtype_stop (wpAny_pure (hQ h' tk hk)))

structure Pairs (P1 P2 : Nat → Value → Prop) (N : Nat) (h : Heap) (Ts : List Addr) : Prop where
  nodup : Ts.Nodup
  new : ∀ T ∈ Ts, N ≤ T ∧ T < h.objs.size
  at_ : ∀ (j : Nat) (T : Addr), Ts[j]? = some T → ∃ x y, IsTupOf2 h T x y ∧ P1 j x ∧ P2 j y
omit [Tbl] in
theorem ne_low {N T z : Nat} (h : N ≤ T) (q : z < N) : T ≠ z := by omega
omit [Tbl] in
theorem Pairs.nil {h : Heap} {N : Nat} : Pairs P1 P2 N h [] := ⟨List.nodup_nil, (fun _ h => nomatch h), (fun j T h => nomatch h)⟩
omit [Tbl] in
theorem Pairs.keep {h h' : Heap} {N : Nat} {Ts : List Addr} (p : Pairs P1 P2 N h Ts) (k : ∀ T o, N ≤ T → h.get? T = some o → h'.get? T = some o) : Pairs P1 P2 N h' Ts where
  nodup := p.nodup
  new := fun T hT => by
    obtain ⟨j, hj⟩ := List.getElem?_of_mem hT
    obtain ⟨x, y, h1, _⟩ := p.at_ j T hj
    exact ⟨(p.new T hT).1, Heap.lt_size (k T _ (p.new T hT).1 h1)⟩
  at_ := fun j T e => let ⟨x, y, h1, h2⟩ := p.at_ j T e; ⟨x, y, k T _ (p.new T (List.mem_of_getElem? e)).1 h1, h2⟩
omit [Tbl] in
theorem Pairs.snoc {h h' : Heap} {N : Nat} {Ts : List Addr} {x y : Value} (p : Pairs P1 P2 N h Ts) (hN : N ≤ h.objs.size) (k : ∀ T o, N ≤ T → h.get? T = some o → h'.get? T = some o)
    (ht : IsTupOf2 h' h.objs.size x y) (hx : P1 Ts.length x) (hy : P2 Ts.length y) : Pairs P1 P2 N h' (Ts ++ [h.objs.size]) where
  nodup := by
    rw [List.nodup_append]
    refine ⟨p.nodup, List.nodup_cons.mpr ⟨(fun h => nomatch h), List.nodup_nil⟩, fun a ha b hb => ?_⟩
    rw [List.mem_singleton] at hb
    rw [hb]; exact Nat.ne_of_lt (p.new a ha).2
  new := fun T hT => by
    rcases List.mem_append.mp hT with q | q
    · exact (p.keep k).new T q
    · rw [List.mem_singleton] at q; subst q; exact ⟨hN, Heap.lt_size ht⟩
  at_ := fun j T e => by
    by_cases hj : j < Ts.length
    · rw [List.getElem?_append_left hj] at e
      exact (p.keep k).at_ j T e
    · rw [List.getElem?_append_right (by omega)] at e
      have hj0 : j - Ts.length = 0 := by
        have := (List.getElem?_eq_some_iff.mp e).1
        simp at this; omega
      rw [hj0] at e
      have e : h.objs.size = T := by simpa using e
      have hj2 : j = Ts.length := by omega
      subst hj2; subst e
      exact ⟨x, y, ht, hx, hy⟩
omit [Tbl] in
theorem zip_drain {R : Result → Shared → Prop} (S : ZipSep2 z TI TO i1 i2 fp1 fp2) (D1 : Draws prog w A.in1.in1 i1 fp1 n1 P1 St1) (D2 : Draws prog w A.in1.in1 i2 fp2 n2 P2 St2) {L : Addr} {N : Nat} (hn : min n1 n2 ≤ sizeLine)
    (hz : z < N) (hTI : TI < N) (hTO : TO < N) (hf1 : ∀ b ∈ fp1, b < N) (hf2 : ∀ b ∈ fp2, b < N) (hL : L < N) (Lz : L ≠ z) (LTI : L ≠ TI) (LTO : L ≠ TO) (Lf1 : L ∉ fp1) (Lf2 : L ∉ fp2) (res : Value) :
    ∀ (k i : Nat) (s : Shared) (Ts : List Addr) (c : Nat), min n1 n2 - i = k → i ≤ min n1 n2 → Ts.length = i → N ≤ s.heap.objs.size → IsTupOf2 s.heap TI (.ref i1) (.ref i2) → St1 i s.heap → St2 i s.heap →
      ((IsZip s.heap z TI TO .none ∧ ∃ a b, IsTupOf2 s.heap TO a b) ∨ ∃ T f oT, IsZipHeld s.heap z TI TO T f ∧ s.heap.get? T = some oT ∧ N ≤ T) →
      s.heap.get? L = some { cls := .type "list", dict := none, data := .seq (Ts.map Value.ref).toArray c, slots := #[] } → Pairs P1 P2 N s.heap Ts →
      (∀ h' tk Ts' c', (∀ b o, b ≠ L → b ≠ z → b ≠ TO → b ≠ i1 → b ≠ i2 → s.heap.get? b = some o → h'.get? b = some o) →
        h'.get? L = some { cls := .type "list", dict := none, data := .seq (Ts'.map Value.ref).toArray c', slots := #[] } → Ts'.length = min n1 n2 → Pairs P1 P2 N h' Ts' → R (.ok (.ret res)) { s with heap := h', toks := tk }) →
      codeAny (model prog w) A (.builtin "list.extend.loop" ⟨[.ref L, .ref z, res], []⟩) R s := by
  have hi1 : i1 < N := hf1 _ S.mem1
  have hi2 : i2 < N := hf2 _ S.mem2
  have Li1 : L ≠ i1 := fun e => Lf1 (by rw [e]; exact S.mem1)
  have Li2 : L ≠ i2 := fun e => Lf2 (by rw [e]; exact S.mem2)
  intro k
  induction k with
  | zero =>
    intro i s Ts c hk hi hlen hN hti st1 st2 hzz hl hp hR
    have hie : i = n1 ∨ i = n2 := by omega
    refine codeAny_builtin F.entry_extend_loop ?_
    rw [Around.under_plainId F.plain_extend_loop _]
    show wpAny _ A.in1 (pyNext (.ref z) >>= _) _ _ s
    have fin : ∀ h' tk, (∀ c o, c ≠ z → c ≠ TO → c ≠ i1 → c ≠ i2 → s.heap.get? c = some o → h'.get? c = some o) → R (.ok (.ret res)) { s with heap := h', toks := tk } := fun h' tk hk =>
      hR h' tk Ts c (fun b o _ b1 b2 b3 b4 e => hk b o b1 b2 b3 b4 e) (hk _ _ Lz LTO Li1 Li2 hl) (by omega) (hp.keep fun T o hT e => hk T o (ne_low hT hz) (ne_low hT hTO) (ne_low hT hi1) (ne_low hT hi2) e)
    rcases hzz with ⟨h0, a, b, ho⟩ | ⟨T, f, oT, h0, hT, hNT⟩
    · exact wpAny_bind (wpAny_pyNext_zipD2_end S D1 D2 h0 hti ho st1 st2 (by omega) (by omega) hie fun h' tk hk => wpAny_pure (fin h' tk hk))
    · exact wpAny_bind (held_stop S D1 D2 h0 hT hti st1 st2 (by omega) (by omega) hie fun h' tk hk => wpAny_pure (fin h' tk fun c o c1 _ c3 c4 e => hk c o c1 c3 c4 e))
  | succ k ih =>
    intro i s Ts c hk hi hlen hN hti st1 st2 hzz hl hp hR
    refine codeAny_builtin F.entry_extend_loop ?_
    rw [Around.under_plainId F.plain_extend_loop _]
    show wpAny _ A.in1 (pyNext (.ref z) >>= _) _ _ s
    have go : ∀ (x1 x2 : Value) (h' : Heap) (tk : Nat), P1 i x1 → P2 i x2 → (∃ T f oT, IsZipHeld h' z TI TO T f ∧ h'.get? T = some oT ∧ N ≤ T) → St1 (i + 1) h' → St2 (i + 1) h' → IsTupOf2 h' s.heap.objs.size x1 x2 →
        (∀ c o, c ≠ z → c ≠ TO → c ≠ i1 → c ≠ i2 → s.heap.get? c = some o → h'.get? c = some o) →
        wpAny (model prog w) A.in1 (updateSeq L (·.push (.ref s.heap.objs.size)) >>= fun _ => again (.builtin "list.extend.loop" ⟨[.ref L, .ref z, res], []⟩))
          (fun fin s' => match fin with | .done f => R (.ok f) s' | .again c' => c'.quiet = true ∧ codeAny (model prog w) A c' R s') (fun e s' => R (.error e) s') { s with heap := h', toks := tk } := fun x1 x2 h' tk q1 q2 hz' s1' s2' ht hkk => by
      have hl' := hkk _ _ Lz LTO Li1 Li2 hl
      have keep3 : ∀ b o, b ≠ L → h'.get? b = some o → (h'.update L (Obj.mapSeq (·.push (Value.ref s.heap.objs.size)))).get? b = some o := fun b o hb e => (Heap.get?_update_other _ _ (Ne.symm hb)).trans e
      have pr : Pairs P1 P2 N h' (Ts ++ [s.heap.objs.size]) := hp.snoc hN (fun T o hT e => hkk T o (ne_low hT hz) (ne_low hT hTO) (ne_low hT hi1) (ne_low hT hi2) e) ht (by rw [hlen]; exact q1) (by rw [hlen]; exact q2)
      refine wpAny_bind ?_
      refine wpAny_updateSeq (s := { s with heap := h', toks := tk }) hl' rfl (wpAny_pure ⟨plainId_quiet F.plain_extend_loop _, ?_⟩) (by simp; omega) (by simp; omega)
      obtain ⟨T, f, oT, h0, hT, hNT⟩ := hz'
      have e : ((Ts ++ [s.heap.objs.size]).map Value.ref).toArray = (Ts.map Value.ref).toArray.push (.ref s.heap.objs.size) := by simp
      have hl2 : ∃ c2, (h'.update L (Obj.mapSeq (·.push (Value.ref s.heap.objs.size)))).get? L = some { cls := .type "list", dict := none, data := .seq ((Ts ++ [s.heap.objs.size]).map Value.ref).toArray c2, slots := #[] } := by
        rw [e]; exact ⟨_, Heap.get?_update_self _ hl' rfl⟩
      obtain ⟨c2, hl2⟩ := hl2
      have hsz : N ≤ (h'.update L (Obj.mapSeq (·.push (Value.ref s.heap.objs.size)))).objs.size := Nat.le_trans hN (Nat.le_of_lt (Heap.lt_size (keep3 _ _ (ne_low hN hL) ht)))
      exact ih (i + 1) _ (Ts ++ [s.heap.objs.size]) c2 (by omega) (by omega) (by rw [List.length_append, hlen]; rfl) hsz (keep3 _ _ LTI.symm (hkk _ _ S.TIz S.TITO S.TIi1 S.TIi2 hti)) (D1.frame _ _ _ s1' fun b hb o e => keep3 b o (fun q => Lf1 (q ▸ hb)) e)
        (D2.frame _ _ _ s2' fun b hb o e => keep3 b o (fun q => Lf2 (q ▸ hb)) e) (.inr ⟨T, f, oT, keep3 _ _ Lz.symm h0, keep3 _ _ (ne_low hNT hL) hT, hNT⟩) hl2 (pr.keep fun T o hT e => keep3 T o (ne_low hT hL) e)
        fun h2 tk2 Ts2 c2 k2 l2 n2' p2 => hR h2 tk2 Ts2 c2 (fun b o b0 b1 b2 b3 b4 e => k2 b o b0 b1 b2 b3 b4 (keep3 b o b0 (hkk b o b1 b2 b3 b4 e))) l2 n2' p2
    rcases hzz with ⟨h0, a, b, ho⟩ | ⟨T, f, oT, h0, hT, hNT⟩
    · refine wpAny_bind (wpAny_pyNext_zipD2_item S D1 D2 h0 hti ho st1 st2 (by omega) (by omega) fun x1 x2 h' tk y1 y2 b1 b2 d1 d2 b5 b6 hk => ?_)
      exact go x1 x2 h' tk y1 y2 ⟨_, false, _, b1, b5, hN⟩ d1 d2 b5 hk
    · refine wpAny_bind (held_next S D1 D2 h0 hT hti st1 st2 (by omega) (by omega) fun x1 x2 h' tk y1 y2 b1 d1 d2 b5 b6 hk => ?_)
      exact go x1 x2 h' tk y1 y2 ⟨T, true, oT, b1, hk _ _ (ne_low hNT hz) (ne_low hNT hi1) (ne_low hNT hi2) hT, hNT⟩ d1 d2 b5 fun c o c1 _ c3 c4 e => hk c o c1 c3 c4 e
end
end Mi
namespace Mi
open PySem PySem.Spec PyProof.Rows L2 Evl
variable [Tbl]
omit [Tbl] in
theorem zip_nolen : typeLookup (.type "zip") "__len__" = pure none := am_miss_of_fast (by decide +kernel)
omit [Tbl] in
theorem zip_nohint : typeLookup (.type "zip") "__length_hint__" = pure none := am_miss_of_fast (by decide +kernel)
section
variable {prog : Program} {w : World} {A : Around} {E : Value → Shared → Prop} {s : Shared} {z TI TO T i1 i2 : Addr} {fp1 fp2 : List Addr} {n1 n2 i : Nat} {P1 P2 : Nat → Value → Prop} {St1 St2 : Nat → Heap → Prop}
omit [Tbl] in
theorem call_list_zip {Q : Value → Shared → Prop} {a0 b0 : Value} (S : ZipSep2 z TI TO i1 i2 fp1 fp2) (D1 : Draws prog w A.in1.in1.in1 i1 fp1 n1 P1 St1) (D2 : Draws prog w A.in1.in1.in1 i2 fp2 n2 P2 St2) (hn : min n1 n2 ≤ sizeLine)
    (hz : IsZip s.heap z TI TO .none) (hTI : IsTupOf2 s.heap TI (.ref i1) (.ref i2)) (hTO : IsTupOf2 s.heap TO a0 b0) (hf1 : ∀ b ∈ fp1, b < s.heap.objs.size) (hf2 : ∀ b ∈ fp2, b < s.heap.objs.size) (st1 : St1 0 s.heap) (st2 : St2 0 s.heap)
    (hQ : ∀ h' tk Ts' c', (∀ b o, b ≠ z → b ≠ TO → b ≠ i1 → b ≠ i2 → s.heap.get? b = some o → h'.get? b = some o) →
        h'.get? s.heap.objs.size = some { cls := .type "list", dict := none, data := .seq (Ts'.map Value.ref).toArray c', slots := #[] } → Ts'.length = min n1 n2 → Pairs P1 P2 (s.heap.objs.size + 1) h' Ts' → Q (.ref s.heap.objs.size) { s with heap := h', toks := tk }) :
    wpAny (model prog w) A (call (.type "list") [.ref z]) Q E s := by
  have lz := Heap.lt_size hz
  have lTI := Heap.lt_size hTI
  have lTO := Heap.lt_size hTO
  have ne : ∀ {b : Addr}, b < s.heap.objs.size → s.heap.objs.size ≠ b := fun h => Nat.ne_of_gt h
  refine callType_codes (Q₁ := fun obj s₁ => obj = .ref s.heap.objs.size ∧ s₁ = { s with heap := s.heap.push { cls := .type "list", data := .seq #[] } }) F.called_list (F.typeCall_list_1 _) F.entry_list_init
    (code_list_new _ ⟨rfl, rfl⟩) fun obj s₁ h₁ => ?_
  obtain ⟨rfl, rfl⟩ := h₁
  have hS : (s.heap.push { cls := .type "list", data := .seq #[] }).get? s.heap.objs.size = some { cls := .type "list", data := .seq #[] } := Heap.get?_push_size _ rfl
  have hs1 : (s.heap.push { cls := .type "list", data := .seq #[] }).objs.size = s.heap.objs.size + 1 := Heap.size_push ..
  refine ⟨⟨_, hS, rfl⟩, F.args_list_init_2 _ _, ?_⟩
  show wpAny _ A.in1.in1 (do let old ← Builtin.List.listItems (.ref s.heap.objs.size); Builtin.List.listUpdate (.ref s.heap.objs.size) (fun _ => #[]); letGo old.toList.reverse; Builtin.List.listExtendWith (.ref s.heap.objs.size) (.ref z) .none) _ _ _
  refine wpAny_bind ?_
  unfold Builtin.List.listItems
  refine wpAny_bind (wpAny_seqItems hS rfl (wpAny_pure ?_))
  show wpAny _ A.in1.in1 (updateSeq s.heap.objs.size (fun _ => #[]) >>= fun _ => letGo (#[] : Array Value).toList.reverse >>= fun _ => Builtin.List.listExtendWith (.ref s.heap.objs.size) (.ref z) .none) _ _ _
  refine wpAny_bind (wpAny_updateSeq hS rfl ?_)
  have hS2 := Heap.get?_update_self (Obj.mapSeq (fun _ => (#[] : Array Value))) hS rfl
  refine wpAny_bind (wpAny_letGo ?_)
  unfold Builtin.List.listExtendWith
  have up : ∀ (h : Heap) (f : Obj → Obj), (∀ b o, s.heap.get? b = some o → h.get? b = some o) → ∀ b o, s.heap.get? b = some o → (h.update s.heap.objs.size f).get? b = some o := fun h f q b o e =>
    (Heap.get?_update_other _ _ (Ne.symm (Nat.ne_of_lt (Heap.lt_size e)))).trans (q b o e)
  have k1 : ∀ b o, s.heap.get? b = some o → (s.heap.push { cls := .type "list", data := .seq #[] }).get? b = some o := fun b o e => Heap.get?_push_of_some _ e
  have k2 := up _ (Obj.mapSeq (fun _ => (#[] : Array Value))) k1
  have gty : ∀ {h : Heap}, (∀ b o, s.heap.get? b = some o → h.get? b = some o) → ({ s with heap := h } : Shared).TypeIs (.ref z) "zip" := fun {h} q => ⟨_, q _ _ hz, rfl⟩
  refine wpAny_bind (wpAny_typeOf (gty k2) ?_)
  have h1 : Builtin.List.listSameRef (.ref s.heap.objs.size) (.ref z) = false := by simp [Builtin.List.listSameRef, ne lz]
  have h2 : (Value.type "zip" == Value.type "list") = false := by decide
  have h3 : (Value.type "zip" == Value.type "tuple") = false := by decide
  simp only [h1, h2, h3, Bool.or_false, Bool.false_eq_true, if_false]
  refine wpAny_bind (wpAny_pyIter_zip (s := { s with heap := _ }) (k2 _ _ hz) ?_)
  refine wpAny_bind (wpAny_holding ?_)
  unfold Builtin.List.listLengthHint
  refine wpAny_bind (wpAny_specialOf (gty k2) zip_nolen ?_)
  show wpAny _ A.in1.in1 (specialOf (Value.ref z) (Str.ofString "__length_hint__") >>= _) _ _ _
  refine wpAny_bind (wpAny_specialOf (gty k2) zip_nohint ?_)
  refine wpAny_pure ?_
  show wpAny _ A.in1.in1 (rule "list.extend.makes-room" >>= fun _ => Builtin.List.listTouch (.ref s.heap.objs.size) >>= fun _ =>
    again (.builtin "list.extend.loop" ⟨[.ref s.heap.objs.size, .ref z, .none], []⟩)) _ _ _
  refine wpAny_bind (wpAny_rule ?_)
  refine wpAny_bind ?_
  show wpAny _ A.in1.in1 (updateSeq s.heap.objs.size (·.push .none) >>= fun _ => updateSeq s.heap.objs.size (·.pop)) _ _ _
  refine wpAny_bind (wpAny_updateSeq hS2 rfl ?_)
  have hS3 := Heap.get?_update_self (Obj.mapSeq (·.push Value.none)) hS2 rfl
  refine wpAny_updateSeq (hz := by seq_fits) hS3 rfl ?_
  have hS4 := Heap.get?_update_self (Obj.mapSeq (·.pop)) hS3 rfl
  have k4 := up _ (Obj.mapSeq (·.pop)) (up _ (Obj.mapSeq (·.push Value.none)) k2)
  refine wpAny_pure ⟨plainId_quiet F.plain_extend_loop _, ?_⟩
  refine zip_drain (A := A.in1) S D1 D2 (N := s.heap.objs.size + 1) hn (Nat.lt_succ_of_lt lz) (Nat.lt_succ_of_lt lTI) (Nat.lt_succ_of_lt lTO) (fun b hb => Nat.lt_succ_of_lt (hf1 b hb)) (fun b hb => Nat.lt_succ_of_lt (hf2 b hb)) (Nat.lt_succ_self _)
    (ne lz) (ne lTI) (ne lTO) (fun h => Nat.lt_irrefl _ (hf1 _ h)) (fun h => Nat.lt_irrefl _ (hf2 _ h)) _ _ 0 _ [] _ rfl (Nat.zero_le _) rfl (Heap.lt_size hS4) (k4 _ _ hTI) (D1.frame _ _ _ st1 fun b _ o e => k4 b o e) (D2.frame _ _ _ st2 fun b _ o e => k4 b o e)
    (.inl ⟨k4 _ _ hz, _, _, k4 _ _ hTO⟩) hS4 Pairs.nil fun h' tk Ts' c' k l nn p => ⟨rfl, hQ h' tk Ts' c' (fun b o b1 b2 b3 b4 e => k b o (Nat.ne_of_lt (Heap.lt_size e)) b1 b2 b3 b4 (k4 b o e)) l nn p⟩
end
end Mi
namespace Mi
open PySem PySem.Spec PyProof.Rows L2 Evl
variable [Tbl]
def pairsH (H : Hp) : List Addr → List V → List V → Hp
  | T :: Ts, x :: xs, y :: ys => upd (pairsH H Ts xs ys) T (.tup [x, y])
  | _, _, _ => H
omit [Tbl] in
theorem pairsH_out {H : Hp} : ∀ (Ts : List Addr) (xs ys : List V) {p : Addr}, p ∉ Ts → pairsH H Ts xs ys p = H p
  | [], _, _, _, _ => rfl
  | _ :: _, [], _, _, _ => rfl
  | _ :: _, _ :: _, [], _, _ => rfl
  | T :: Ts, x :: xs, y :: ys, p, h => by
    show upd (pairsH H Ts xs ys) T (.tup [x, y]) p = _
    rw [upd_ne (show p ≠ T from fun e => h (by rw [e]; exact List.mem_cons_self))]
    exact pairsH_out Ts xs ys fun q => h (List.mem_cons_of_mem _ q)
omit [Tbl] in
theorem pairsH_get {H : Hp} : ∀ (Ts : List Addr) (xs ys : List V) {j : Nat} {T : Addr} {x y : V}, Ts.Nodup → Ts[j]? = some T → xs[j]? = some x → ys[j]? = some y → pairsH H Ts xs ys T = some (.tup [x, y])
  | [], _, _, _, _, _, _, _, h, _, _ => by simp at h
  | _ :: _, [], _, _, _, _, _, _, _, h, _ => by simp at h
  | _ :: _, _ :: _, [], _, _, _, _, _, _, _, h => by simp at h
  | T :: Ts, x :: xs, y :: ys, 0, _, _, _, _, h, h1, h2 => by
    simp at h h1 h2
    subst h; subst h1; subst h2
    exact upd_same
  | T :: Ts, x :: xs, y :: ys, j + 1, T', _, _, nd, h, h1, h2 => by
    simp at h h1 h2
    have nd' := List.nodup_cons.mp nd
    show upd (pairsH H Ts xs ys) T (.tup [x, y]) T' = _
    rw [upd_ne (show T' ≠ T from fun e => nd'.1 (by rw [← e]; exact List.mem_of_getElem? h))]
    exact pairsH_get Ts xs ys nd'.2 h h1 h2
omit [Tbl] in
theorem inv_many {X : Cx} {pins : List (Addr × Obj)} {σ : L2.St} {H H' : Hp} {s : Shared} {h' : Heap} {t' : Nat} (I : Inv X pins σ H s) (k : ∀ b o, s.heap.get? b = some o → h'.get? b = some o)
    (ext : ∀ p : Addr, p < s.heap.objs.size → H' p = H p) (new : ∀ (p : Addr) o, s.heap.objs.size ≤ p → H' p = some o → ObjOk X.prog X.w H' h' p o) : Inv X pins σ H' { s with heap := h', toks := t' } := by
  have low : ∀ (p : Addr) o, H p = some o → p < s.heap.objs.size := fun p o e => Nat.lt_of_not_le fun h => by rw [I.hok.fresh h] at e; cases e
  have hE : ∀ p o, H p = some o → H' p = some o := fun p o e => by rw [ext p (low p o e)]; exact e
  refine I.un { keep := fun b u q _ _ _ => k b u q, slot := fun b u q _ _ _ => ⟨u.slots, k b u q⟩, free := fun b u q n _ => by rw [ext b (Heap.lt_size q)]; exact n, there := fun b u q _ => ⟨u, k b u q⟩, tups := fun b xs q => hE _ _ q, frzs := fun b u xs q => hE _ _ q, tbls := fun b ps q => ⟨#[], by rw [hE _ _ q]; simp⟩ } fun p o e => ?_
  by_cases hp : s.heap.objs.size ≤ p
  · exact new p o hp e
  · have hp := Nat.lt_of_not_le hp
    rw [ext p hp] at e
    exact (I.hok p o e).stay (fun c v _ q => k c v q) (fun c q => hE _ _ q) fun c xs q => hE _ _ q
omit [Tbl] in
theorem vals_addrs : ∀ Ts : List Addr, Vals (Ts.map V.ref) (Ts.map Value.ref)
  | [] => .nil
  | _ :: r => .cons rfl (vals_addrs r)
section
variable {X : Cx} {E : XK} {e e2 ek : Expr} {p p0 pz pos kpos : Pos}
def tLstZip (K : PySem.W.Frag) (ta : TA) : TE := fun σ H Q => ta σ H fun vs H1 => ∃ a b xs ys, vs = [.ref a, .ref b] ∧ SqT K H1 a xs ∧ SqT K H1 b ys ∧
  ∀ (Ts : List Addr) (S : Addr), Ts.Nodup → (∀ T ∈ Ts, H1 T = none) → S ∉ Ts → H1 S = none → Ts.length = min xs.length ys.length → Q (.ref S) (upd (pairsH H1 Ts xs ys) S (.lst (Ts.map V.ref)))
def ZipMade (X : Cx) (pins : List (Addr × Obj)) (σ : L2.St) (C : Addr → Addr → List V → List V → Hp → Prop) (u : Value) (s' : Shared) : Prop :=
  ∃ (s1 : Shared) (H1 : Hp) (a b : Addr) (xs ys : List V) (its its2 : List Value) (h' : Heap), s' = { s1 with heap := h' } ∧ u = .ref (s1.heap.objs.size + 4) ∧ Inv X pins σ H1 s1 ∧ Vals xs its ∧ Vals ys its2 ∧ h'.IsTuple a its.toArray ∧ h'.IsTuple b its2.toArray ∧
    a < s1.heap.objs.size ∧ b < s1.heap.objs.size ∧ xs.length ≤ sizeLine ∧ IsZip h' (s1.heap.objs.size + 4) (s1.heap.objs.size + 2) (s1.heap.objs.size + 3) .none ∧ IsTupOf2 h' (s1.heap.objs.size + 2) (.ref s1.heap.objs.size) (.ref (s1.heap.objs.size + 1)) ∧
    IsTupOf2 h' (s1.heap.objs.size + 3) .none .none ∧ h'.IsTupleIter s1.heap.objs.size a 0 ∧ h'.IsTupleIter (s1.heap.objs.size + 1) b 0 ∧ (∀ c o, s1.heap.get? c = some o → h'.get? c = some o) ∧ C a b xs ys H1
theorem ev_zip {ta : TA} {C : Addr → Addr → List V → List V → Hp → Prop} {pins : List (Addr × Obj)} {s : Shared} {σ : L2.St} {H : Hp} (hg : Gl X "zip") (hm : X.mg "zip" = none) (ha : PA X [e, e2] ta) (hek : ∀ s Q, Q (.bool false) s → wpAny (model X.prog X.w) X.A (eval ek X.env) Q X.xe s)
    (hs : backTo pz (starEach [e, e2] X.env) = (false, eval e X.env) :: backTo pz (starEach [e2] X.env)) (hpl : (backTo pz (starEach [e, e2] X.env)).any (·.1) = false)
    (I : Inv X pins σ H s) (h : ta σ H fun vs H1 => ∃ a b xs ys, vs = [.ref a, .ref b] ∧ SqT X.K H1 a xs ∧ SqT X.K H1 b ys ∧ C a b xs ys H1) :
    wpAny (model X.prog X.w) X.A (eval (.Call (.Name "zip" p) [e, e2] [⟨some "strict", ek, kpos⟩] pz) X.env) (ZipMade X pins σ C) X.xe s := by
  refine wpAny_Call_Name_kw (ld_blt I hg hm PyProof.Rows.boot_zip (callWith_kwT hpl rfl ?_))
  rw [hs]
  refine args_kwT rfl ?_
  rw [← hs]
  refine thn (ha.run pz pins s σ H _ I h) fun us s1 ⟨vs, H1, I1, r1, q1⟩ => ?_
  refine wpAny_evalAll_cons (wpAny_bind (hek _ _ (wpAny_bind (wpAny_standAt (wpAny_pure (wpAny_evalAll_nil ?_))))))
  obtain ⟨a, b, xs, ys, ex, qx, qy, q⟩ := q1
  subst ex
  cases r1 with
  | cons r rr =>
    cases rr with
    | cons r' rr =>
      cases rr
      cases r
      cases r'
      obtain ⟨its, rv, p1, hz1⟩ := I1.tuple qx
      obtain ⟨its2, rv2, p2, _⟩ := I1.tuple qy
      obtain ⟨w1, hw1, _⟩ := id p1
      obtain ⟨w2, hw2, _⟩ := id p2
      refine call_zipB (begins_tuple a its.toArray) (begins_tuple b its2.toArray) p1 p2 fun h' hz hTI hTO h1 h2 hk => ?_
      exact ⟨s1, H1, a, b, xs, ys, its, its2, h', rfl, rfl, I1, rv, rv2, Heap.IsTuple.at p1 fun o e => hk _ o e, Heap.IsTuple.at p2 fun o e => hk _ o e, Heap.lt_size hw1, Heap.lt_size hw2, hz1, hz, hTI, hTO, ⟨_, h1, rfl, rfl⟩, ⟨_, h2, rfl, rfl⟩, hk, q⟩
theorem pe_listZip {ta : TA} (hc : X.calm = true) (hgl : Gl X "list") (hml : X.mg "list" = none) (hg : Gl X "zip") (hm : X.mg "zip" = none) (ha : PA X [e, e2] ta) (hek : ∀ s Q, Q (.bool false) s → wpAny (model X.prog X.w) X.A (eval ek X.env) Q X.xe s)
    (na : starEach [.Call (.Name "zip" p) [e, e2] [⟨some "strict", ek, kpos⟩] pz] X.env = (false, eval (.Call (.Name "zip" p) [e, e2] [⟨some "strict", ek, kpos⟩] pz) X.env) :: starEach [] X.env := by rfl)
    (hs : backTo pz (starEach [e, e2] X.env) = (false, eval e X.env) :: backTo pz (starEach [e2] X.env) := by rfl) (hpl : (backTo pz (starEach [e, e2] X.env)).any (·.1) = false := by rfl) :
    PE X (.Call (.Name "list" p0) [.Call (.Name "zip" p) [e, e2] [⟨some "strict", ek, kpos⟩] pz] [] pos) (tLstZip X.K ta) := by
  refine ⟨fun pins s σ H Q I h => ?_⟩
  refine Call_ (ld_blt I hgl hml boot_list (PyProof.Rows.callWith_type1 (args_cons (thn (ev_zip hg hm ha hek hs hpl I h) fun u s2 ⟨s1, H1, a, b, xs, ys, its, its2, h1, es, eu, I1, rv, rv2, ta', tb', la, lb, hz1, hz, hTI, hTO, st1, st2, hk, q⟩ => args_nil ?_) na) na))
  subst es; subst eu
  have l1 := rv.length
  have l2 := rv2.length
  have hh : X.A.handled = none := I1.ok.hd hc
  have lt0 : ∀ {b : Addr}, b < s1.heap.objs.size → ∀ k, b ≠ s1.heap.objs.size + k := fun h k => Nat.ne_of_lt (Nat.lt_of_lt_of_le h (Nat.le_add_right _ k))
  have up : ∀ {b : Addr}, b < s1.heap.objs.size → b < h1.objs.size := fun h => Nat.lt_trans (Nat.lt_of_lt_of_le h (Nat.le_add_right _ 4)) (Heap.lt_size hz)
  have n0 : s1.heap.objs.size < h1.objs.size := Nat.lt_of_le_of_lt (Nat.le_add_right _ 4) (Heap.lt_size hz)
  have n1 : s1.heap.objs.size + 1 < h1.objs.size := Nat.lt_of_le_of_lt (Nat.add_le_add_left (by decide) _) (Heap.lt_size hz)
  have min_eq : min its.toArray.size its2.toArray.size = min xs.length ys.length := by simp [l1, l2]
  refine call_list_zip (s := { s1 with heap := h1 }) (zip_sep2 (N := s1.heap.objs.size) (fp1 := [a]) (fp2 := [b]) (fun c hc => by rw [List.mem_singleton] at hc; rw [hc]; exact la) (fun c hc => by rw [List.mem_singleton] at hc; rw [hc]; exact lb))
    (Draws.tuple (A := X.A.in1.in1.in1) hh s1.heap.objs.size a (Nat.ne_of_lt la) its.toArray) (Draws.tuple (A := X.A.in1.in1.in1) hh (s1.heap.objs.size + 1) b (lt0 lb 1) its2.toArray) (by rw [min_eq]; exact Nat.le_trans (Nat.min_le_left _ _) hz1) hz hTI hTO
    (fun c hc => by
      rcases List.mem_cons.mp hc with e | hc
      · rw [e]; exact n0
      · rw [List.mem_singleton] at hc; rw [hc]; exact up la)
    (fun c hc => by
      rcases List.mem_cons.mp hc with e | hc
      · rw [e]; exact n1
      · rw [List.mem_singleton] at hc; rw [hc]; exact up lb)
    ⟨st1, ta'⟩ ⟨st2, tb'⟩ fun h2 tk Ts c' k2 hl nn pr => ?_
  have k3 : ∀ b o, s1.heap.get? b = some o → h2.get? b = some o := fun b o e => k2 b o (lt0 (Heap.lt_size e) 4) (lt0 (Heap.lt_size e) 3) (Nat.ne_of_lt (Heap.lt_size e)) (lt0 (Heap.lt_size e) 1) (hk b o e)
  rw [min_eq] at nn
  have hT : ∀ T ∈ Ts, h1.objs.size + 1 ≤ T := fun T h => (pr.new T h).1
  have hS : h1.objs.size ∉ Ts := fun h => Nat.not_succ_le_self _ (hT _ h)
  have big : ∀ T ∈ Ts, s1.heap.objs.size ≤ T := fun T h => Nat.le_trans (Nat.le_of_lt n0) (Nat.le_trans (Nat.le_succ _) (hT T h))
  have I2 : Inv X pins σ (upd (pairsH H1 Ts xs ys) h1.objs.size (.lst (Ts.map V.ref))) { s1 with heap := h2, toks := tk } := by
    refine inv_many I1 k3 (fun p hp => ?_) (fun p o hp e => ?_)
    · rw [upd_ne (show p ≠ h1.objs.size from Nat.ne_of_lt (Nat.lt_trans hp n0)), pairsH_out Ts xs ys fun h => Nat.lt_irrefl _ (Nat.lt_of_lt_of_le hp (big p h))]
    · by_cases hpS : p = h1.objs.size
      · subst hpS
        rw [upd_same] at e
        cases e
        exact ⟨by rw [List.length_map, nn]; exact Nat.le_trans (Nat.min_le_left _ _) hz1, Ts.map Value.ref, c', vals_addrs Ts, hl⟩
      · rw [upd_ne hpS] at e
        by_cases hm : p ∈ Ts
        · obtain ⟨j, hj⟩ := List.getElem?_of_mem hm
          have hjl : j < min xs.length ys.length := by rw [← nn]; exact (List.getElem?_eq_some_iff.mp hj).1
          have ex := List.getElem?_eq_getElem (Nat.lt_of_lt_of_le hjl (Nat.min_le_left _ _))
          have ey := List.getElem?_eq_getElem (Nat.lt_of_lt_of_le hjl (Nat.min_le_right _ _))
          rw [pairsH_get Ts xs ys pr.nodup hj ex ey] at e
          cases e
          obtain ⟨u, u', ht, hu, hu'⟩ := pr.at_ j p hj
          obtain ⟨v, hv, rv1⟩ := rv.get ex
          obtain ⟨v', hv', rv2'⟩ := rv2.get ey
          have e1 : v = u := by simpa [hv] using hu
          have e2 : v' = u' := by simpa [hv'] using hu'
          subst e1; subst e2
          exact ⟨by show 2 ≤ sizeLine; decide, [v, v'], .cons rv1 (.cons rv2' .nil), ⟨_, ht, rfl, _, rfl⟩⟩
        · rw [pairsH_out Ts xs ys hm, I1.hok.fresh hp] at e
          cases e
  exact ⟨.ref h1.objs.size, _, I2, rfl, q Ts h1.objs.size pr.nodup (fun T h => I1.hok.fresh (big T h)) hS (I1.hok.fresh (Nat.le_of_lt n0)) nn⟩
end
end Mi
namespace Mi
open PySem L2 Evl
variable [Tbl]
theorem pairs_grow {O : Addr → Prop} {H0 H : Hp} (sub : Ex H0 H) : ∀ (Ts : List Addr) (xs ys : List V), Ts.Nodup → (∀ T ∈ Ts, H T = none) → Grow O H0 H (pairsH H0 Ts xs ys) (pairsH H Ts xs ys) ∧ Ex (pairsH H0 Ts xs ys) (pairsH H Ts xs ys)
  | [], _, _, _, _ => ⟨Grow.refl _ _ _, sub⟩
  | _ :: _, [], _, _, _ => ⟨Grow.refl _ _ _, sub⟩
  | _ :: _, _ :: _, [], _, _ => ⟨Grow.refl _ _ _, sub⟩
  | T :: Ts, x :: xs, y :: ys, nd, hn => by
    have nd' := List.nodup_cons.mp nd
    obtain ⟨g, e⟩ := pairs_grow (O := O) sub Ts xs ys nd'.2 fun T h => hn T (List.mem_cons_of_mem _ h)
    have n : pairsH H Ts xs ys T = none := (pairsH_out Ts xs ys nd'.1).trans (hn T List.mem_cons_self)
    exact ⟨g.trans (O' := fun _ => False) (Grow.data n e) (fun _ h => h.elim), Ex.upd2 e⟩
omit [Tbl] in
theorem rp_pairs {K : PySem.W.Frag} {H0 Hn : Hp} (sub : Ex H0 Hn) : ∀ (Ts : List Addr) (vs us : List V) (xs ys : List D), Ts.length = min vs.length us.length → RpAll K H0 vs xs → RpAll K H0 us ys →
    (∀ (j : Nat) T x y, Ts[j]? = some T → vs[j]? = some x → us[j]? = some y → Hn T = some (.tup [x, y])) → RpAll K Hn (Ts.map V.ref) (pairUp xs ys)
  | [], vs, us, xs, ys, hl, r1, r2, h => by
    have l1 := r1.len
    have l2 := r2.len
    have : pairUp xs ys = [] := by
      apply List.eq_nil_of_length_eq_zero
      rw [pair_len]; simp at hl; omega
    rw [this]; exact .nil
  | T :: Ts, [], us, xs, ys, hl, r1, r2, h => by simp at hl
  | T :: Ts, v :: vs, [], xs, ys, hl, r1, r2, h => by simp at hl
  | T :: Ts, v :: vs, u :: us, xs, ys, hl, r1, r2, h => by
    cases r1 with
    | cons a1 b1 =>
      cases r2 with
      | cons a2 b2 =>
        refine .cons (.tup (SqT.of (h 0 T v u rfl rfl rfl)) (.cons (a1.m sub) (.one (a2.m sub)))) (rp_pairs sub Ts vs us _ _ (by simp at hl; omega) b1 b2 fun j T' x y e1 e2 e3 => h (j + 1) T' x y e1 e2 e3)
section
variable {X : Cx} {E : XK} {a b ek : Expr} {p p0 pz pos kpos : Pos}
def listZipG : List D → Res R
  | [.tuple xs, .tuple ys] => .ok (.f (pairUp xs ys))
  | _ => .stuck
theorem je_listZip {s : Ga → Res (Ga × List D)} (hc : X.calm = true) (hgl : Gl X "list") (hml : X.mg "list" = none) (hg : Gl X "zip") (hm : X.mg "zip" = none) (h : JA X E [a, b] s) (hek : ∀ s Q, Q (.bool false) s → wpAny (model X.prog X.w) X.A (eval ek X.env) Q X.xe s)
    (na : starEach [.Call (.Name "zip" p) [a, b] [⟨some "strict", ek, kpos⟩] pz] X.env = (false, eval (.Call (.Name "zip" p) [a, b] [⟨some "strict", ek, kpos⟩] pz) X.env) :: starEach [] X.env := by rfl)
    (hs : backTo pz (starEach [a, b] X.env) = (false, eval a X.env) :: backTo pz (starEach [b] X.env) := by rfl) (hpl : (backTo pz (starEach [a, b] X.env)).any (·.1) = false := by rfl) :
    JE X E (.Call (.Name "list" p0) [.Call (.Name "zip" p) [a, b] [⟨some "strict", ek, kpos⟩] pz] [] pos) (sCallB listZipG s) := by
  obtain ⟨t, pp, ha⟩ := h.ex
  refine ⟨_, pe_listZip hc hgl hml hg hm pp hek na hs hpl, fun B σ Γ H0 H Q ok w => ?_⟩
  show t σ H fun vs H1 => _
  refine a_then ha wok_E ok w fun Γ1 x v H01 H1 w1 ok1 g1 l1 r1 => ?_
  unfold listZipG at w1
  split at w1
  · rename_i xs ys hx
    have hx : x = [.tuple xs, .tuple ys] := hx
    subst hx
    cases r1 with
    | cons r1 r2 =>
      cases r2 with
      | cons r2 r3 =>
        cases r3
        cases r1 with
        | tup h1 h2 =>
          cases r2 with
          | tup h3 h4 =>
            rename_i a1 vs _ a2 us
            refine ⟨_, _, _, _, rfl, ex_t ok1.sub h1, ex_t ok1.sub h3, fun Ts S nd fr hS hSn nn => ?_⟩
            obtain ⟨gF, sub⟩ := pairs_grow (O := fun _ => False) ok1.sub Ts _ _ nd fr
            obtain ⟨gO, _⟩ := pairs_grow (O := OwnOf σ Γ1) ok1.sub Ts _ _ nd fr
            have ok2 := ok1.same gF sub
            refine opd_lst ok2 (wok_E.shift Γ1 H01 H1 Γ1 _ _ _ ok1 gO (Less.refl _) w1) (rp_pairs gF.ex0 Ts _ _ _ _ nn h2 h4 fun j T x y e1 e2 e3 => pairsH_get Ts _ _ nd e1 e2 e3) ((pairsH_out Ts _ _ hS).trans hSn)
  · exact w1.elim
end
end Mi
namespace Mi
open PySem L2 Evl
variable [Tbl]
section
variable {X : Cx} {E : XK} {a b : Expr} {p p0 pz pos : Pos}
omit [Tbl] in
theorem units65 {k : Nat} {A : Around} (hr : Room k A) : A.units + 65 < cLine := by
  have := hr.un
  omega
end
end Mi
namespace PySem
open Sem (wp)
namespace MiEn
set_option maxHeartbeats 1000000 in
theorem makes {v : Value} {o : Obj} {H : Heap → Prop} (B : Begins v o H) : Meets (Builtin.«enumerate.__new__» ⟨[.type "enumerate", v], []⟩) (fun _ R s => H s.heap ∧
    R (.ok (.ret (.ref (s.heap.push o).objs.size))) { s with heap := (s.heap.push o).push { cls := .type "enumerate", data := .fields #[.none, .bool false, .ref s.heap.objs.size, rawInt 0, .none, .none] } }) := .of_wp fun prog w A R s h => by
  obtain ⟨hp, g, d, tk, os⟩ := s
  obtain ⟨h1, hr⟩ := h
  have sub := sub_enumerate
  have turn : ∀ {A' : Around} {E : Value → Shared → Prop} {Q : Value → Shared → Prop}, Q (.ref hp.objs.size) ⟨hp.push o, g, d, tk, os⟩ → wpAny (model prog w) A' (pyIter v) Q E ⟨hp, g, d, tk, os⟩ := fun q => B.iter prog w _ _ ⟨hp, g, d, tk, os⟩ _ h1 q
  wp_walk using turn
  refine wpAny_stack_any fun st => wpAny_pure ?_
  split
  · rename_i c _ _ _ _ _
    cases (c == Value.type "enumerate") <;> (wp_walk using turn; exact ⟨_, rfl, hr⟩)
  · wp_walk using turn
    exact ⟨_, rfl, hr⟩
end MiEn
end PySem
namespace Mi
open PySem PySem.Spec PyProof.Rows L2 Evl
variable [Tbl]
def enumG : List D → Res (List D)
  | [.list xs] => .ok (numb 0 xs)
  | [.tuple xs] => .ok (numb 0 xs)
  | _ => .stuck
omit [Tbl] in
@[simp] theorem z_enumGl {xs : List D} : enumG [.list xs] = .ok (numb 0 xs) := rfl
omit [Tbl] in
@[simp] theorem z_enumGt {xs : List D} : enumG [.tuple xs] = .ok (numb 0 xs) := rfl
end Mi
namespace Mi
open PySem PySem.Spec PyProof.Rows L2 Evl
variable [Tbl]
section
variable {X : Cx} {E : XK}
def eqS : D → D → Res R
  | .str a, .str b => .ok (.d (.bool (decide (a = b))))
  | x, y => eqG x y
def neS : D → D → Res R
  | .str a, .str b => .ok (.d (.bool (!decide (a = b))))
  | x, y => neG x y
omit [Tbl] in
theorem dec_str {a b : Str} : decide (V.str a = V.str b) = decide (a = b) := by
  by_cases h : a = b
  · subst h; simp
  · have : ¬ V.str a = V.str b := fun e => h (by cases e; rfl)
    simp [h, this]
theorem opd_eqS (hu : X.A.units + 64 < cLine) : OpD X E (compareOp .Eq) eqS := by
  obtain ⟨r, h1, h2⟩ := opd_eq (E := E) hu
  refine ⟨_, OpR.or op_eq h1, fun B σ Γ H0 H Q v u x y ok rx ry w => ?_⟩
  unfold eqS at w
  split at w
  · rw [rx.str, ry.str]
    refine .inl ⟨rfl, ?_⟩
    rw [dec_str]
    exact opd_d ok w (.bl _)
  · exact .inr (h2 B σ Γ H0 H Q v u x y ok rx ry w)
theorem opd_neS (hu : X.A.units + 64 < cLine) : OpD X E (compareOp .NotEq) neS := by
  obtain ⟨r, h1, h2⟩ := opd_ne (E := E) hu
  refine ⟨_, OpR.or op_ne h1, fun B σ Γ H0 H Q v u x y ok rx ry w => ?_⟩
  unfold neS at w
  split at w
  · rw [rx.str, ry.str]
    refine .inl ⟨rfl, ?_⟩
    rw [dec_str]
    exact opd_d ok w (.bl _)
  · exact .inr (h2 B σ Γ H0 H Q v u x y ok rx ry w)
end
end Mi
namespace Mi
open PySem PySem.Spec PyProof.Rows L2 Evl
variable [Tbl]
def spStar (n : Nat) (sp : Sp) : Sp := fun vs H Q E => ∃ ws rest, vs = ws ++ rest ∧ ws.length = n ∧ rest.length ≤ sizeLine ∧ ∀ p, H p = Option.none → sp (ws ++ [V.ref p]) (upd H p (.tup rest)) Q E
def FnS (P : Program) (w : World) (K : PySem.W.Frag) (mg : Str → Option Value) (base : Heap) (k : Nat) (f : Addr) (sp : Sp) : Prop :=
  ∀ (A : Around) (fr : List Env) (s : Shared) (H : Hp) (us : List Value) (vs : List V) (Q : VK) (E : XK), Room k A → A.guards = some [] → Env0 P w K mg base A fr s H → Vals vs us → sp vs H Q E → codeAny (model P w) A (.call (.ref f) ⟨us, []⟩) (CR (L2.CX P w) fr P w H s Q E) s
structure FDS (P : Program) (w : World) (K : PySem.W.Frag) (mg : Str → Option Value) (base : Heap) (k : Nat) (f : Addr) (n : Nat) (m : Ga → Res (Ga × R)) : Prop where
  ok : FnS P w K mg base k f (spStar n (spD K mg (n + 1) m))
  shape : ∀ Γ Γ' r, m Γ = .ok (Γ', r) → Shape Γ Γ'
def BindS (fd : FuncData) (ps : List Str) (pv : Str) : Prop := ∀ us rest : List Value, us.length = ps.length → bindArgs fd ⟨us ++ rest, []⟩ = (newTuple rest >>= fun t => pure (ps.zip us ++ [(pv, t)]))
section
variable {P : Program} {w : World} {K : PySem.W.Frag} {mg : Str → Option Value} {base : Heap}
end
def packS (n : Nat) (s : Ga → Res (Ga × List D)) : Ga → Res (Ga × List D) := fun Γ => (s Γ).bind fun p => if n ≤ p.2.length ∧ p.2.length ≤ sizeLine then .ok (p.1, p.2.take n ++ [.tuple (p.2.drop n)]) else .stuck
def callV (m : Ga → Res (Ga × R)) (n : Nat) (s : Ga → Res (Ga × List D)) : Ga → Res (Ga × R) := callS m (List.replicate (n + 1) none) (packS n s)
section
variable {X : Cx} {E : XK} {B : Bg} {σ : L2.St}
variable {k : Nat} {f : Addr} {n : Nat} {m : Ga → Res (Ga × R)} {x : Str} {p pos sp_ : Pos} {e : Expr} {es : List Expr} {s : Ga → Res (Ga × List D)}
structure HasS (P : Program) (w : World) (K : PySem.W.Frag) (mg : Str → Option Value) (base : Heap) (x : Str) (k : Nat) (n : Nat) (m : Ga → Res (Ga × R)) : Prop where
  ex : ∃ f, FDS P w K mg base k f n m ∧ mg x = some (.ref f) ∧ PySem.W.keepIn K (.ref f) = true
omit [Tbl] in
theorem FnS.up {P : Program} {w : World} {K : PySem.W.Frag} {mg : Str → Option Value} {base : Heap} {j k : Nat} {f : Addr} {sp : Sp} (F : FnS P w K mg base j f sp) (h : j ≤ k) : FnS P w K mg base k f sp := fun A fr s H us vs Q E r => F A fr s H us vs Q E (r.mono h)
end
structure DefS (K : PySem.W.Frag) (mg : Str → Option Value) (x : Str) (st : Stmt) (ps : List Str) (pv : Str) (f : Addr) (fd : FuncData) : Prop where
  fn : Fun K x x st f fd
  at_ : mg x = some (.ref f)
  bd : BindS fd ps pv
section
variable {P : Program} {w : World} {K : PySem.W.Frag} {mg : Str → Option Value} {base : Heap}
end
end Mi
namespace Mi
open PySem PySem.Spec PyProof.Rows L2 Evl PySem.W
variable [Tbl]
section
variable {X : Cx} {E : XK} {e ek : Expr} {p pos kpos : Pos} {ta : TA} {tk : TE}
end
end Mi
namespace Mi
open PySem PySem.Spec PyProof.Rows L2 Evl
variable [Tbl]
section
variable {X : Cx} {E : XK}
end
end Mi
namespace Mi
open PySem PySem.Spec PyProof.Rows L2 Evl
variable [Tbl]
def gLst' (h : List D → Ga → Option Ga) (n : Nat) : D → Ga → Option Ga := fun x Γ => match x with | .list xs => if xs.length = n then h xs Γ else none | _ => none
section
variable {X : Cx} {pos : Pos}
omit [Tbl] in
@[simp] theorem z_gLst {b : List D → Ga → Option Ga} {n : Nat} {xs : List D} {Γ : Ga} : gLst' b n (.list xs) Γ = if xs.length = n then b xs Γ else none := rfl
end
end Mi
namespace Mi
open PySem PySem.Spec PyProof.Rows L2 Evl
variable [Tbl]
structure BaseE (bmB : List Value) (newId : String) : Prop where
  ex : ∃ B initId, PySem.ExcBaseFacts B newId initId bmB ∧ PySem.StoreFacts B bmB "object.__setattr__" "object"
structure OexT (K : PySem.W.Frag) (C : Addr) : Prop where
  cls : ∃ bmB newId nm q N bs bm sn sub ab col dd k0 k1 k2 k3 k5, BaseE bmB newId ∧ K.lookup C = some (excClassObj nm q C N bs bm true sn sub ab col dd k0 k1 k2 k3 k5 newId) ∧ PySem.W.excTail bmB bm = true
  sa : PySem.W.findIn K (.ref C) "__setattr__" = some (some (.builtin "object.__setattr__"))
  exC : PySem.W.subIn K (.ref C) (.type "BaseException") = some true
  tyC : PySem.W.typeIn K (.ref C) = some (.type "type")
  kC : PySem.W.keepIn K (.ref C) = true
section
open Builtin Builtin.ObjectAttr PySem.W
variable {prog : Program} {w : World} {A : Around} {E : Value → Shared → Prop} {R : Result → Shared → Prop} {hp : Heap} {g : Array GenState} {d : Drawn} {t : Nat} {os : OsState}
omit [Tbl] in
theorem osa_first {K : Frag} {B : String} {bmB : List Value} {name : Str} {tk : Tok} {v : Value} {x C : Addr} {fv : Array Value} {cd : ClassData} (SF : StoreFacts B bmB "object.__setattr__" "object")
    (X : K.In hp) (hx : hp.get? x = some { cls := .ref C, data := .fields fv }) (hcd : clsIn K C = some cd) (hov : excOver K C bmB = true) (hh : cd.hasDict = true) (ha : findIn K (.ref C) name = some none)
    (hq : ∀ h' tk' dx, (∀ b o, b ≠ x → hp.get? b = some o → h'.get? b = some o) → hp.objs.size ≤ dx → dx ≠ x → h'.get? x = some { cls := .ref C, dict := some dx, data := .fields fv } →
      h'.Ns1 dx (fun y => if y = name then some v else none) → R (.ok (.ret .none)) ⟨h', g, d, tk', os⟩) :
    codeAny (model prog w) A (.call (.builtin "object.__setattr__") ⟨[.ref x, .str name tk, v], []⟩) R ⟨hp, g, d, t, os⟩ := by
  have hxs : x ≠ hp.objs.size := Nat.ne_of_lt (Heap.lt_size hx)
  have I : InstAt hp x { cls := .ref C, data := .fields fv } C none := ⟨hx, rfl, rfl, trivial⟩
  have ht : takerIn K C name = some none := by unfold takerIn; rw [ha] <;> rfl
  refine osa_openX (s := ⟨hp, g, d, t, os⟩) (od := none) SF X I hov ht fun b => ?_
  have hcls : Looks (model prog w) hp (classData C) cd := looks_clsIn X hcd
  obtain ⟨nm, bs, mro, ns, qn, hd, sn, sb, ab, col, del⟩ := cd
  dsimp only at hh
  subst hh
  show wpAny _ _ (storeInOwnDict (.ref x) (.ref C) (.str name tk) name v b) _ _ _
  unfold storeInOwnDict ownDictForStores
  repeat (first | with_reducible refine PySem.HandSPX.store_in_new ?_ ?_ | with_reducible refine wpAny_loadPart_at hx ?_ | with_reducible refine hcls.at ?_ | wp_step)
  · exact ⟨_, #[], _, (Heap.get?_update_ne _ _ _ _ hxs.symm).trans (Heap.get?_push_at rfl rfl), rfl, fun e he => absurd he (by simp), fun _ => rfl⟩
  · intro h' tk' hn' hs
    have hx₁ : (hp.push { cls := .type "dict", data := .dict #[] }).get? x = some { cls := .ref C, data := .fields fv } := Heap.get?_push_of_some _ hx
    refine hq h' tk' hp.objs.size (fun b o hb ho => ?_) (Nat.le_refl _) hxs.symm ?_ hn'
    · exact (hs.2 b (Nat.ne_of_lt (Heap.lt_size ho))).trans ((Heap.get?_update_ne _ _ _ _ hb).trans (Heap.get?_push_of_some _ ho))
    · exact (hs.2 x hxs).trans (Heap.get?_update_self _ hx₁ rfl)
end
section
variable {X : Cx} {pins : List (Addr × Obj)} {σ : L2.St} {H : Hp} {s : Shared} {a C dx : Addr} {f : Str} {y : V} {u : Value} {Q : Unit → Shared → Prop} {E : Value → Shared → Prop} {A : Around}
omit [Tbl] in
theorem ost_first (T : OexT X.K C) (I : Inv X pins σ H s) (e : H a = some (exo a C none)) (hno : PySem.W.findIn X.K (.ref C) f = some none) (ry : RelV y u)
    (h : ∀ dx s', H dx = none → dx ≠ a → Inv X pins σ (upd (upd H dx (exd dx [(f, y)])) a (exo a C (some dx))) s' → Q () s') : wpAny (model X.prog X.w) A (setAttr (.ref a) f u) Q E s := by
  obtain ⟨bmB, newId, nm, q, N, bs, bm, sn, sub, ab, col, dd, k0, k1, k2, k3, k5, ⟨B, initId, FB, SF⟩, hC, hbm⟩ := T.cls
  have hcl : PySem.W.clsIn X.K C = some { name := nm, bases := bs, mro := .ref C :: bm, ns := N, qualname := q, hasDict := true, slotNames := sn, subclasses := sub, abstract := ab, collection := col, hasDel := false } := by unfold PySem.W.clsIn; rw [hC] <;> rfl
  have hov : PySem.W.excOver X.K C bmB = true := by
    unfold PySem.W.excOver
    rw [hcl]
    show ((C == C) && PySem.W.excTail bmB bm) = true
    rw [hbm]; simp
  obtain ⟨t1, ho⟩ := exo_at I.hok e
  obtain ⟨hp, g, d, t, os⟩ := s
  refine PySem.W.set_plain I.kIn (ox := { cls := .ref C, dict := none, data := .fields #[.ref t1, .none, .none, .none, .bool false, .none] }) (od := none) ⟨ho, rfl, rfl, trivial⟩ T.sa ?_
  refine osa_first SF I.kIn ho hcl hov rfl hno ?_
  intro h' tk' dx k dn dne hx hn
  have hnd : H dx = none := I.hok.fresh dn
  have old : ∀ {b : Addr} {o : Obj}, hp.get? b = some o → b ≠ dx := fun {b o} q => Nat.ne_of_lt (Nat.lt_of_lt_of_le (Heap.lt_size q) dn)
  have na : ∀ {b : Addr}, H b = none → b ≠ a := fun {b} n z => by rw [z, e] at n; cases n
  have other : ∀ {b : Addr} {o : HO}, H b = some o → o ≠ exo a C none → upd (upd H dx (exd dx [(f, y)])) a (exo a C (some dx)) b = some o := fun {b o} q n => by
    rw [upd_ne (fun z => by rw [z, e] at q; exact n (Option.some.inj q).symm), upd_ne (ne_of_none q hnd)]
    exact q
  have U : Un X.fs [] H (upd (upd H dx (exd dx [(f, y)])) a (exo a C (some dx))) hp h' := by
    refine ⟨fun b o q n _ _ => k b o (na n) q, fun b o q n _ _ => ⟨o.slots, k b o (na n) q⟩, fun b o q n _ => by rw [upd_ne (na n), upd_ne (old q)]; exact n, fun b o q _ => ?_, fun b xs q => other q (Ne.symm exo_tup), fun b o v q => other q (Ne.symm exo_frz), fun b ps q => ⟨#[], by rw [other q (Ne.symm exo_tbl)]; simp⟩⟩
    by_cases hb : b = a
    · exact ⟨_, by rw [hb]; exact hx⟩
    · exact ⟨o, k b o hb q⟩
  refine h dx _ hnd dne (I.un (t' := tk') U fun b o q => ?_)
  by_cases hb : b = a
  · subst hb
    rw [upd_same] at q
    cases q
    exact exo_ok hx
  · rw [upd_ne hb] at q
    by_cases hd : b = dx
    · subst hd
      rw [upd_same] at q
      cases q
      exact exd_ok hn (relO_put (fs := []) ry fun g => True.intro)
    · rw [upd_ne hd] at q
      refine (I.hok b o q).stay (fun c v hc z => k c v ?_ z) (fun c hc => other hc (Ne.symm exo_own)) (fun c xs hc => other hc (Ne.symm exo_tup))
      rcases hc with hc | hc
      · rw [hc]; exact hb
      · exact fun z => by rw [z, e] at hc; exact exo_own (Option.some.inj hc)
end
def tOst1 (K : PySem.W.Frag) (f : Str) (to te : TE) : TS := fun D σ H => te σ H fun y H1 => to σ H1 fun x H2 => ∃ a C : Addr, x = .ref a ∧ OexT K C ∧ PySem.W.findIn K (.ref C) f = some none ∧
  H2 a = some (exo a C none) ∧ ∀ dx, H2 dx = none → dx ≠ a → D.nx σ (upd (upd H2 dx (exd dx [(f, y)])) a (exo a C (some dx)))
section
variable {X : Cx} {o e : Expr} {es : List Expr} {to te : TE} {ta : TA} {f : Str} {p p' p1 p2 pos : Pos}
omit [Tbl] in
theorem ps_ost1 (ho : PE X o to) (he : PE X e te) (hs : swapsWith e (some (.Attribute o f p')) pos.line X.env = pure false := by rfl) : PS X (.Assign [.Attribute o f p'] e pos) (tOst1 X.K f to te) := by
  constructor
  intro pins s σ H D I h
  refine plainObj_wpAny_Assign_Attribute (thn (he.run pins s σ H _ I h) fun v s1 ⟨y, H1, I1, r1, q1⟩ => thn (ho.run pins s1 σ H1 _ I1 q1) ?_) hs
  rintro u s2 ⟨x, H2, I2, r2, a, C, rfl, T, hno, ea, q⟩
  obtain rfl : u = Value.ref a := r2
  exact ost_first T I2 ea hno r1 fun dx s' n ne J => ⟨σ, _, J, q dx n ne⟩
omit [Tbl] in
theorem pmk_oexT {CX : CXT} {x : Str} {C fI : Addr} {k : Nat} {fd : FuncData} {ps : List Str} {sp : Sp} {ds : List Value} {dvs : List V} (T : OexT X.K C) (iC : PySem.W.findIn X.K (.ref C) "__init__" = some (some (.ref fI))) (tI : PySem.W.typeIn X.K (.ref fI) = some (.type "function"))
    (F1 : FnOk X.prog X.w X.K X.mg X.base CX k fI fd ps sp) (hr : Room (k + 1) X.A) (hb : Binds X.K fd ps ds) (hd : Vals dvs ds) (hx : Passes CX X (fun _ _ _ => False)) (hg : Gl X x) (hm : X.mg x = some (.ref C)) (ha : PA X (e :: es) ta)
    (hdb : (x == ("__debug__" : Str)) = false := by decide) (he : starEach (e :: es) X.env = (false, eval e X.env) :: starEach es X.env := by rfl) (hpl : (backTo pos (starEach es X.env)).any (·.1) = false := by rfl) :
    PMk X (.Call (.Name x p) (e :: es) [] pos) (tMkO C sp dvs ta) := by
  intro pins s σ H Q I h
  obtain ⟨bmB, newId, nm, q, N, bs, bm, sn, sub, ab, col, dd, k0, k1, k2, k3, k5, ⟨B, initId, FB, SF⟩, hC, hbm⟩ := T.cls
  refine wpAny_Call_Name_kw (ld_glob I hg hm ?_ hdb)
  refine PySem.W.callWith_K (h₀ := X.base) I.ok.mod.kin T.kC (thn (ha.run pos pins s σ H _ I h) ?_) he hpl
  rintro us ⟨hp, g, dr, tk, os⟩ ⟨vs, H1, I1, r1, hz, q1⟩
  refine ⟨I1.kIn, ?_⟩
  show wpAny _ _ (call (.ref C) us) _ _ _
  let a : Addr := hp.objs.size + 1
  let h2 : Heap := (hp.push (PySem.W.kdv_tup us)).push (PySem.HandSPX.excO C hp.objs.size)
  have big : hp.objs.size ≤ a := Nat.le_succ _
  have hq := q1 a (I1.hok.fresh big)
  have kk : ∀ b o, hp.get? b = some o → h2.get? b = some o := fun b o e => Heap.get?_push_of_some _ (Heap.get?_push_of_some _ e)
  have hget : h2.get? a = some (PySem.HandSPX.excO C hp.objs.size) := by show ((hp.push (PySem.W.kdv_tup us)).push (PySem.HandSPX.excO C hp.objs.size)).get? (hp.objs.size + 1) = _; heap_get
  have I2 : Inv X pins σ (upd H1 a (exo a C none)) ⟨h2, g, dr, tk, os⟩ := I1.laid (t' := tk) (a := a) (o := exo a C none) (h' := h2) kk big (exo_ok hget)
  have r2 : Vals (V.ref a :: (vs ++ dvs)) (Value.ref a :: (us ++ ds)) := .cons rfl (r1.append hd)
  have hl : (Value.ref a :: us ++ ds).length = ps.length := by
    have e := r2.length
    rw [F1.len _ _ _ _ hq] at e
    exact e.symm
  have hus : us.length ≤ sizeLine := by
    rw [← Paired.length r1, sizeLine_eq]
    omega
  have run := F1.run _ X.stack _ _ ⟨Value.ref a :: us, []⟩ (Value.ref a :: (us ++ ds)) _ _ (fun _ _ _ => False) (hr.make C us []) (I2.env0.make C us []) (hb _ (Value.ref a :: us) I2.kIn hl) r2 hq
  refine wpAny_call (PySem.HandSPX.call_own FB (fun Y => PySem.W.excTail_contains Y bm hbm) (I1.kIn _ _ hC) (PySem.W.looks_findIn I1.kIn iC) (fun self => PySem.W.bind_fn I1.kIn self tI) hus (codeAny_mono run ?_))
  rintro r s' hq'
  match r, hq' with
  | .error er, z => exact hx pins σ _ _ er s' I2 z
  | .ok (.ret u), z =>
    obtain ⟨v, H2, os2, bare2, un2, hok2, rv, rfl, d, fs, ea, ed, hd1, q2⟩ := z
    obtain ⟨h2, g2, d2, t2, os'⟩ := s'
    exact ⟨rv, mk_end (raises_own T.exC T.tyC) I1 big kk un2 hok2 os2 bare2 ea ed hd1 q2⟩
  | .ok .next, z => exact z.elim
  | .ok .brk, z => exact z.elim
  | .ok .cont, z => exact z.elim
end
def spInit (fld : Str) (C : Addr) : Sp := fun vs H Q _ => ∃ a v, vs = [.ref a, v] ∧ H a = some (exo a C none) ∧ ∀ dx, H dx = none → dx ≠ a → Q .non (upd (upd H dx (exd dx [(fld, v)])) a (exo a C (some dx)))
structure ErrC (P : Program) (w : World) (K : PySem.W.Frag) (mg : Str → Option Value) (base : Heap) (k : Nat) (c : Str) : Prop where
  ex : ∃ C fI fd, OexT K C ∧ PySem.W.findIn K (.ref C) "__init__" = some (some (.ref fI)) ∧ PySem.W.typeIn K (.ref fI) = some (.type "function") ∧ FnOk P w K mg base CX0 k fI fd ["self", fieldOf c] (spInit (fieldOf c) C) ∧ Binds K fd ["self", fieldOf c] [] ∧ mg c = some (.ref C)
def sRaise (c : Str) (s : Ga → Res (Ga × D)) : Ga → Res (Ga × Fl) := fun Γ => (s Γ).bind fun p => .exc c p.2
section
variable {X : Cx} {E : XK} {e : Expr} {p pos pos2 : Pos} {c : Str} {s : Ga → Res (Ga × D)} {j k : Nat}
omit [Tbl] in
theorem del_upd {H : Hp} {a d : Addr} {o1 o2 o3 o4 : HO} (ha : H a = none) (hda : d ≠ a) : upd (del (upd (upd (upd H a o1) d o2) a o3) a) d o4 = upd H d o4 := by
  funext b
  by_cases h : b = d
  · subst h
    rw [upd_same, upd_same]
  · rw [upd_ne h, upd_ne h]
    by_cases q : b = a
    · subst q
      rw [del_same, ha]
    · rw [del_ne q, upd_ne q, upd_ne h, upd_ne q]
theorem js_raise (hc : X.calm = true) (F : ErrC X.prog X.w X.K X.mg X.base j c) (hr : Room k X.A) (hj : j + 1 ≤ k) (tk : Takes X fun cls d _ H => E cls d H) (hx : Passes CX0 X (fun _ _ _ => False)) (hg : Gl X c) (he : JD X E e s)
    (hdb : (c == ("__debug__" : Str)) = false := by decide) (hs : starEach (e :: []) X.env = (false, eval e X.env) :: starEach [] X.env := by rfl) (hpl : (backTo pos (starEach [] X.env)).any (·.1) = false := by rfl) :
    JS X E (.Raise (some (.Call (.Name c p) [e] [] pos)) none pos2) (sRaise c s) := by
  obtain ⟨C, fI, fd, T, iC, tI, F1, hb, hm⟩ := F.ex
  obtain ⟨te, pe, ha⟩ := he.ex
  refine ⟨_, ps_raise hc tk (pmk_oexT (dvs := []) (ds := []) T iC tI F1 (hr.mono hj) hb .nil hx hg hm (pa_cons pe pa_nil hs) hdb hs hpl), fun B σ Γ H0 H Dn ok w => ?_⟩
  show tCons te tNil σ H _
  refine ha B σ Γ H0 H _ ok ?_
  unfold sRaise at w
  cases hsΓ : s Γ with
  | stuck => rw [hsΓ] at w; exact w.elim
  | exc c' x => rw [hsΓ] at w; exact w
  | ok r =>
    rw [hsΓ] at w
    obtain ⟨Γ', x⟩ := r
    intro v H0' H' ok' g l rv
    have w : XW X B E c x := w
    refine ⟨by simp, fun a hna => ⟨a, v, rfl, upd_same, fun dx hdx hne => ⟨rfl, dx, [(fieldOf c, v)], upd_same, ?_, ?_, ?_⟩⟩⟩
    · rw [upd_ne hne, upd_same]
    · rw [upd_ne hne] at hdx
      exact hdx
    · rw [upd_ne hne] at hdx
      rw [del_upd hna hne]
      exact w C dx v H0' _ hm upd_same rv (ok'.sub.trans (Ex.new hdx)) (ok'.grow.trans (Grow.fresh hdx) fun p hp => .inl hp)
end
section
variable {P : Program} {w : World} {K : PySem.W.Frag} {mg : Str → Option Value} {base : Heap}
omit [Tbl] in
theorem init_ok {qual fld : Str} {st : Stmt} {f C : Addr} {fd : FuncData} (F : Fun K "__init__" qual st f fd) (S : FnScope ["self", fld] ["self", fld] (defScope st)) (T : OexT K C) (noN : PySem.W.findIn K (.ref C) fld = some none)
    (hb : ∀ (cdv : Value) (A : Around) (outer : List Env) (s : Shared) (H : Hp) (E : XK), PSs (cxOf CX0 P w K mg base ["self", fld] qual (defScope st) f cdv A outer s H E).nox (defBody st) (tOst1 K fld (tVar 0) (tVar 1))) :
    FnOk P w K mg base CX0 1 f fd ["self", fld] (spInit fld C) := by
  refine F.ok S (fun vs H Q E h => ?_) (fun cdv A outer s H vs Q E hr h => ⟨_, hb cdv A outer s H E, ?_⟩)
  · obtain ⟨a, v, rfl, -⟩ := h
    rfl
  · obtain ⟨a, v, rfl, ha, q⟩ := h
    exact ⟨v, rfl, .ref a, rfl, a, C, rfl, T, noN, ha, fun dx hdx hne => q dx hdx hne⟩
def clsInit : Stmt → Stmt
  | .ClassDef _ _ _ body .. => body.getD 0 (.Pass ⟨0, 0, 0, 0⟩)
  | s => s
omit [Tbl] in
theorem errC_of {c qual : Str} {st : Stmt} {f C : Addr} {fd : FuncData} (F : Fun K "__init__" qual st f fd) (S : FnScope ["self", fieldOf c] ["self", fieldOf c] (defScope st)) (T : OexT K C) (noN : PySem.W.findIn K (.ref C) (fieldOf c) = some none)
    (iC : PySem.W.findIn K (.ref C) "__init__" = some (some (.ref f))) (tI : PySem.W.typeIn K (.ref f) = some (.type "function")) (bd : Binds K fd ["self", fieldOf c] []) (hm : mg c = some (.ref C))
    (hb : ∀ (cdv : Value) (A : Around) (outer : List Env) (s : Shared) (H : Hp) (E : XK), PSs (cxOf CX0 P w K mg base ["self", fieldOf c] qual (defScope st) f cdv A outer s H E).nox (defBody st) (tOst1 K (fieldOf c) (tVar 0) (tVar 1))) : ErrC P w K mg base 1 c :=
  ⟨C, f, fd, T, iC, tI, init_ok F S T noN hb, bd, hm⟩
end
theorem baseV : BaseE [.type "ValueError", .type "Exception", .type "BaseException", .type "object"] "ValueError.__new__" := ⟨_, _, F.excBase_ValueError, F.store_ValueError⟩
end Mi
namespace Mi
open PySem PySem.Spec PyProof.Rows L2
variable [Tbl]
inductive HdsA (X : Cx) : List ExceptHandler → List (Value × Option Nat × (Addr → Value → Option Addr → TS)) → Prop
  | nil : HdsA X [] []
  | cons {x : Str} {c : Value} {ts : Addr → Value → Option Addr → TS} {b₀ : Stmt} {suite : List Stmt} {np pos' : Pos} {hds : List ExceptHandler} {l : List (Value × Option Nat × (Addr → Value → Option Addr → TS))} (hc : Names X x c)
      (hsu : ∀ (a : Addr) (oe : Obj) (cls : Value) (d : Option Addr) (pn : List (Addr × Obj)), Zc cls d oe → (∃ vs, oe.data = .fields vs) → PSs (X.suite a ((a, oe) :: pn)) (b₀ :: suite) (ts a cls d)) (r : HdsA X hds l) :
      HdsA X (.ExceptHandler (some (.Name x np)) none (b₀ :: suite) pos' :: hds) ((c, none, ts) :: l)
  | named {x n : Str} {c : Value} {i : Nat} {ts : Addr → Value → Option Addr → TS} {b₀ : Stmt} {suite : List Stmt} {np pos' : Pos} {hds : List ExceptHandler} {l : List (Value × Option Nat × (Addr → Value → Option Addr → TS))} (hc : Names X x c)
      (hi : X.N[i]? = some n) (hln : X.env.kindOf n = some .local)
      (hsu : ∀ (a : Addr) (oe : Obj) (cls : Value) (d : Option Addr) (pn : List (Addr × Obj)), Zc cls d oe → (∃ vs, oe.data = .fields vs) → PSs (X.suite a ((a, oe) :: pn)) (b₀ :: suite) (ts a cls d)) (r : HdsA X hds l) :
      HdsA X (.ExceptHandler (some (.Name x np)) (some n) (b₀ :: suite) pos' :: hds) ((c, some i, ts) :: l)
section
variable {X : Cx} {body : List Stmt} {h₀ : ExceptHandler} {hds : List ExceptHandler} {l : List (Value × Option Nat × (Addr → Value → Option Addr → TS))} {pos : Pos} {tb : WX → TS} {Wout : WX}
end
end Mi
namespace Mi
open PySem PySem.Spec PyProof.Rows L2 Evl
variable [Tbl]
section
variable {X : Cx} {W : WX} {x : Str} {j k : Nat} {f : Addr} {fd : FuncData} {ps : List Str} {sp : Sp} {e : Expr} {es : List Expr} {t : TA} {p pos : Pos}
end
structure JEW (X : Cx) (e : Expr) (s : Ga → Res (Ga × R)) : Prop where
  ex : ∃ t : WX → TE, (∀ W pn xe, Takes (X.tr pn xe) W → PE (X.tr pn xe) e (t W)) ∧ ∀ W B σ Γ H0 H Q, EnvOk X.K B σ Γ H0 H → EW X B (fun c d H => W c d σ H) σ Γ H0 H (s Γ) Q → t W σ H Q
structure JPW (X : Cx) (es : List Expr) (ks : List (Option Nat)) (s : Ga → Res (Ga × List D)) : Prop where
  ex : ∃ t, (∀ pn xe, PA (X.tr pn xe) es t) ∧ ∀ E B σ Γ H0 H Q, EnvOk X.K B σ Γ H0 H → PW' X B E σ ks Γ H0 H (s Γ) Q → t σ H Q
section
variable {X : Cx} {x : Str} {j k : Nat} {ps : List Str} {e : Expr} {es : List Expr} {p pos : Pos} {m : Ga → Res (Ga × R)} {ks : List (Option Nat)} {s : Ga → Res (Ga × List D)}
end
def hideS : Sl → Sl
  | .own _ _ => .un
  | s => s
def hide (Γ : Ga) : Ga := Γ.map hideS
section
variable {K : PySem.W.Frag} {B : Bg} {σ : L2.St} {Γ : Ga} {H0 H : Hp}
end
def sDatN (i : Nat) : Ga → Res (Ga × D) := fun Γ => match Γ[i]? with
  | some (.d x) => .ok (Γ, x)
  | _ => .stuck
section
variable {X : Cx} {e : Expr} {es : List Expr} {ks : List (Option Nat)} {s : Ga → Res (Ga × D)} {r : Ga → Res (Ga × List D)}
structure JDU (X : Cx) (e : Expr) (s : Ga → Res (Ga × D)) : Prop where
  ex : ∃ t, (∀ pn xe, PE (X.tr pn xe) e t) ∧ ∀ E B σ Γ H0 H Q, EnvOk X.K B σ Γ H0 H → DW X B E σ Γ H0 H (s Γ) Q → t σ H Q
end
def sTryR (s : Ga → Res (Ga × R)) (hv : Str → D → Ga → Res (Ga × Fl)) : Ga → Res (Ga × Fl) := fun Γ => match s (hide Γ) with
  | .ok p => .ok (Γ, .rt p.2)
  | .exc c y => hv c y Γ
  | .stuck => .stuck
def sTryE (s : Ga → Res (Ga × R)) (hv : Str → D → Ga → Res (Ga × Fl)) : Ga → Res (Ga × Fl) := fun Γ => match s (hide Γ) with
  | .ok _ => .ok (Γ, .nx)
  | .exc c y => hv c y Γ
  | .stuck => .stuck
section
variable {X : Cx} {E : XK} {e : Expr} {rpos pos : Pos} {h₀ : ExceptHandler} {hds : List ExceptHandler} {l : List (Value × Option Nat × (Addr → Value → Option Addr → TS))} {Wout : WX} {s : Ga → Res (Ga × R)} {hv : Str → D → Ga → Res (Ga × Fl)}
end
end Mi
namespace Mi
open PySem PySem.Spec PyProof.Rows L2 Evl
variable [Tbl]
def hvC (tab : Str → Option Bool) (h : Str → D → Ga → Res (Ga × Fl)) (hv : Str → D → Ga → Res (Ga × Fl)) : Str → D → Ga → Res (Ga × Fl) := fun c y Γ => match tab c with
  | some true => h c y Γ
  | some false => hv c y Γ
  | none => .stuck
def hvN : Str → D → Ga → Res (Ga × Fl) := fun c y _ => .exc c y
structure JSU (X : Cx) (E : XK) (st : List Stmt) (h : Ga → Res (Ga × Fl)) : Prop where
  ex : ∃ t, (∀ (a : Addr) (oe : Obj) (pn : List (Addr × Obj)), PSs (X.suite a ((a, oe) :: pn)) st t) ∧ ∀ B σ Γ H0 H Dn, EnvOk X.K B σ Γ H0 H → SW X B E H0 (h Γ) Dn → t Dn σ H
section
variable {X : Cx} {E : XK} {hds : List ExceptHandler} {hv : Str → D → Ga → Res (Ga × Fl)} {x : Str} {C' : Value} {b₀ : Stmt} {suite : List Stmt} {np pos' pos rpos : Pos} {h : Ga → Res (Ga × Fl)} {tab : Str → Option Bool}
end
structure JSN (X : Cx) (E : XK) (i : Nat) (tab : Str → Option Bool) (st : List Stmt) (h : D → Ga → Res (Ga × Fl)) : Prop where
  ex : ∃ ts : Addr → Value → Option Addr → TS, (∀ (a : Addr) (oe : Obj) (cls : Value) (d : Option Addr) (pn : List (Addr × Obj)), Zc cls d oe → (∃ vs, oe.data = .fields vs) → PSs (X.suite a ((a, oe) :: pn)) st (ts a cls d)) ∧
    ∀ B σ Γ H0 H Dn C d v c y a, EnvOk X.K B σ Γ H0 H → σ[i]? = some (some (.ref a)) → tab c = some true → X.mg c = some (.ref C) → H d = some (.xd [(fieldOf c, v)]) → Rp X.K H0 v y → SW X B E H0 (h y Γ) Dn → ts a (.ref C) (some d) Dn σ H
def wipe1 (i : Nat) (r : Res (Ga × Fl)) : Res (Ga × Fl) := r.bind fun p => .ok (p.1.set i .un, p.2)
section
variable {X : Cx} {E : XK} {hds : List ExceptHandler} {hv : Str → D → Ga → Res (Ga × Fl)} {x n : Str} {C' : Value} {b₀ : Stmt} {suite : List Stmt} {np pos' : Pos} {h : D → Ga → Res (Ga × Fl)} {tab : Str → Option Bool} {i : Nat}
end
end Mi
namespace Mi
open PySem PySem.Spec PyProof.Rows L2 Evl
variable [Tbl]
structure FldC (K : PySem.W.Frag) (C : Addr) (f : Str) : Prop where
  ga : PySem.W.findIn K (.ref C) "__getattribute__" = some (some (.builtin "BaseException.__getattribute__"))
  gg : PySem.W.findIn K (.ref C) "__getattr__" = some none
  noN : PySem.W.findIn K (.ref C) f = some none
  exC : PySem.W.subIn K (.ref C) (.type "BaseException") = some true
  hdC : PySem.W.hasDictIn K C = true
structure JFE (X : Cx) (E : XK) (i : Nat) (tab : Str → Option Bool) (e : Expr) (s : D → Ga → Res (Ga × R)) : Prop where
  ex : ∃ t : Addr → Value → Option Addr → TE, (∀ (a : Addr) (oe : Obj) (cls : Value) (d : Option Addr) (pn : List (Addr × Obj)), Zc cls d oe → (∃ vs, oe.data = .fields vs) → PE (X.suite a ((a, oe) :: pn)) e (t a cls d)) ∧
    ∀ B σ Γ H0 H Q C d v c y a, EnvOk X.K B σ Γ H0 H → σ[i]? = some (some (.ref a)) → tab c = some true → X.mg c = some (.ref C) → H d = some (.xd [(fieldOf c, v)]) → Rp X.K H0 v y → EW X B E σ Γ H0 H (s y Γ) Q → t a (.ref C) (some d) σ H Q
section
variable {X : Cx} {E : XK} {i : Nat} {tab : Str → Option Bool} {e : Expr} {f : Str} {pos rpos : Pos} {s : D → Ga → Res (Ga × R)}
end
section
variable {X : Cx} {E : XK} {i : Nat} {tab : Str → Option Bool} {e : Expr} {f n : Str} {p pos pos2 pos' : Pos} {s : D → Ga → Res (Ga × R)}
end
section
variable {X : Cx} {E : XK} {i : Nat} {tab : Str → Option Bool} {e e0 : Expr} {n : Str} {pos rpos pos' : Pos} {s : D → Ga → Res (Ga × R)} {x0 : D} {v0 : V}
end
def sTryS (j : Nat) (s : Ga → Res (Ga × R)) (hv : Str → D → Ga → Res (Ga × Fl)) : Ga → Res (Ga × Fl) := fun Γ => match s (hide Γ) with
  | .ok p => .ok (Γ.set j (slotOf p.2), .nx)
  | .exc c y => hv c y Γ
  | .stuck => .stuck
section
variable {X : Cx} {E : XK} {e : Expr} {n : Str} {j : Nat} {pos pos' rpos : Pos} {h₀ : ExceptHandler} {hds : List ExceptHandler} {s : Ga → Res (Ga × R)} {hv : Str → D → Ga → Res (Ga × Fl)}
end
end Mi
namespace Mi
open PySem PySem.Spec PyProof.Rows L2 Evl
variable [Tbl]
omit [Tbl] in
theorem codeO_tbl {c : Addr} {q : Str} (ps : Array Value) : LamX.CodeO c q ≠ .tbl ps := fun z => by
  unfold LamX.CodeO at z; cases z
section
variable {X : Cx} {pins : List (Addr × Obj)} {σ : L2.St} {H : Hp} {s : Shared}
abbrev lamQ (X : Cx) : Str := X.env.qual ++ ("<lambda>" : Str)
end
end Mi
namespace Mi
open PySem PySem.Spec PyProof.Rows L2 Evl
section
variable {X : Cx} {pins : List (Addr × Obj)} {σ : L2.St} {H : Hp} {s : Shared}
end
section
variable {T : Tbl} {c' f : Addr} {q : Str} {M H H0 H' H0' : Hp} {O : Addr → Prop}
end
def sK (r : Res R) : Ga → Res (Ga × R) := fun Γ => match Γ[0]? with
  | some Sl.cl => r.bind fun x => .ok (Γ, x)
  | _ => .stuck
def lamS (n : Nat) (b : Res R → Ga → Res (Ga × Fl)) (r : Res R) : Res R := (defS 1 n (b r) [.cl]).bind fun p => .ok p.2
def lamR (sb : Ga → Res (Ga × R)) (Γ : Ga) : Res R := (sb (hide Γ)).bind fun p => .ok p.2
structure HasL (P : Program) (w : World) (K : PySem.W.Frag) (mg : Str → Option Value) (base : Heap) (x : Str) (k : Nat) (m : Res R → Res R) : Prop where
  ex : ∃ (st : Stmt) (a : Str) (Ng : List Str) (f : Addr) (fd : FuncData) (b : Res R → Ga → Res (Ga × Fl)), Def K mg x st [a] f fd ∧ FnScope Ng [a] (defScope st) ∧ Ng[0]? = some a ∧ Vis (defScope st) a ∧ (a == ("__debug__" : Str)) = false ∧ (a == ("__classdict__" : Str)) = false ∧ m = lamS (Ng.length - 1) b ∧
    ∀ (T1 : Tbl) (r : Res R) (cdv : Value) (A : Around) (outer : List Env) (s : Shared) (H : Hp) (E : XK), Room (k + 1) (A.deeper (envOfC x (defScope st) s.heap.objs.size f cdv)) → A.guards = some [] →
      (∀ p1 p2, @JEW T1 (cxOf (L2.CX P w) P w K mg base Ng x (defScope st) f cdv A outer s H E) (.Call (.Name a p1) [] [] p2) (sK r)) → @JSs T1 (cxOf (L2.CX P w) P w K mg base Ng x (defScope st) f cdv A outer s H E) E (defBody st) (b r)
def callLam (m : Res R → Res R) (sb : Ga → Res (Ga × R)) : Ga → Res (Ga × R) := fun Γ => (m (lamR sb Γ)).bind fun r => .ok (Γ, r)
section
variable {T : Tbl} {X : Cx} {c' f : Addr} {q : Str} {M : Hp}
end
end Mi
namespace Mi
open PySem PySem.Spec PyProof.Rows L2 Evl
section
variable {T : Tbl} {X : Cx} {f c' : Addr} {q : Str} {H0 H1 : Hp}
end
section
variable [T : Tbl] {X : Cx} {E : XK} {x : Str} {j k : Nat} {c P : Addr} {m : Res R → Res R} {params : Arguments} {body : Expr} {scope : Scope} {sb : Ga → Res (Ga × R)} {p lpos pos : Pos}
end
end Mi
namespace Mi
open PySem PySem.Spec PyProof.Rows L2 Evl
def errVal : List Str := ["InvalidNumber", "InvalidStack", "InvalidSequence", "InvalidEffect", "InvalidText", "InvalidCommand"]
def errAll : List Str := ["InvalidNumber", "InvalidStack", "InvalidSequence", "InvalidEffect", "InvalidText", "InvalidCommand", "StepFailed", "LimitExceeded", "UnknownUser", "UnknownName", "NothingToUndo"]
def tabE (cl c : Str) : Option Bool := if errAll.contains c then some (c == cl || (cl == "SkylineError" && errVal.contains c)) else none
@[simp] theorem tab_InvalidNumber_InvalidNumber : tabE "InvalidNumber" "InvalidNumber" = some true := by decide +kernel
@[simp] theorem tab_InvalidNumber_InvalidStack : tabE "InvalidNumber" "InvalidStack" = some false := by decide +kernel
@[simp] theorem tab_InvalidNumber_InvalidSequence : tabE "InvalidNumber" "InvalidSequence" = some false := by decide +kernel
@[simp] theorem tab_InvalidNumber_InvalidEffect : tabE "InvalidNumber" "InvalidEffect" = some false := by decide +kernel
@[simp] theorem tab_InvalidNumber_InvalidText : tabE "InvalidNumber" "InvalidText" = some false := by decide +kernel
@[simp] theorem tab_InvalidNumber_InvalidCommand : tabE "InvalidNumber" "InvalidCommand" = some false := by decide +kernel
@[simp] theorem tab_InvalidNumber_StepFailed : tabE "InvalidNumber" "StepFailed" = some false := by decide +kernel
@[simp] theorem tab_InvalidNumber_LimitExceeded : tabE "InvalidNumber" "LimitExceeded" = some false := by decide +kernel
@[simp] theorem tab_InvalidNumber_UnknownUser : tabE "InvalidNumber" "UnknownUser" = some false := by decide +kernel
@[simp] theorem tab_InvalidNumber_UnknownName : tabE "InvalidNumber" "UnknownName" = some false := by decide +kernel
@[simp] theorem tab_InvalidNumber_NothingToUndo : tabE "InvalidNumber" "NothingToUndo" = some false := by decide +kernel
@[simp] theorem tab_InvalidStack_InvalidNumber : tabE "InvalidStack" "InvalidNumber" = some false := by decide +kernel
@[simp] theorem tab_InvalidStack_InvalidStack : tabE "InvalidStack" "InvalidStack" = some true := by decide +kernel
@[simp] theorem tab_InvalidStack_InvalidSequence : tabE "InvalidStack" "InvalidSequence" = some false := by decide +kernel
@[simp] theorem tab_InvalidStack_InvalidEffect : tabE "InvalidStack" "InvalidEffect" = some false := by decide +kernel
@[simp] theorem tab_InvalidStack_InvalidText : tabE "InvalidStack" "InvalidText" = some false := by decide +kernel
@[simp] theorem tab_InvalidStack_InvalidCommand : tabE "InvalidStack" "InvalidCommand" = some false := by decide +kernel
@[simp] theorem tab_InvalidStack_StepFailed : tabE "InvalidStack" "StepFailed" = some false := by decide +kernel
@[simp] theorem tab_InvalidStack_LimitExceeded : tabE "InvalidStack" "LimitExceeded" = some false := by decide +kernel
@[simp] theorem tab_InvalidStack_UnknownUser : tabE "InvalidStack" "UnknownUser" = some false := by decide +kernel
@[simp] theorem tab_InvalidStack_UnknownName : tabE "InvalidStack" "UnknownName" = some false := by decide +kernel
@[simp] theorem tab_InvalidStack_NothingToUndo : tabE "InvalidStack" "NothingToUndo" = some false := by decide +kernel
@[simp] theorem tab_InvalidSequence_InvalidNumber : tabE "InvalidSequence" "InvalidNumber" = some false := by decide +kernel
@[simp] theorem tab_InvalidSequence_InvalidStack : tabE "InvalidSequence" "InvalidStack" = some false := by decide +kernel
@[simp] theorem tab_InvalidSequence_InvalidSequence : tabE "InvalidSequence" "InvalidSequence" = some true := by decide +kernel
@[simp] theorem tab_InvalidSequence_InvalidEffect : tabE "InvalidSequence" "InvalidEffect" = some false := by decide +kernel
@[simp] theorem tab_InvalidSequence_InvalidText : tabE "InvalidSequence" "InvalidText" = some false := by decide +kernel
@[simp] theorem tab_InvalidSequence_InvalidCommand : tabE "InvalidSequence" "InvalidCommand" = some false := by decide +kernel
@[simp] theorem tab_InvalidSequence_StepFailed : tabE "InvalidSequence" "StepFailed" = some false := by decide +kernel
@[simp] theorem tab_InvalidSequence_LimitExceeded : tabE "InvalidSequence" "LimitExceeded" = some false := by decide +kernel
@[simp] theorem tab_InvalidSequence_UnknownUser : tabE "InvalidSequence" "UnknownUser" = some false := by decide +kernel
@[simp] theorem tab_InvalidSequence_UnknownName : tabE "InvalidSequence" "UnknownName" = some false := by decide +kernel
@[simp] theorem tab_InvalidSequence_NothingToUndo : tabE "InvalidSequence" "NothingToUndo" = some false := by decide +kernel
@[simp] theorem tab_InvalidEffect_InvalidNumber : tabE "InvalidEffect" "InvalidNumber" = some false := by decide +kernel
@[simp] theorem tab_InvalidEffect_InvalidStack : tabE "InvalidEffect" "InvalidStack" = some false := by decide +kernel
@[simp] theorem tab_InvalidEffect_InvalidSequence : tabE "InvalidEffect" "InvalidSequence" = some false := by decide +kernel
@[simp] theorem tab_InvalidEffect_InvalidEffect : tabE "InvalidEffect" "InvalidEffect" = some true := by decide +kernel
@[simp] theorem tab_InvalidEffect_InvalidText : tabE "InvalidEffect" "InvalidText" = some false := by decide +kernel
@[simp] theorem tab_InvalidEffect_InvalidCommand : tabE "InvalidEffect" "InvalidCommand" = some false := by decide +kernel
@[simp] theorem tab_InvalidEffect_StepFailed : tabE "InvalidEffect" "StepFailed" = some false := by decide +kernel
@[simp] theorem tab_InvalidEffect_LimitExceeded : tabE "InvalidEffect" "LimitExceeded" = some false := by decide +kernel
@[simp] theorem tab_InvalidEffect_UnknownUser : tabE "InvalidEffect" "UnknownUser" = some false := by decide +kernel
@[simp] theorem tab_InvalidEffect_UnknownName : tabE "InvalidEffect" "UnknownName" = some false := by decide +kernel
@[simp] theorem tab_InvalidEffect_NothingToUndo : tabE "InvalidEffect" "NothingToUndo" = some false := by decide +kernel
@[simp] theorem tab_InvalidText_InvalidNumber : tabE "InvalidText" "InvalidNumber" = some false := by decide +kernel
@[simp] theorem tab_InvalidText_InvalidStack : tabE "InvalidText" "InvalidStack" = some false := by decide +kernel
@[simp] theorem tab_InvalidText_InvalidSequence : tabE "InvalidText" "InvalidSequence" = some false := by decide +kernel
@[simp] theorem tab_InvalidText_InvalidEffect : tabE "InvalidText" "InvalidEffect" = some false := by decide +kernel
@[simp] theorem tab_InvalidText_InvalidText : tabE "InvalidText" "InvalidText" = some true := by decide +kernel
@[simp] theorem tab_InvalidText_InvalidCommand : tabE "InvalidText" "InvalidCommand" = some false := by decide +kernel
@[simp] theorem tab_InvalidText_StepFailed : tabE "InvalidText" "StepFailed" = some false := by decide +kernel
@[simp] theorem tab_InvalidText_LimitExceeded : tabE "InvalidText" "LimitExceeded" = some false := by decide +kernel
@[simp] theorem tab_InvalidText_UnknownUser : tabE "InvalidText" "UnknownUser" = some false := by decide +kernel
@[simp] theorem tab_InvalidText_UnknownName : tabE "InvalidText" "UnknownName" = some false := by decide +kernel
@[simp] theorem tab_InvalidText_NothingToUndo : tabE "InvalidText" "NothingToUndo" = some false := by decide +kernel
@[simp] theorem tab_InvalidCommand_InvalidNumber : tabE "InvalidCommand" "InvalidNumber" = some false := by decide +kernel
@[simp] theorem tab_InvalidCommand_InvalidStack : tabE "InvalidCommand" "InvalidStack" = some false := by decide +kernel
@[simp] theorem tab_InvalidCommand_InvalidSequence : tabE "InvalidCommand" "InvalidSequence" = some false := by decide +kernel
@[simp] theorem tab_InvalidCommand_InvalidEffect : tabE "InvalidCommand" "InvalidEffect" = some false := by decide +kernel
@[simp] theorem tab_InvalidCommand_InvalidText : tabE "InvalidCommand" "InvalidText" = some false := by decide +kernel
@[simp] theorem tab_InvalidCommand_InvalidCommand : tabE "InvalidCommand" "InvalidCommand" = some true := by decide +kernel
@[simp] theorem tab_InvalidCommand_StepFailed : tabE "InvalidCommand" "StepFailed" = some false := by decide +kernel
@[simp] theorem tab_InvalidCommand_LimitExceeded : tabE "InvalidCommand" "LimitExceeded" = some false := by decide +kernel
@[simp] theorem tab_InvalidCommand_UnknownUser : tabE "InvalidCommand" "UnknownUser" = some false := by decide +kernel
@[simp] theorem tab_InvalidCommand_UnknownName : tabE "InvalidCommand" "UnknownName" = some false := by decide +kernel
@[simp] theorem tab_InvalidCommand_NothingToUndo : tabE "InvalidCommand" "NothingToUndo" = some false := by decide +kernel
@[simp] theorem tab_StepFailed_InvalidNumber : tabE "StepFailed" "InvalidNumber" = some false := by decide +kernel
@[simp] theorem tab_StepFailed_InvalidStack : tabE "StepFailed" "InvalidStack" = some false := by decide +kernel
@[simp] theorem tab_StepFailed_InvalidSequence : tabE "StepFailed" "InvalidSequence" = some false := by decide +kernel
@[simp] theorem tab_StepFailed_InvalidEffect : tabE "StepFailed" "InvalidEffect" = some false := by decide +kernel
@[simp] theorem tab_StepFailed_InvalidText : tabE "StepFailed" "InvalidText" = some false := by decide +kernel
@[simp] theorem tab_StepFailed_InvalidCommand : tabE "StepFailed" "InvalidCommand" = some false := by decide +kernel
@[simp] theorem tab_StepFailed_StepFailed : tabE "StepFailed" "StepFailed" = some true := by decide +kernel
@[simp] theorem tab_StepFailed_LimitExceeded : tabE "StepFailed" "LimitExceeded" = some false := by decide +kernel
@[simp] theorem tab_StepFailed_UnknownUser : tabE "StepFailed" "UnknownUser" = some false := by decide +kernel
@[simp] theorem tab_StepFailed_UnknownName : tabE "StepFailed" "UnknownName" = some false := by decide +kernel
@[simp] theorem tab_StepFailed_NothingToUndo : tabE "StepFailed" "NothingToUndo" = some false := by decide +kernel
@[simp] theorem tab_LimitExceeded_InvalidNumber : tabE "LimitExceeded" "InvalidNumber" = some false := by decide +kernel
@[simp] theorem tab_LimitExceeded_InvalidStack : tabE "LimitExceeded" "InvalidStack" = some false := by decide +kernel
@[simp] theorem tab_LimitExceeded_InvalidSequence : tabE "LimitExceeded" "InvalidSequence" = some false := by decide +kernel
@[simp] theorem tab_LimitExceeded_InvalidEffect : tabE "LimitExceeded" "InvalidEffect" = some false := by decide +kernel
@[simp] theorem tab_LimitExceeded_InvalidText : tabE "LimitExceeded" "InvalidText" = some false := by decide +kernel
@[simp] theorem tab_LimitExceeded_InvalidCommand : tabE "LimitExceeded" "InvalidCommand" = some false := by decide +kernel
@[simp] theorem tab_LimitExceeded_StepFailed : tabE "LimitExceeded" "StepFailed" = some false := by decide +kernel
@[simp] theorem tab_LimitExceeded_LimitExceeded : tabE "LimitExceeded" "LimitExceeded" = some true := by decide +kernel
@[simp] theorem tab_LimitExceeded_UnknownUser : tabE "LimitExceeded" "UnknownUser" = some false := by decide +kernel
@[simp] theorem tab_LimitExceeded_UnknownName : tabE "LimitExceeded" "UnknownName" = some false := by decide +kernel
@[simp] theorem tab_LimitExceeded_NothingToUndo : tabE "LimitExceeded" "NothingToUndo" = some false := by decide +kernel
@[simp] theorem tab_UnknownUser_InvalidNumber : tabE "UnknownUser" "InvalidNumber" = some false := by decide +kernel
@[simp] theorem tab_UnknownUser_InvalidStack : tabE "UnknownUser" "InvalidStack" = some false := by decide +kernel
@[simp] theorem tab_UnknownUser_InvalidSequence : tabE "UnknownUser" "InvalidSequence" = some false := by decide +kernel
@[simp] theorem tab_UnknownUser_InvalidEffect : tabE "UnknownUser" "InvalidEffect" = some false := by decide +kernel
@[simp] theorem tab_UnknownUser_InvalidText : tabE "UnknownUser" "InvalidText" = some false := by decide +kernel
@[simp] theorem tab_UnknownUser_InvalidCommand : tabE "UnknownUser" "InvalidCommand" = some false := by decide +kernel
@[simp] theorem tab_UnknownUser_StepFailed : tabE "UnknownUser" "StepFailed" = some false := by decide +kernel
@[simp] theorem tab_UnknownUser_LimitExceeded : tabE "UnknownUser" "LimitExceeded" = some false := by decide +kernel
@[simp] theorem tab_UnknownUser_UnknownUser : tabE "UnknownUser" "UnknownUser" = some true := by decide +kernel
@[simp] theorem tab_UnknownUser_UnknownName : tabE "UnknownUser" "UnknownName" = some false := by decide +kernel
@[simp] theorem tab_UnknownUser_NothingToUndo : tabE "UnknownUser" "NothingToUndo" = some false := by decide +kernel
@[simp] theorem tab_UnknownName_InvalidNumber : tabE "UnknownName" "InvalidNumber" = some false := by decide +kernel
@[simp] theorem tab_UnknownName_InvalidStack : tabE "UnknownName" "InvalidStack" = some false := by decide +kernel
@[simp] theorem tab_UnknownName_InvalidSequence : tabE "UnknownName" "InvalidSequence" = some false := by decide +kernel
@[simp] theorem tab_UnknownName_InvalidEffect : tabE "UnknownName" "InvalidEffect" = some false := by decide +kernel
@[simp] theorem tab_UnknownName_InvalidText : tabE "UnknownName" "InvalidText" = some false := by decide +kernel
@[simp] theorem tab_UnknownName_InvalidCommand : tabE "UnknownName" "InvalidCommand" = some false := by decide +kernel
@[simp] theorem tab_UnknownName_StepFailed : tabE "UnknownName" "StepFailed" = some false := by decide +kernel
@[simp] theorem tab_UnknownName_LimitExceeded : tabE "UnknownName" "LimitExceeded" = some false := by decide +kernel
@[simp] theorem tab_UnknownName_UnknownUser : tabE "UnknownName" "UnknownUser" = some false := by decide +kernel
@[simp] theorem tab_UnknownName_UnknownName : tabE "UnknownName" "UnknownName" = some true := by decide +kernel
@[simp] theorem tab_UnknownName_NothingToUndo : tabE "UnknownName" "NothingToUndo" = some false := by decide +kernel
@[simp] theorem tab_NothingToUndo_InvalidNumber : tabE "NothingToUndo" "InvalidNumber" = some false := by decide +kernel
@[simp] theorem tab_NothingToUndo_InvalidStack : tabE "NothingToUndo" "InvalidStack" = some false := by decide +kernel
@[simp] theorem tab_NothingToUndo_InvalidSequence : tabE "NothingToUndo" "InvalidSequence" = some false := by decide +kernel
@[simp] theorem tab_NothingToUndo_InvalidEffect : tabE "NothingToUndo" "InvalidEffect" = some false := by decide +kernel
@[simp] theorem tab_NothingToUndo_InvalidText : tabE "NothingToUndo" "InvalidText" = some false := by decide +kernel
@[simp] theorem tab_NothingToUndo_InvalidCommand : tabE "NothingToUndo" "InvalidCommand" = some false := by decide +kernel
@[simp] theorem tab_NothingToUndo_StepFailed : tabE "NothingToUndo" "StepFailed" = some false := by decide +kernel
@[simp] theorem tab_NothingToUndo_LimitExceeded : tabE "NothingToUndo" "LimitExceeded" = some false := by decide +kernel
@[simp] theorem tab_NothingToUndo_UnknownUser : tabE "NothingToUndo" "UnknownUser" = some false := by decide +kernel
@[simp] theorem tab_NothingToUndo_UnknownName : tabE "NothingToUndo" "UnknownName" = some false := by decide +kernel
@[simp] theorem tab_NothingToUndo_NothingToUndo : tabE "NothingToUndo" "NothingToUndo" = some true := by decide +kernel
@[simp] theorem tab_SkylineError_InvalidNumber : tabE "SkylineError" "InvalidNumber" = some true := by decide +kernel
@[simp] theorem tab_SkylineError_InvalidStack : tabE "SkylineError" "InvalidStack" = some true := by decide +kernel
@[simp] theorem tab_SkylineError_InvalidSequence : tabE "SkylineError" "InvalidSequence" = some true := by decide +kernel
@[simp] theorem tab_SkylineError_InvalidEffect : tabE "SkylineError" "InvalidEffect" = some true := by decide +kernel
@[simp] theorem tab_SkylineError_InvalidText : tabE "SkylineError" "InvalidText" = some true := by decide +kernel
@[simp] theorem tab_SkylineError_InvalidCommand : tabE "SkylineError" "InvalidCommand" = some true := by decide +kernel
@[simp] theorem tab_SkylineError_StepFailed : tabE "SkylineError" "StepFailed" = some false := by decide +kernel
@[simp] theorem tab_SkylineError_LimitExceeded : tabE "SkylineError" "LimitExceeded" = some false := by decide +kernel
@[simp] theorem tab_SkylineError_UnknownUser : tabE "SkylineError" "UnknownUser" = some false := by decide +kernel
@[simp] theorem tab_SkylineError_UnknownName : tabE "SkylineError" "UnknownName" = some false := by decide +kernel
@[simp] theorem tab_SkylineError_NothingToUndo : tabE "SkylineError" "NothingToUndo" = some false := by decide +kernel
section
variable {K : PySem.W.Frag} {mg : Str → Option Value} {S : Addr} {cl : Str}
end
abbrev hFld : D → Ga → Res (Ga × R) := fun y Γ => .ok (Γ, .d y)
noncomputable abbrev hRepr : D → Ga → Res (Ga × R) := fun y Γ => (reprG y).bind fun z => .ok (Γ, z)
abbrev hLst (x0 : D) (s : D → Ga → Res (Ga × R)) : D → Ga → Res (Ga × R) := fun y Γ => (s y Γ).bind fun p => match p.2 with | .d z => .ok (p.1, .f [x0, z]) | .f _ => .stuck
abbrev hRet (s : D → Ga → Res (Ga × R)) : D → Ga → Res (Ga × Fl) := fun y Γ => (s y Γ).bind fun p => .ok (p.1, .rt p.2)
abbrev hSet (j : Nat) (s : D → Ga → Res (Ga × R)) : D → Ga → Res (Ga × Fl) := fun y Γ => (s y Γ).bind fun p => .ok (p.1.set j (slotOf p.2), .nx)
abbrev hRetK (x0 : D) : Ga → Res (Ga × Fl) := fun Γ => .ok (Γ, .rt (.d x0))
abbrev hSetC (j : Nat) (x0 : D) : Ga → Res (Ga × Fl) := fun Γ => .ok (Γ.set j (.d x0), .nx)
abbrev hSetL (j : Nat) (x0 : D) : Ga → Res (Ga × Fl) := fun Γ => .ok (Γ.set j (.own false [x0]), .nx)
variable [Tbl]
section
variable {X : Cx} {E : XK} {e e0 : Expr} {n : Str} {j : Nat} {pos pos' rpos : Pos} {h₀ : ExceptHandler} {hds : List ExceptHandler} {s : Ga → Res (Ga × R)} {hv : Str → D → Ga → Res (Ga × Fl)} {x0 : D} {v0 : V}
end
section
variable {P : Program} {w : World} {K : PySem.W.Frag} {mg : Str → Option Value} {base : Heap}
end
section
variable {X : Cx} {E : XK} {pos : Pos}
end
end Mi
namespace Mi
open PySem PySem.Spec PyProof.Rows L2 Evl
variable [Tbl]
def publ1 (Γ : Ga) (i : Nat) : Ga := match Γ[i]? with
  | some (.own false xs) => Γ.set i (.d (.list xs))
  | _ => Γ
def publ (Γ : Ga) : List Nat → Ga
  | [] => Γ
  | i :: is => publ (publ1 Γ i) is
def sPre {α : Type} (is : List Nat) (s : Ga → Res (Ga × α)) : Ga → Res (Ga × α) := fun Γ => s (publ Γ is)
@[simp] theorem z_pre {α : Type} {is : List Nat} {s : Ga → Res (Ga × α)} {Γ : Ga} : sPre is s Γ = s (publ Γ is) := rfl
@[simp] theorem z_publ0 {Γ : Ga} : publ Γ [] = Γ := rfl
@[simp] theorem z_publ1 {Γ : Ga} {i : Nat} {is : List Nat} : publ Γ (i :: is) = publ (match Γ[i]? with
  | some (.own false xs) => Γ.set i (.d (.list xs))
  | _ => Γ) is := rfl
section
variable {K : PySem.W.Frag} {B : Bg} {σ : L2.St} {Γ : Ga} {H0 H : Hp}
end
section
variable {X : Cx} {E : XK} {e : Expr} {st : Stmt}
end
end Mi
namespace Mi
open PySem PySem.Spec PyProof.Rows L2 Evl
theorem mul_small {i j : Int} (h1 : -(2 ^ 64) < j) (h2 : j < 2 ^ 64) : mulOk i j = true := by
  unfold mulOk
  exact okB_of (.inr (.inl ⟨h1, h2⟩))
theorem atI0 {α : Type} {x : α} {xs : List α} : atI (x :: xs) 0 = some x := atI_nat (j := 0) rfl
theorem atI1 {α : Type} {x y : α} {xs : List α} : atI (x :: y :: xs) 1 = some y := atI_nat (j := 1) rfl
theorem ixN0 {n : Nat} : ixN (n + 1) 0 = some 0 := by unfold ixN; simp
theorem ixN1 {n : Nat} : ixN (n + 2) 1 = some 1 := by unfold ixN; simp; omega
theorem forL_nx {g : D → Ga → Option Ga} {b : Ga → Res (Ga × Fl)} {x : D} {xs : List D} {Γ Γ1 Γ2 : Ga} (h1 : g x Γ = some Γ1) (h2 : b Γ1 = .ok (Γ2, .nx)) : forL g b (x :: xs) Γ = forL g b xs Γ2 := by
  rw [forL]
  simp only [h1, h2, bind_ok]
theorem p18 : powG (.int 10) (.int 18) = .ok (.d (.int 1000000000000000000)) := by
  have h := okB_of (p := 0 ≤ (18 : Int) ∧ (18 : Int) ≤ 1000000 ∧ (10 : Int).natAbs < 2 ^ 64) (by decide)
  unfold powG
  simp only [h, if_true]
  rfl
theorem p30 : powG (.int 10) (.int 30) = .ok (.d (.int 1000000000000000000000000000000)) := by
  have h := okB_of (p := 0 ≤ (30 : Int) ∧ (30 : Int) ≤ 1000000 ∧ (10 : Int).natAbs < 2 ^ 64) (by decide)
  unfold powG
  simp only [h, if_true]
  rfl
theorem unwipe_same {Γ : Ga} {vs : List Nat} : unwipe Γ Γ vs = Γ := by
  unfold unwipe
  apply List.ext_getElem (by simp)
  intro i h1 h2
  simp [List.getD_eq_getElem?_getD, List.getElem?_eq_getElem h2]
theorem lcL_mapM {α : Type} {f : α → D} {g : D → Ga → Option Ga} {te : Ga → Res (Ga × D)} {vs : List Nat} {F : α → D} {Γ : Ga} : ∀ xs : List α, (∀ x ∈ xs, ∃ Γ1, g (f x) Γ = some Γ1 ∧ te Γ1 = .ok (Γ1, F x) ∧ wipeG Γ1 vs = Γ) → lcL g sYes te vs (xs.map f) Γ = .ok (Γ, xs.map F)
  | [], _ => rfl
  | x :: xs, h => by
    obtain ⟨Γ1, h1, h2, h3⟩ := h x List.mem_cons_self
    rw [List.map_cons, lcL]
    simp only [h1, sYes, noX, bind_ok, if_true, h2, h3, lcL_mapM xs fun y hy => h y (List.mem_cons_of_mem _ hy), List.map_cons]
theorem putB0 {a b s : Sl} {i : Nat} : putB [none, none] [a, b] i s = s := by cases s <;> rfl
theorem putB1 {a s : Sl} {i : Nat} : putB [none] [a] i s = s := by cases s <;> rfl
theorem putBack0 {Γ : Ga} {a b : Sl} : putBack Γ [none, none] [a, b] = Γ := by
  unfold putBack
  apply List.ext_getElem (by simp)
  intro i h1 h2
  simp [putB0]
theorem putBack1 {Γ : Ga} {a : Sl} : putBack Γ [none] [a] = Γ := by
  unfold putBack
  apply List.ext_getElem (by simp)
  intro i h1 h2
  simp [putB1]
end Mi
namespace Mi
open PySem PySem.Spec PyProof.Rows L2 Evl
section
variable {Γ Γ' : Ga} {i j k n l : Nat} {x y : D} {xs ys : List D} {g h : D → D → Res R}
@[simp] theorem z_seq {s u : Ga → Res (Ga × Fl)} : sSeq s u Γ = (s Γ).bind fun p => match p.2 with | .nx => u p.1 | fl => .ok (p.1, fl) := rfl
@[simp] theorem z_brk : sBrk Γ = .ok (Γ, .bk) := rfl
@[simp] theorem z_cnt : sCnt Γ = .ok (Γ, .ct) := rfl
@[simp] theorem z_slotd : slotOf (.d x) = .d x := rfl
@[simp] theorem z_slotf : slotOf (.f xs) = .own false xs := rfl
@[simp] theorem z_set {s : Ga → Res (Ga × R)} : sSet i s Γ = (s Γ).bind fun p => .ok (p.1.set i (slotOf p.2), .nx) := rfl
@[simp] theorem z_ret {s : Ga → Res (Ga × R)} : sRet s Γ = (s Γ).bind fun p => .ok (p.1, .rt p.2) := rfl
@[simp] theorem z_retN : sRetN i Γ = match Γ[i]? with
  | some (.d x) => .ok (Γ, .rt (.d x))
  | some (.own false xs) => .ok (Γ.set i .un, .rt (.f xs))
  | _ => .stuck := rfl
@[simp] theorem z_drop {s : Ga → Res (Ga × R)} : sDrop s Γ = (s Γ).bind fun p => .ok (p.1, .nx) := rfl
@[simp] theorem z_gN : gN i x Γ = some (Γ.set i (.d x)) := rfl
@[simp] theorem z_gNil : gNil' [] Γ = some Γ := rfl
@[simp] theorem z_gCons {a : D → Ga → Option Ga} {b : List D → Ga → Option Ga} : gCons' a b (x :: xs) Γ = (a x Γ).bind (b xs) := rfl
@[simp] theorem z_gTup {b : List D → Ga → Option Ga} : gTup' b n (.tuple xs) Γ = if xs.length = n then b xs Γ else none := rfl
@[simp] theorem z_asg {a : D → Ga → Option Ga} {s : Ga → Res (Ga × D)} : sAsg a s Γ = (s Γ).bind fun p => match a p.2 p.1 with | some Γ' => .ok (Γ', .nx) | none => .stuck := rfl
@[simp] theorem z_ownAt : ownAt Γ i = match Γ[i]? with | some (.own (.b b) xs) => some (b, xs) | _ => none := rfl
@[simp] theorem z_append {s : Ga → Res (Ga × D)} : sAppend i s Γ = match ownAt Γ i with
  | some _ => (s Γ).bind fun p => match ownAt p.1 i with
    | some (b, xs) => if xs.length < sizeLine then .ok (p.1.set i (.own b (xs ++ [p.2])), .d .none) else .stuck
    | none => .stuck
  | none => .stuck := rfl
@[simp] theorem z_pop : sPop i Γ = match ownAt Γ i with
  | some (b, xs) => (match xs.getLast? with | some x => .ok (Γ.set i (.own b xs.dropLast), x) | none => .stuck)
  | none => .stuck := rfl
@[simp] theorem z_put {a v : Ga → Res (Ga × D)} : sPut i a v Γ = (v Γ).bind fun p => match ownAt p.1 i with
  | some _ => (a p.1).bind fun q => match ownAt q.1 i, q.2 with
    | some (b, xs), .int n => (match ixN xs.length n with | some j => .ok (q.1.set i (.own b (xs.set j p.2)), .nx) | none => .stuck)
    | _, _ => .stuck
  | none => .stuck := rfl
@[simp] theorem z_aug {f : Int → Int → Int} {s : Ga → Res (Ga × D)} : sAug f i s Γ = match Γ[i]? with
  | some (.d (.int m)) => (s Γ).bind fun p => match p.2 with | .int n => .ok (p.1.set i (.d (.int (f m n))), .nx) | _ => .stuck
  | _ => .stuck := rfl
@[simp] theorem z_ext {s : Ga → Res (Ga × D)} : sExt i s Γ = match ownAt Γ i with
  | some _ => (s Γ).bind fun p => match ownAt p.1 i, p.2 with
    | some (b, xs), .list ys => if xs.length + ys.length ≤ sizeLine then .ok (p.1.set i (.own b (xs ++ ys)), .nx) else .stuck
    | _, _ => .stuck
  | none => .stuck := rfl
@[simp] theorem z_rnil : sRNil Γ = .ok (Γ, []) := rfl
@[simp] theorem z_rcons {s : Ga → Res (Ga × R)} {r : Ga → Res (Ga × List R)} : sRCons s r Γ = (s Γ).bind fun p => (r p.1).bind fun q => .ok (q.1, p.2 :: q.2) := rfl
@[simp] theorem z_par2 {s : Ga → Res (Ga × List R)} : sPar2 i j s Γ = (s Γ).bind fun p => match p.2 with
  | [x, y] => .ok ((p.1.set i (slotOf x)).set j (slotOf y), .nx)
  | _ => .stuck := rfl
@[simp] theorem z_par3 {s : Ga → Res (Ga × List R)} : sPar3 i j l s Γ = (s Γ).bind fun p => match p.2 with
  | [x, y, z] => .ok (((p.1.set i (slotOf x)).set j (slotOf y)).set l (slotOf z), .nx)
  | _ => .stuck := rfl
@[simp] theorem z_call {m : Ga → Res (Ga × R)} {ks : List (Option Nat)} {s : Ga → Res (Ga × List D)} : callS m ks s Γ = (s Γ).bind fun p => (argSl p.1 ks p.2).bind fun Γa => (m Γa).bind fun q => .ok (putBack p.1 ks q.1, q.2) := rfl
@[simp] theorem z_ref {r : Ga → Res (Ga × List D)} : sRef i r Γ = (refSl Γ i).bind fun _ => r Γ := rfl
@[simp] theorem z_refSl : refSl Γ i = match Γ[i]? with
  | some (.own (.b _) xs) => .ok (.own true xs)
  | some (.scr ns) => .ok (.scr ns)
  | _ => .stuck := rfl
@[simp] theorem z_arg0 : argSl Γ [] [] = .ok [] := rfl
@[simp] theorem z_arg1 {ks : List (Option Nat)} : argSl Γ (none :: ks) (x :: xs) = (argSl Γ ks xs).bind fun r => .ok (.d x :: r) := rfl
@[simp] theorem z_arg2 {ks : List (Option Nat)} : argSl Γ (some i :: ks) xs = (refSl Γ i).bind fun s => (argSl Γ ks xs).bind fun r => .ok (s :: r) := by
  cases xs <;> rfl
@[simp] theorem z_outs0 : outs [] Γ = .ok [] := rfl
@[simp] theorem z_outs1 : outs (.own true xs :: Γ) (.own true ys :: Γ') = (outs Γ Γ').bind fun z => .ok (.own true ys :: z) := rfl
@[simp] theorem z_outs2 {s : Sl} : outs (.d x :: Γ) (s :: Γ') = (outs Γ Γ').bind fun z => .ok (.d x :: z) := by cases s <;> rfl
@[simp] theorem z_outs3 {s : Sl} {ns : List Int} : outs (.scr ns :: Γ) (s :: Γ') = (outs Γ Γ').bind fun z => .ok (.scr ns :: z) := by cases s <;> rfl
@[simp] theorem z_endF {p : Ga × Fl} : endF Γ p = match p.2 with
  | .nx => (outs Γ p.1).bind fun z => .ok (z, .d .none)
  | .rt r => (outs Γ p.1).bind fun z => .ok (z, r)
  | _ => .stuck := rfl
@[simp] theorem z_defS {b : Ga → Res (Ga × Fl)} : defS n l b Γ = if Γ.length = n then (b (Γ ++ List.replicate l .un)).bind (endF Γ) else .stuck := rfl
@[simp] theorem z_match {c1 c2 : Str} {s : Ga → Res (Ga × D)} {b1 b2 b3 : Ga → Res (Ga × Fl)} : sMatch c1 c2 i j l s b1 b2 b3 Γ = (s Γ).bind fun p => match p.2 with
  | .tuple [.str c, x, y] => if c = c1 then b1 ((p.1.set i (.d x)).set j (.d y)) else b3 p.1
  | .tuple [.str c, y] => if c = c2 then b2 (p.1.set l (.d y)) else b3 p.1
  | _ => .stuck := rfl
@[simp] theorem z_it {f : D → Res (List D)} {s : Ga → Res (Ga × D)} : sIt f s Γ = (s Γ).bind fun p => (f p.2).bind fun xs => .ok (p.1, xs) := rfl
@[simp] theorem z_itA {f : List D → Res (List D)} {s : Ga → Res (Ga × List D)} : sItA f s Γ = (s Γ).bind fun p => (f p.2).bind fun xs => .ok (p.1, xs) := rfl
@[simp] theorem z_iterl : iterA (.list xs) = .ok xs := rfl
@[simp] theorem z_itert : iterA (.tuple xs) = .ok xs := rfl
@[simp] theorem z_rev {s : Ga → Res (Ga × D)} : sRev s Γ = (s Γ).bind fun p => match p.2 with | .list xs => .ok (p.1, .f xs.reverse) | .tuple xs => .ok (p.1, .d (.tuple xs.reverse)) | _ => .stuck := rfl
@[simp] theorem z_yes : sYes Γ = .ok (Γ, true) := rfl
/- operators -/
variable {a b : Int}
@[simp] theorem z_add : addG (.int a) (.int b) = .ok (.d (.int (a + b))) := rfl
@[simp] theorem z_addT : addG (.tuple xs) (.tuple ys) = if xs.length + ys.length ≤ sizeLine then .ok (.d (.tuple (xs ++ ys))) else .stuck := rfl
@[simp] theorem z_addL : addG (.list xs) (.list ys) = if xs.length + ys.length ≤ sizeLine then .ok (.f (xs ++ ys)) else .stuck := rfl
@[simp] theorem z_sub : subG (.int a) (.int b) = .ok (.d (.int (a - b))) := rfl
@[simp] theorem z_mul : mulG (.int a) (.int b) = if mulOk a b = true then .ok (.d (.int (a * b))) else .stuck := rfl
@[simp] theorem z_mod : modG (.int a) (.int b) = if okB (0 < b) = true then .ok (.d (.int (a % b))) else .stuck := rfl
@[simp] theorem z_fdiv : fdivG (.int a) (.int b) = if okB (0 < b ∧ b.natAbs.log2 < 9000) = true then .ok (.d (.int (a / b))) else .stuck := rfl
@[simp] theorem z_okB {p : Prop} : (okB p = true) = p := propext okB_iff
@[simp] theorem z_lt : ltG (.int a) (.int b) = .ok (.d (.bool (decide (a < b)))) := rfl
@[simp] theorem z_le : leG (.int a) (.int b) = .ok (.d (.bool (decide (a ≤ b)))) := rfl
@[simp] theorem z_gt : gtG (.int a) (.int b) = .ok (.d (.bool (decide (b < a)))) := rfl
@[simp] theorem z_ge : geG (.int a) (.int b) = .ok (.d (.bool (decide (b ≤ a)))) := rfl
@[simp] theorem z_is : isG x .none = .ok (.d (.bool (isNonD x))) := rfl
@[simp] theorem z_isnot : isnotG x .none = .ok (.d (.bool (!isNonD x))) := rfl
@[simp] theorem z_isb {b c : Bool} : isG (.bool c) (.bool b) = .ok (.d (.bool (decide (c = b)))) := rfl
@[simp] theorem z_isnotb {b c : Bool} : isnotG (.bool c) (.bool b) = .ok (.d (.bool (!decide (c = b)))) := rfl
@[simp] theorem z_non1 : isNonD .none = true := rfl
@[simp] theorem z_non2 : isNonD (.int a) = false := rfl
@[simp] theorem z_non3 : isNonD (.tuple xs) = false := rfl
@[simp] theorem z_non4 : isNonD (.list xs) = false := rfl
@[simp] theorem z_non5 {s : Str} : isNonD (.str s) = false := rfl
@[simp] theorem z_neg : negG (.int a) = .ok (.d (.int (-a))) := rfl
@[simp] theorem z_ixl : ixG (.list xs) (.int a) = match atI xs a with | some x => .ok (.d x) | none => .stuck := rfl
@[simp] theorem z_ixt : ixG (.tuple xs) (.int a) = match atI xs a with | some x => .ok (.d x) | none => .stuck := rfl
@[simp] theorem z_lenl : lenG (.list xs) = .ok (.d (.int xs.length)) := rfl
@[simp] theorem z_lent : lenG (.tuple xs) = .ok (.d (.int xs.length)) := rfl
@[simp] theorem z_listl : listG (.list xs) = .ok (.f xs) := rfl
@[simp] theorem z_listt : listG (.tuple xs) = .ok (.f xs) := rfl
@[simp] theorem z_tupl : tupleG (.list xs) = .ok (.d (.tuple xs)) := rfl
@[simp] theorem z_tupt : tupleG (.tuple xs) = .ok (.d (.tuple xs)) := rfl
@[simp] theorem z_max2 : max2G [.int a, .int b] = .ok (.d (.int (max a b))) := by
  show Res.ok (R.d (.int (if b > a then b else a))) = _
  congr 3
  split <;> omega
@[simp] theorem z_min2 : min2G [.int a, .int b] = .ok (.d (.int (min a b))) := by
  show Res.ok (R.d (.int (if b < a then b else a))) = _
  congr 3
  split <;> omega
@[simp] theorem z_abs : absG (.int a) = .ok (.d (.int (if a < 0 then -a else a))) := rfl
@[simp] theorem z_inti : intG (.int a) = .ok (.d (.int a)) := rfl
@[simp] theorem z_intb {b : Bool} : intG (.bool b) = .ok (.d (.int (if b then 1 else 0))) := rfl
@[simp] theorem z_enum : enumL [.list xs] = .ok (numb 0 xs) := rfl
@[simp] theorem z_zipf1 : zipSL false [.list xs, .list ys] = .ok (pairUp xs ys) := by simp [zipSL]
@[simp] theorem z_zipf2 : zipSL false [.tuple xs, .tuple ys] = .ok (pairUp xs ys) := by simp [zipSL]
@[simp] theorem z_zip1 : zipLT [.list xs, .list ys] = .ok (pairUp xs ys) := rfl
@[simp] theorem z_zip2 : zipLT [.tuple xs, .tuple ys] = .ok (pairUp xs ys) := rfl
@[simp] theorem z_listZip : listZipG [.tuple xs, .tuple ys] = .ok (.f (pairUp xs ys)) := rfl
/- sizes -/
theorem sizeLine_eq : sizeLine = 16777216 := by unfold sizeLine; decide
@[simp] theorem z_szle : (n ≤ sizeLine) = (n ≤ 16777216) := by rw [sizeLine_eq]
@[simp] theorem z_szlt : (n < sizeLine) = (n < 16777216) := by rw [sizeLine_eq]
/- places -/
@[simp] theorem z_at0 {α : Type} {x : α} {xs : List α} : atI (x :: xs) 0 = some x := atI0
@[simp] theorem z_at1 {α : Type} {x y : α} {xs : List α} : atI (x :: y :: xs) 1 = some y := atI1
@[simp] theorem z_at2 {α : Type} {x y z : α} {xs : List α} : atI (x :: y :: z :: xs) 2 = some z := atI_nat (j := 2) rfl
@[simp] theorem z_ixN0 : ixN (n + 1) 0 = some 0 := ixN0
@[simp] theorem z_ixN1 : ixN (n + 2) 1 = some 1 := ixN1
@[simp] theorem z_mulOkR {b : Int} (h1 : -18446744073709551616 < b) (h2 : b < 18446744073709551616) : mulOk a b = true := mul_small h1 h2
theorem mulOkL {a b : Int} (h1 : -(2 ^ 64) < a) (h2 : a < 2 ^ 64) : mulOk a b = true := by
  unfold mulOk
  exact okB_of (.inl ⟨h1, h2⟩)
@[simp] theorem z_mulOkL {b : Int} (h1 : -18446744073709551616 < a) (h2 : a < 18446744073709551616) : mulOk a b = true := mulOkL h1 h2
@[simp] theorem z_put0 : ∀ {Γ : Ga} {ks : List (Option Nat)} {os : Ga}, putBack Γ (none :: ks) (os) = putBack Γ (none :: ks) os := rfl
end
end Mi
namespace Mi
open PySem PySem.Spec PyProof.Rows L2 Evl
section
variable {Γ Γ' : Ga} {i j n : Nat} {x y : D} {xs ys : List D}
@[simp] theorem z_raise {c : Str} {s : Ga → Res (Ga × D)} : sRaise c s Γ = (s Γ).bind fun p => .exc c p.2 := rfl
@[simp] theorem z_hide0 : hide [] = [] := rfl
@[simp] theorem z_hide1 {s : Sl} : hide (s :: Γ) = hideS s :: hide Γ := rfl
@[simp] theorem z_hideD : hideS (.d x) = .d x := rfl
@[simp] theorem z_hideU : hideS .un = .un := rfl
@[simp] theorem z_hideC : hideS .cl = .cl := rfl
@[simp] theorem z_hideO {b : Ow} : hideS (.own b xs) = .un := rfl
@[simp] theorem z_hideR {ns : List Int} : hideS (.scr ns) = .scr ns := rfl
@[simp] theorem z_lamR {sb : Ga → Res (Ga × R)} : lamR sb Γ = (sb (hide Γ)).bind fun p => .ok p.2 := rfl
@[simp] theorem z_callLam {m : Res R → Res R} {sb : Ga → Res (Ga × R)} : callLam m sb Γ = (m (lamR sb Γ)).bind fun r => .ok (Γ, r) := rfl
@[simp] theorem z_sK {r : Res R} : sK r (.cl :: Γ) = r.bind fun x => .ok (.cl :: Γ, x) := rfl
@[simp] theorem z_outsC {s : Sl} : outs (.cl :: Γ) (s :: Γ') = (outs Γ Γ').bind fun z => .ok (.cl :: z) := by cases s <;> rfl
@[simp] theorem z_lamS {b : Res R → Ga → Res (Ga × Fl)} {r : Res R} : lamS n b r = (defS 1 n (b r) [.cl]).bind fun p => .ok p.2 := rfl
@[simp] theorem z_tryR {s : Ga → Res (Ga × R)} {hv : Str → D → Ga → Res (Ga × Fl)} : sTryR s hv Γ = match s (hide Γ) with
  | .ok p => .ok (Γ, .rt p.2)
  | .exc c y => hv c y Γ
  | .stuck => .stuck := rfl
@[simp] theorem z_tryE {s : Ga → Res (Ga × R)} {hv : Str → D → Ga → Res (Ga × Fl)} : sTryE s hv Γ = match s (hide Γ) with
  | .ok _ => .ok (Γ, .nx)
  | .exc c y => hv c y Γ
  | .stuck => .stuck := rfl
@[simp] theorem z_tryS {s : Ga → Res (Ga × R)} {hv : Str → D → Ga → Res (Ga × Fl)} : sTryS j s hv Γ = match s (hide Γ) with
  | .ok p => .ok (Γ.set j (slotOf p.2), .nx)
  | .exc c y => hv c y Γ
  | .stuck => .stuck := rfl
@[simp] theorem z_hvC {tab : Str → Option Bool} {h hv : Str → D → Ga → Res (Ga × Fl)} {c : Str} : hvC tab h hv c y Γ = match tab c with
  | some true => h c y Γ
  | some false => hv c y Γ
  | none => .stuck := rfl
@[simp] theorem z_hvN {c : Str} : hvN c y Γ = .exc c y := rfl
@[simp] theorem z_wipe1 {r : Res (Ga × Fl)} : wipe1 i r = r.bind fun p => .ok (p.1.set i .un, p.2) := rfl
@[simp] theorem z_datN : sDatN i Γ = match Γ[i]? with
  | some (.d x) => .ok (Γ, x)
  | _ => .stuck := rfl
@[simp] theorem z_hFld : hFld y Γ = .ok (Γ, .d y) := rfl
@[simp] theorem z_hRepr : hRepr y Γ = (reprG y).bind fun z => .ok (Γ, z) := rfl
@[simp] theorem z_hLst {s : D → Ga → Res (Ga × R)} : hLst x s y Γ = (s y Γ).bind fun p => match p.2 with | .d z => .ok (p.1, .f [x, z]) | .f _ => .stuck := rfl
@[simp] theorem z_hRet {s : D → Ga → Res (Ga × R)} : hRet s y Γ = (s y Γ).bind fun p => .ok (p.1, .rt p.2) := rfl
@[simp] theorem z_hSet {s : D → Ga → Res (Ga × R)} : hSet j s y Γ = (s y Γ).bind fun p => .ok (p.1.set j (slotOf p.2), .nx) := rfl
@[simp] theorem z_hRetK : hRetK x Γ = .ok (Γ, .rt (.d x)) := rfl
@[simp] theorem z_hSetC : hSetC j x Γ = .ok (Γ.set j (.d x), .nx) := rfl
@[simp] theorem z_hSetL : hSetL j x Γ = .ok (Γ.set j (.own false [x]), .nx) := rfl
@[simp] theorem z_neverS : sNever Γ = .stuck := rfl
end
end Mi
namespace Mi
open PySem PySem.Spec PyProof.Rows L2 Evl GenW
section
variable {M : Model} {A : Around} {R : GenEnd} {Y : Protocol} {n : Nat} {s₀ : Shared} {c : Code} {fs : List Frame} {s : Shared} {env : Env}
  {K : Flow → Sem PySem.Fin} {J : Value → Sem PySem.Fin} {gd : Bool → Bool} {lv : List Value → List Value}
end
section
variable {prog : Program} {w : World} {A : Around} {R : GenEnd} {Y : Protocol} {n : Nat} {s₀ : Shared} {fs : List Frame} {s : Shared} {env : Env}
end
end Mi
namespace Mi
open PySem PySem.Spec PyProof.Rows L2 Evl GenW
def cutHp (h : Heap) (n : Nat) : Heap := ⟨h.objs.extract 0 n, h.life⟩
def cutS (s : Shared) (n : Nat) : Shared := { s with heap := cutHp s.heap n }
structure GenP where
  prog : Program
  w : World
  K : PySem.W.Frag
  mg : Str → Option Value
  base : Heap
  N : List Str
  qual : Str
  scope : Scope
  f : Addr
  cd : Value
  A : Around
  outer : List Env
  n : Nat
  pn : List (Addr × Obj)
abbrev GenP.env (G : GenP) : Env := envOfC G.qual G.scope G.n G.f G.cd
def gx (G : GenP) (s : Shared) (H : Hp) (E : XK) : Cx where
  prog := G.prog
  w := G.w
  K := G.K
  mg := G.mg
  base := G.base
  A := G.A.deeper (envOfC G.qual G.scope G.n G.f G.cd)
  N := G.N
  s_0 := cutS s G.n
  H_0 := H
  env := envOfC G.qual G.scope G.n G.f G.cd
  outer := G.outer
  stack := envOfC G.qual G.scope G.n G.f G.cd :: G.outer
  ex := []
  calm := true
  fn := fun _ => true
  pn := G.pn
  xe := fun e s' => wpAny (model G.prog G.w) (G.A.deeper (envOfC G.qual G.scope G.n G.f G.cd)) (leaving (envOfC G.qual G.scope G.n G.f G.cd) e)
      (fun _ s'' => L2.CX G.prog G.w G.outer H (cutS s G.n) E e s'' ∧ ∀ p ∈ G.pn, s''.heap.get? p.1 = some p.2) (fun _ _ => False) s'
structure Wk (G : GenP) (H H' : Hp) (s s' : Shared) : Prop where
  os : s'.os = s.os
  bare : AllBare s'.gens
  keep : ∀ b o, G.n ≤ b → H b = none → s.heap.get? b = some o → s'.heap.get? b = some o ∧ H' b = none
  bs : ∀ b o, G.base.get? b = some o → s'.heap.get? b = some o ∧ H' b = none
  funs : s'.heap.FunFrames G.base G.outer
  frf : ∀ b ∈ frs G.outer, H' b = none
  hok : HOk G.prog G.w H' s'.heap
  sz : G.n ≤ s'.heap.objs.size
end Mi
namespace Mi
open PySem PySem.Spec PyProof.Rows L2 Evl GenW
variable [Tbl]
structure GPr where
  ys : List D
  fin : Res Unit
  Rd : Nat → Shared → Hp → Hp → Prop
abbrev Yr := List D × Res (Ga × Fl)
def noBg (H0 H : Hp) : Bg := ⟨H0, H, fun _ => none⟩
def EG (G : GenP) (Q : GPr) (i : Nat) (H0w Hw : Hp) : XK := fun cls d H' => ∃ c x C a v H0', Q.fin = .exc c x ∧ i = Q.ys.length ∧ cls = .ref C ∧ d = some a ∧ G.mg c = some (.ref C) ∧ H' a = some (.xd [(fieldOf c, v)]) ∧ Rp G.K H0' v x ∧ Ex H0' H' ∧ Grow (fun _ => False) H0w Hw H0' H'
structure GenP.Ok (G : GenP) : Prop where
  hf : ∀ b ∈ frs G.outer, b < G.n
  hbz : G.base.objs.size ≤ G.n
  pn : ∀ p ∈ G.pn, G.n ≤ p.1
structure GSt (G : GenP) (Q : GPr) (i : Nat) (s₀ : Shared) (ip : List (Addr × Obj)) (σ : L2.St) (Γ : Ga) (H0w Hw H0 H : Hp) (s : Shared) : Prop where
  rd : Q.Rd i s₀ H0w Hw
  sz : G.n ≤ s₀.heap.objs.size
  ok : EnvOk G.K (noBg H0w Hw) σ Γ H0 H
  inv : Inv (gx G s₀ Hw (EG G Q i H0w Hw)) ip σ H s
def YG (G : GenP) (Q : GPr) : Protocol := fun n s₀ v s kap => ∃ i ip σ Γ H0w Hw H0 H x u, n + 1 + i = Q.ys.length ∧ GSt G Q i s₀ ip σ Γ H0w Hw H0 H s ∧ Q.ys[i]? = some x ∧ RelV u v ∧ Rp G.K H0 u x ∧
  ∀ s' H0' H', Q.Rd (i + 1) s' H0' H' → Wk G H H' s s' → Ex H0 H0' → Ex H0' H' → Tabs H' → Past H0' → kap (.send .none) s'
structure GCo (G : GenP) (ip : List (Addr × Obj)) (A : Around) (c : Code) (fs : List Frame) (gd : Bool → Bool) : Prop where
  ok : G.Ok
  ip : ∀ p ∈ ip, G.n ≤ p.1
  over : A.over c fs = G.A.deeper (envOfC G.qual G.scope G.n G.f G.cd)
  split : splitAtGen fs = none
  guard : fs.any Frame.guarded = false
  gd : gd false = false
inductive FlF : Fl → Flow → Prop
  | nx : FlF .nx .next
  | bk : FlF .bk .brk
  | ct : FlF .ct .cont
structure YK (G : GenP) (Q : GPr) (ip : List (Addr × Obj)) (A : Around) (R : GenEnd) (i : Nat) (c : Code) (fs : List Frame) (K : Flow → Sem PySem.Fin) (J : Value → Sem PySem.Fin) (Hs : Hp) (y : Yr) : Prop where
  ok : ∀ n s₀ s σ Γ fl f H0w Hw H0 H, Ex Hs H0 → y.2 = .ok (Γ, fl) → FlF fl f → n + (i + y.1.length) = Q.ys.length → GSt G Q (i + y.1.length) s₀ ip σ Γ H0w Hw H0 H s → Seg (model G.prog G.w) A R (YG G Q) n s₀ c (K f) fs s
  exc : ∀ n j s₀ e s H0w Hw, n + j = Q.ys.length → Q.Rd j s₀ H0w Hw → G.n ≤ s₀.heap.objs.size → (gx G s₀ Hw (EG G Q j H0w Hw)).xe e s → Seg (model G.prog G.w) A R (YG G Q) n s₀ c (J e) fs s
structure YFit (Q : GPr) (i : Nat) (y : Yr) : Prop where
  go : y.2 ≠ .stuck
  nort : ∀ Γ r, y.2 ≠ .ok (Γ, .rt r)
  out : (Q.ys.drop i).take y.1.length = y.1
  fin : ∀ c x, y.2 = .exc c x → Q.fin = .exc c x ∧ i + y.1.length = Q.ys.length
def YRun (G : GenP) (m : Sem Flow) (q : Ga → Yr) : Prop := ∀ (Q : GPr) (ip : List (Addr × Obj)) (A : Around) (R : GenEnd) (n i : Nat) (s₀ : Shared) (c : Code) (fs : List Frame) (K : Flow → Sem PySem.Fin) (J : Value → Sem PySem.Fin) (gd : Bool → Bool) (lv : List Value → List Value) (s : Shared) (σ : L2.St) (Γ : Ga) (H0w Hw H0 H : Hp),
  GCo G ip A c fs gd → n + i = Q.ys.length → YFit Q i (q Γ) → GSt G Q i s₀ ip σ Γ H0w Hw H0 H s → YK G Q ip A R i c fs K J H0 (q Γ) → Seg (model G.prog G.w) A R (YG G Q) n s₀ c (m.wrap K J gd lv) fs s
def YSs (G : GenP) (st : List Stmt) (q : Ga → Yr) : Prop := YRun G (execs st G.env) q
def yNil : Ga → Yr := fun Γ => ([], .ok (Γ, .nx))
def yAdd (zs : List D) (y : Yr) : Yr := (zs ++ y.1, y.2)
def ySeq (a b : Ga → Yr) : Ga → Yr := fun Γ => match (a Γ).2 with
  | .ok (Γ1, .nx) => yAdd (a Γ).1 (b Γ1)
  | _ => a Γ
theorem YFit.later {Q : GPr} {i : Nat} {zs : List D} {y : Yr} (h : YFit Q i (yAdd zs y)) : YFit Q (i + zs.length) y where
  go := h.go
  nort := h.nort
  out := by
    have := h.out
    unfold yAdd at this
    simp only [List.length_append] at this
    have e := congrArg (fun l => l.drop zs.length) this
    simp only [List.drop_left] at e
    rw [List.drop_take, List.drop_drop] at e
    rw [show zs.length + y.1.length - zs.length = y.1.length by omega] at e
    exact e
  fin := fun c x hr => by
    obtain ⟨h1, h2⟩ := h.fin c x hr
    refine ⟨h1, ?_⟩
    unfold yAdd at h2
    simp only [List.length_append] at h2
    omega
theorem YFit.first {Q : GPr} {i : Nat} {zs : List D} {y : Yr} {Γ : Ga} {fl : Fl} (hfl : ∀ r, fl ≠ .rt r) (h : YFit Q i (yAdd zs y)) : YFit Q i (zs, .ok (Γ, fl)) where
  go := nofun
  nort := fun Γ' r e => by cases e; exact hfl r rfl
  out := by
    have := h.out
    unfold yAdd at this
    simp only [List.length_append] at this
    have e := congrArg (fun l => l.take zs.length) this
    simp only [List.take_left] at e
    rw [List.take_take, show min zs.length (zs.length + y.1.length) = zs.length by omega] at e
    exact e
  fin := fun c x hr => by cases hr
end Mi
namespace Mi
open PySem PySem.Spec PyProof.Rows L2 Evl GenW
variable [Tbl]
def yL (f : Ga → Res (Ga × Fl)) : Ga → Yr := fun Γ => ([], f Γ)
def datS : Sl → Bool
  | .own _ _ => false
  | _ => true
def yY (s : Ga → Res (Ga × D)) : Ga → Yr := fun Γ => match s Γ with
  | .ok (Γ', x) => if Γ'.all datS = true then ([x], .ok (Γ', .nx)) else ([], .stuck)
  | .exc c x => ([], .exc c x)
  | .stuck => ([], .stuck)
section
variable {M : Model} {A : Around} {R : GenEnd} {Y : Protocol} {n : Nat} {s₀ : Shared} {c : Code} {fs : List Frame} {s : Shared} {env : Env}
  {K : Flow → Sem PySem.Fin} {J : Value → Sem PySem.Fin} {gd : Bool → Bool} {lv : List Value → List Value}
end
end Mi
namespace Mi
open PySem PySem.Spec PyProof.Rows L2 Evl GenW
variable [Tbl]
theorem YK.later {G : GenP} {Q : GPr} {ip : List (Addr × Obj)} {A : Around} {R : GenEnd} {i : Nat} {c : Code} {fs : List Frame} {K : Flow → Sem PySem.Fin} {J : Value → Sem PySem.Fin} {zs : List D} {y : Yr}
    {Hs Ht : Hp} (xe : Ex Hs Ht) (k : YK G Q ip A R i c fs K J Hs (yAdd zs y)) : YK G Q ip A R (i + zs.length) c fs K J Ht y where
  ok := fun n s₀ s σ Γ fl f H0w Hw H0 H xx e ff hn hst => by
    have el : i + zs.length + y.1.length = i + (yAdd zs y).1.length := by unfold yAdd; rw [List.length_append]; omega
    rw [el] at hn hst
    exact k.ok n s₀ s σ Γ fl f H0w Hw H0 H (xe.trans xx) e ff hn hst
  exc := k.exc
theorem YK.up {G : GenP} {Q : GPr} {ip : List (Addr × Obj)} {A : Around} {R : GenEnd} {i : Nat} {c : Code} {fs : List Frame} {K : Flow → Sem PySem.Fin} {J : Value → Sem PySem.Fin} {y : Yr} {Hs Ht : Hp} (k : YK G Q ip A R i c fs K J Hs y) (xe : Ex Hs Ht) : YK G Q ip A R i c fs K J Ht y :=
  ⟨fun n s₀ s σ Γ fl f H0w Hw H0 H xx e ff hn hst => k.ok n s₀ s σ Γ fl f H0w Hw H0 H (xe.trans xx) e ff hn hst, k.exc⟩
def yIf (sc : Ga → Res (Ga × Bool)) (a b : Ga → Yr) : Ga → Yr := fun Γ => match sc Γ with
  | .ok (Γ1, t) => if t = true then a Γ1 else b Γ1
  | .exc c x => ([], .exc c x)
  | .stuck => ([], .stuck)
end Mi
namespace Mi
open PySem PySem.Spec PyProof.Rows L2 Evl GenW
variable [Tbl]
end Mi
namespace Mi
open PySem PySem.Spec PyProof.Rows L2 Evl GenW
variable [Tbl]
def FG (G : GenP) (Q : GPr) : Nat → Shared → Shared → Prop := fun n s₀ s => Q.fin = .ok () ∧ ∃ ip σ Γ H0w Hw H0 H, GSt G Q Q.ys.length s₀ ip σ Γ H0w Hw H0 H s
def XG (G : GenP) (Q : GPr) : Value → Shared → Prop := fun e s => ∃ j s₀ H0w Hw, Q.Rd j s₀ H0w Hw ∧ G.n ≤ s₀.heap.objs.size ∧ L2.CX G.prog G.w G.outer Hw (cutS s₀ G.n) (EG G Q j H0w Hw) e s ∧ ∀ p ∈ G.pn, s.heap.get? p.1 = some p.2
def RG (G : GenP) (Q : GPr) : GenEnd := fun n s₀ r s => ((r = .ok (.ret .none) ∨ r = .ok .next) ∧ FG G Q n s₀ s) ∨ ∃ e, r = .error e ∧ XG G Q e s
structure YAll (Q : GPr) (y : Yr) : Prop where
  ys : y.1 = Q.ys
  go : y.2 ≠ .stuck
  nort : ∀ Γ r, y.2 ≠ .ok (Γ, .rt r)
  fin : ∀ p, y.2 = .ok p → Q.fin = .ok ()
  exc : ∀ c x, y.2 = .exc c x → Q.fin = .exc c x
def gp (P : Program) (w : World) (K : PySem.W.Frag) (mg : Str → Option Value) (base : Heap) (N : List Str) (qual : Str) (scope : Scope) (f : Addr) (cd : Value) (A : Around) (outer : List Env) (n : Nat) (pn : List (Addr × Obj)) : GenP := ⟨P, w, K, mg, base, N, qual, scope, f, cd, A, outer, n, pn⟩
structure Gen0 (P : Program) (w : World) (K : PySem.W.Frag) (mg : Str → Option Value) (base : Heap) (N : List Str) (qual : Str) (scope : Scope) (f : Addr) (cd : Value) (body : List Stmt) (k : Nat) (outer : List Env) (s : Shared) (H : Hp) (vs : List V) (a : Addr) (g : Nat) (go : Obj) (s' : Shared) : Prop where
  above : s.heap.objs.size ≤ a
  lt : a < s'.heap.objs.size
  at_ : s'.heap.get? a = some go
  gen : ∀ h : Heap, h.get? a = some go → h.IsGen a g
  st : s'.gens[g]? = some (.fresh (.func body (envOfC qual scope s.heap.objs.size f cd)))
  os : s'.os = s.os
  bare : AllBare s'.gens
  lim : s'.heap.NoLimit
  kept : ∀ b o, s.heap.get? b = some o → s'.heap.get? b = some o
  ok : ∀ A : Around, (gp P w K mg base N qual scope f cd A outer s.heap.objs.size [(a, go)]).Ok
  inv : ∀ A : Around, A.handled = none → A.frames = some outer → ∀ E, Inv (gx (gp P w K mg base N qual scope f cd A outer s.heap.objs.size [(a, go)]) s H E) [] (start N vs) H s'
end Mi
namespace Mi
open PySem PySem.Spec PyProof.Rows L2 Evl GenW
variable [Tbl]
structure CSt (X : Cx) (pins : List (Addr × Obj)) (n : Nat) : Prop where
  loc : X.env.locals < n
  s0 : X.s_0.heap.objs.size ≤ n
  cells : ∀ x c, X.env.cells.lookup x = some c → c < n
  pins : ∀ p ∈ X.pn ++ pins, p.1 < n
  fs : ∀ b ∈ frs X.stack, b < n
def above (s : Shared) (H : Hp) (n : Nat) : List Addr := (List.range s.heap.objs.size).filter fun b => decide (n ≤ b) && (H b).isNone
end Mi
namespace Mi
open PySem PySem.Spec PyProof.Rows L2 Evl GenW
variable [Tbl]
structure Nap (G : GenP) (Q : GPr) (i : Nat) (H0y Hy : Hp) (sy : Shared) (gs : GenState) : Prop where
  wake : ∀ s' H0' H', Q.Rd i s' H0' H' → Wk G Hy H' sy s' → Ex H0y H0' → Ex H0' H' → Tabs H' → Past H0' → gs.Goes (model G.prog G.w) G.A (RG G Q) (YG G Q) (Q.ys.length - i) (.send .none) s'
structure HasG (P : Program) (w : World) (K : PySem.W.Frag) (mg : Str → Option Value) (base : Heap) (x : Str) (k : Nat) (ps : List Str) (extra : Nat) (q : Ga → Yr) : Prop where
  ex : ∃ st f fd N, Def K mg x st ps f fd ∧ GScope N ps (defScope st) ∧ N.length = ps.length + extra ∧ ∀ cdv A outer n pn, Room k (A.deeper (envOfC x (defScope st) n f cdv)) → A.guards = some [] → YSs (gp P w K mg base N x (defScope st) f cdv A outer n pn) (defBody st) q
section
variable {X : Cx} {pins : List (Addr × Obj)} {σ : L2.St} {H : Hp} {s : Shared}
end
end Mi
namespace Mi
open PySem PySem.Spec PyProof.Rows L2 Evl GenW
variable [Tbl]
section
variable {X : Cx} {E : XK}
structure Came (X : Cx) (pins : List (Addr × Obj)) (σ : L2.St) (x : Str) (st : Stmt) (N : List Str) (f : Addr) (cdv : Value) (k : Nat) (Qa : List V → Hp → Prop) (u : Value) (s' : Shared) (vs : List V) (Hc : Hp) (sc : Shared) (a : Addr) (g : Nat) (go : Obj) : Prop where
  eq : u = .ref a
  inv : Inv X pins σ Hc sc
  q : Qa vs Hc
  gen : Gen0 X.prog X.w X.K X.mg X.base N x (defScope st) f cdv (defBody st) k X.stack sc Hc vs a g go s'
end
structure LoopSt (X : Cx) (pins : List (Addr × Obj)) (G : GenP) (Q : GPr) (a gn : Nat) (go : Obj) (i : Nat) (s : Shared) (gs : GenState) (H0y Hy : Hp) (sy : Shared) (H0c Hc : Hp) : Prop where
  le : i ≤ Q.ys.length
  st : s.gens[gn]? = some gs
  at_ : s.heap.get? a = some go
  nap : Nap G Q i H0y Hy sy gs
  inv : ∃ σ, Inv X pins σ Hc s
  rd : ∀ s', s'.heap = s.heap → s'.os = s.os → AllBare s'.gens → Q.Rd i s' H0c Hc
  ex : Ex H0y H0c
  sub : Ex H0c Hc
  tab : Tabs Hc
  past : Past H0c
  os : s.os = sy.os
  keep : ∀ b o, G.n ≤ b → Hy b = none → sy.heap.get? b = some o → s.heap.get? b = some o ∧ Hc b = none
section
variable {X : Cx} {E : XK}
end
end Mi
namespace Mi
open PySem PySem.Spec PyProof.Rows L2 Evl
def errG (c : Str) : Bool := errAll.contains c
@[simp] theorem errG_InvalidNumber : errG "InvalidNumber" = true := by decide +kernel
@[simp] theorem errG_InvalidStack : errG "InvalidStack" = true := by decide +kernel
@[simp] theorem errG_InvalidSequence : errG "InvalidSequence" = true := by decide +kernel
@[simp] theorem errG_StepFailed : errG "StepFailed" = true := by decide +kernel
section
variable {Γ : Ga}
@[simp] theorem z_yNil : yNil Γ = ([], .ok (Γ, .nx)) := rfl
@[simp] theorem z_ySeq {a b : Ga → Yr} : ySeq a b Γ = match (a Γ).2 with
  | .ok (Γ1, .nx) => yAdd (a Γ).1 (b Γ1)
  | _ => a Γ := rfl
@[simp] theorem z_yAdd {zs : List D} {y : Yr} : yAdd zs y = (zs ++ y.1, y.2) := rfl
@[simp] theorem z_yL {f : Ga → Res (Ga × Fl)} : yL f Γ = ([], f Γ) := rfl
@[simp] theorem z_yY {s : Ga → Res (Ga × D)} : yY s Γ = match s Γ with
  | .ok (Γ', x) => if Γ'.all datS = true then ([x], .ok (Γ', .nx)) else ([], .stuck)
  | .exc c x => ([], .exc c x)
  | .stuck => ([], .stuck) := rfl
@[simp] theorem z_yIf {sc : Ga → Res (Ga × Bool)} {a b : Ga → Yr} : yIf sc a b Γ = match sc Γ with
  | .ok (Γ1, t) => if t = true then a Γ1 else b Γ1
  | .exc c x => ([], .exc c x)
  | .stuck => ([], .stuck) := rfl
@[simp] theorem z_datd {x : D} : datS (.d x) = true := rfl
@[simp] theorem z_datu : datS .un = true := rfl
end
end Mi
namespace Mi
open PySem PySem.Spec PyProof.Rows L2 Evl
variable [Tbl]
def kwOrd {α : Type} (π : List Nat) (j l : Nat) (us ws : List α) : List α := if us.length = j ∧ ws.length = l then π.filterMap fun i => (us ++ ws)[i]? else []
def sOrd (π : List Nat) (j l : Nat) (s1 s2 : Ga → Res (Ga × List D)) : Ga → Res (Ga × List D) := fun Γ => (s1 Γ).bind fun p => (s2 p.1).bind fun q => if p.2.length = j ∧ q.2.length = l then .ok (q.1, kwOrd π j l p.2 q.2) else .stuck
structure HasK (P : Program) (w : World) (K : PySem.W.Frag) (mg : Str → Option Value) (base : Heap) (x : Str) (k : Nat) (ps ks : List Str) (j : Nat) (π : List Nat) (m : Ga → Res (Ga × R)) : Prop where
  ex : ∃ f fd, FD P w K mg base k f fd ps m ∧ mg x = some (.ref f) ∧ PySem.W.keepIn K (.ref f) = true ∧
    ∀ (s : Shared) (us ws : List Value), us.length = j → ws.length = ks.length → BindsTo s fd ⟨us, ks.zip ws⟩ (ps.zip (kwOrd π j ks.length us ws))
structure JK (X : Cx) (E : XK) (kws : List Keyword) (s : Ga → Res (Ga × List D)) : Prop where
  ex : ∃ t, PK X kws t ∧ ∀ B σ Γ H0 H Q, EnvOk X.K B σ Γ H0 H → AW X B E σ Γ H0 H (s Γ) Q → t σ H Q
section
variable {X : Cx} {E : XK} {e : Expr} {es : List Expr} {kws : List Keyword} {k j : Nat} {π : List Nat} {ps ks : List Str} {x : Str} {p pos kpos : Pos} {m : Ga → Res (Ga × R)} {s r : Ga → Res (Ga × List D)} {nm : Option Str}
def callK (m : Ga → Res (Ga × R)) (n : Nat) (π : List Nat) (j l : Nat) (s r : Ga → Res (Ga × List D)) : Ga → Res (Ga × R) := callS m (List.replicate n none) (sOrd π j l s r)
@[simp] theorem z_callK {n l : Nat} {Γ : Ga} : callK m n π j l s r Γ = callS m (List.replicate n none) (sOrd π j l s r) Γ := rfl
@[simp] theorem z_kwOrd {α : Type} {l : Nat} {us ws : List α} : kwOrd π j l us ws = if us.length = j ∧ ws.length = l then π.filterMap fun i => (us ++ ws)[i]? else [] := rfl
@[simp] theorem z_sOrd {l : Nat} {Γ : Ga} : sOrd π j l s r Γ = (s Γ).bind fun p => (r p.1).bind fun q => if p.2.length = j ∧ q.2.length = l then .ok (q.1, kwOrd π j l p.2 q.2) else .stuck := rfl
end
end Mi
namespace Mi
open PySem PySem.Spec PyProof.Rows L2 Evl
section
variable {X : Cx}
variable [Tbl] {E : XK} {e a : Expr} {apos cpos : Pos}
def countG : D → D → Res R
  | .list ys, x => if (SeqAt.shaped x && SeqAt.shaped (.list ys)) = true then .ok (.d (.int (ys.countP fun z => PyData.eqv z x : Nat))) else .stuck
  | _, _ => .stuck
noncomputable def sCount (sa se : Ga → Res (Ga × D)) : Ga → Res (Ga × R) := fun Γ => (sa Γ).bind fun p => match p.2 with
  | .list ys => (se p.1).bind fun q => (countG (.list ys) q.2).bind fun z => .ok (q.1, z)
  | _ => .stuck
@[simp] theorem z_count {sa se : Ga → Res (Ga × D)} {Γ : Ga} : sCount sa se Γ = (sa Γ).bind fun p => match p.2 with
  | .list ys => (se p.1).bind fun q => (countG (.list ys) q.2).bind fun z => .ok (q.1, z)
  | _ => .stuck := rfl
end
end Mi
namespace Mi
open PySem PySem.Spec PyProof.Rows L2 Evl
variable [Tbl]
mutual
def noL : D → Bool
  | .none => true
  | .bool _ => true
  | .int _ => true
  | .str _ => true
  | .tuple xs => noLAll xs
  | _ => false
def noLAll : List D → Bool
  | [] => true
  | x :: xs => noL x && noLAll xs
end
def noLR : R → Bool
  | .d x => noL x
  | .f xs => noLAll xs
def ownL (Γ : Ga) : Prop := ∀ b xs, Sl.own b xs ∈ Γ → noLAll xs = true ∧ ∀ k t, b ≠ Ow.o k t
noncomputable def sKeep (i : Nat) (s : Ga → Res (Ga × R)) : Ga → Res (Ga × R) := fun Γ => match Γ[i]? with
  | some (.own false xs) => (s (Γ.set i (.d (.list xs)))).bind fun p => if okB (p.1 = Γ.set i (.d (.list xs)) ∧ ownL p.1 ∧ noLR p.2 = true) = true then .ok (Γ, p.2) else .stuck
  | _ => .stuck
section
variable {K : PySem.W.Frag} {H0 H : Hp} {a : Addr} {vs0 : List V}
def cutA (H0 : Hp) (a : Addr) : Hp := fun p => if p = a then none else H0 p
omit [Tbl] in
theorem cutA_ne {p : Addr} (h : p ≠ a) : cutA H0 a p = H0 p := if_neg h
omit [Tbl] in
theorem cutA_t {p : Addr} {xs : List V} (ha : H0 a = some (.lst vs0)) (h : SqT K H0 p xs) : SqT K (cutA H0 a) p xs := by
  rcases h with h | h
  · refine .inl ?_
    by_cases hp : p = a
    · subst hp
      unfold Rd at h
      rw [ha] at h
      rcases h with h | ⟨_, h⟩ <;> cases h
    · unfold Rd at h ⊢
      rw [cutA_ne hp]
      exact h
  · exact .inr h
omit [Tbl] in
mutual
theorem noL_cut (ha : H0 a = some (.lst vs0)) : ∀ (x : D) (v : V), Rp K H0 v x → noL x = true → Rp K (cutA H0 a) v x
  | .none, _, h, _ => by cases h; exact .non
  | .bool b, _, h, _ => by cases h; exact .bl b
  | .int i, _, h, _ => by cases h; exact .int i
  | .str s, _, h, _ => by cases h; exact .str s
  | .tuple ds, _, h, q => by
    cases h with
    | tup h1 h2 => exact .tup (cutA_t ha h1) (noLAll_cut ha ds _ h2 (by simpa [noL] using q))
  | .list ds, _, h, q => by simp [noL] at q
  | .dict _, _, h, q => by simp [noL] at q
theorem noLAll_cut (ha : H0 a = some (.lst vs0)) : ∀ (xs : List D) (vs : List V), RpAll K H0 vs xs → noLAll xs = true → RpAll K (cutA H0 a) vs xs
  | [], _, h, _ => by cases h; exact .nil
  | d :: ds, _, h, q => by
    cases h with
    | cons h1 h2 =>
      simp only [noLAll, Bool.and_eq_true] at q
      exact .cons (noL_cut ha d _ h1 q.1) (noLAll_cut ha ds _ h2 q.2)
end
end
section
variable {X : Cx} {E : XK} {e : Expr}
@[simp] theorem z_keep {i : Nat} {s : Ga → Res (Ga × R)} {Γ : Ga} : sKeep i s Γ = match Γ[i]? with
  | some (.own false xs) => (s (Γ.set i (.d (.list xs)))).bind fun p => if okB (p.1 = Γ.set i (.d (.list xs)) ∧ ownL p.1 ∧ noLR p.2 = true) = true then .ok (Γ, p.2) else .stuck
  | _ => .stuck := rfl
end
end Mi
namespace Mi
open PySem L2 Evl
variable [Tbl]

section
variable {X X' : Cx} {E : XK} {vs : List Nat}
end
section
variable {X : Cx} {E : XK} {tg iter tg1 iter1 elt : Expr} {pos : Pos}
end
end Mi
namespace Mi
open PySem PySem.Spec PyProof.Rows L2 Evl
variable [Tbl]
section
variable {prog : Program} {w : World} {A : Around} {E : Value → Shared → Prop} {s : Shared}
variable {z TI TO i1 i2 l1 l2 : Addr} {k : Nat} {xs ys : Array Value} {x y a b : Value}
omit [Tbl] in
theorem mix_item {Q : Value → Shared → Prop} (D : ZipApart z TI TO i1 i2 l1 l2) (hz : ZipB s.heap false z TI TO .none) (hTI : IsPair s.heap TI (.ref i1) (.ref i2)) (hTO : IsPair s.heap TO a b)
    (h1 : s.heap.IsTupleIter i1 l1 k) (h2 : s.heap.IsListIter i2 l2 k) (hl1 : s.heap.IsTuple l1 xs) (hl2 : s.heap.IsList l2 ys) (hx : xs[k]? = some x) (hy : ys[k]? = some y)
    (hQ : ∀ h', ZipB h' false z TI TO (rawInt s.heap.objs.size) → IsPair h' TO x y → h'.IsTupleIter i1 l1 (k + 1) → h'.IsListIter i2 l2 (k + 1) → IsPair h' s.heap.objs.size x y →
      (∀ c o, c ≠ z → c ≠ TO → c ≠ i1 → c ≠ i2 → s.heap.get? c = some o → h'.get? c = some o) → Q (.ref s.heap.objs.size) { s with heap := h' }) :
    wpAny (model prog w) A (Builtin.«zip.__next__» ⟨[.ref z], []⟩) (fun fin s' => ∃ v, fin = .done (.ret v) ∧ Q v s') E s := by
  refine wpAny_bind (wpAny_pure ?_)
  refine wpAny_bind (wpAny_field hz rfl (x := .bool false) rfl ?_)
  refine wpAny_bind (wpAny_field hz rfl (x := .ref TI) rfl ?_)
  refine wpAny_bind (wpAny_seqItems hTI rfl ?_)
  refine wpAny_bind (m := Builtin.SmallTypes.ownedTupleIsFree (.ref z)) ?_
  refine wpAny_bind (wpAny_field hz rfl (x := .none) rfl (wpAny_pure ?_))
  refine wpAny_bind (wpAny_rule ?_)
  refine wpAny_bind (wpAny_field hz rfl (x := .ref TO) rfl ?_)
  refine wpAny_bind (wpAny_setField_rec hz (by simp) fun g0 hz0 s0 => ?_)
  have hz0 : ZipB g0 false z TI TO .ellipsis := hz0
  have hTO0 : IsPair g0 TO a b := s0.extBut _ _ D.TOz hTO
  refine wpAny_bind ?_
  simp only [List.zipIdx_cons, List.zipIdx_nil, List.forIn_cons, List.forIn_nil]
  refine wpAny_bind (wpAny_bind (wpAny_onRaise (wpAny_bind (RZ.nextOf_tuple_item (h1.extBut s0.extBut D.i1z) (hl1.extBut s0.extBut D.l1z) hx fun g1 j1 s1 => wpAny_pure ?_))))
  have hTO1 : IsPair g1 TO a b := s1.extBut _ _ D.TOi1 hTO0
  refine wpAny_bind (wpAny_seqItems hTO1 rfl (wpAny_bind (wpAny_updateSeq_pair hTO1 fun g2 hTO2 s2 => wpAny_bind (wpAny_letGo (wpAny_pure ?_)))))
  have hTO2 : IsPair g2 TO x b := hTO2
  have t2 : ∀ c o, c ≠ z → c ≠ TO → c ≠ i1 → s.heap.get? c = some o → g2.get? c = some o := fun c o c1 c2 c3 e => s2.extBut _ _ c2 (s1.extBut _ _ c3 (s0.extBut _ _ c1 e))
  refine wpAny_bind (wpAny_bind (wpAny_onRaise (wpAny_bind (wpAny_nextOf_list_item (h2.at fun o e => t2 _ o D.i2z D.TOi2.symm D.i12.symm e) (hl2.at fun o e => t2 _ o D.l2z D.l2TO D.l2i1 e) hy fun g3 j2 s3 => wpAny_pure ?_))))
  have hTO3 : IsPair g3 TO x b := s3.extBut _ _ D.TOi2 hTO2
  refine wpAny_bind (wpAny_seqItems hTO3 rfl (wpAny_bind (wpAny_updateSeq_pair hTO3 fun g4 hTO4 s4 => wpAny_bind (wpAny_letGo (wpAny_pure (wpAny_pure ?_))))))
  have hTO4 : IsPair g4 TO x y := hTO4
  have t4 : ∀ c o, c ≠ TO → c ≠ i2 → g2.get? c = some o → g4.get? c = some o := fun c o c1 c2 e => s4.extBut _ _ c1 (s3.extBut _ _ c2 e)
  have hz4 : ZipB g4 false z TI TO .ellipsis := t4 _ _ D.TOz.symm D.i2z.symm (s2.extBut _ _ D.TOz.symm (s1.extBut _ _ D.i1z.symm hz0))
  have n4 : g4.objs.size = s.heap.objs.size := s4.1.trans (s3.1.trans (s2.1.trans (s1.1.trans s0.1)))
  have zl : z < s.heap.objs.size := Heap.lt_size hz
  refine wpAny_bind (wpAny_seqItems hTO4 rfl (wpAny_bind (wpAny_newTuple ?_)))
  refine wpAny_bind (m := Builtin.SmallTypes.ownedTupleHandOut (.ref z) (.ref g4.objs.size)) ?_
  refine wpAny_bind (wpAny_setField_rec (Heap.get?_push_of_some _ hz4) (by simp) fun g5 hz5 s5 => ?_)
  refine wpAny_setField_rec hz5 (by simp) fun g6 hz6 s6 => wpAny_pure ⟨_, rfl, ?_⟩
  have up : ∀ c o, c ≠ z → (g4.push { cls := .type "tuple", data := .seq #[x, y] }).get? c = some o → g6.get? c = some o := fun c o c1 e => s6.extBut _ _ c1 (s5.extBut _ _ c1 e)
  have hT : IsPair g6 g4.objs.size x y := up _ _ (by rw [n4]; exact Nat.ne_of_gt zl) (Heap.get?_push_size _ rfl)
  have hz6 : ZipB g6 false z TI TO (rawInt g4.objs.size) := hz6
  rw [n4] at hT hz6
  show Q (.ref g4.objs.size) _
  rw [n4]
  refine hQ g6 hz6 (up _ _ D.TOz (Heap.get?_push_of_some _ hTO4)) ?_ ?_ hT fun c o c1 c2 c3 c4 e => up _ _ c1 (Heap.get?_push_of_some _ (t4 _ _ c2 c4 (t2 _ _ c1 c2 c3 e)))
  · exact j1.at fun o e => up _ o D.i1z (Heap.get?_push_of_some _ (t4 _ _ D.TOi1.symm D.i12 (s2.extBut _ _ D.TOi1.symm e)))
  · exact j2.at fun o e => up _ o D.i2z (Heap.get?_push_of_some _ (s4.extBut _ _ D.TOi2.symm e))
omit [Tbl] in
theorem mix_end {Q : Fin → Shared → Prop} (hh : A.handled = none) (D : ZipApart z TI TO i1 i2 l1 l2) (hz : ZipB s.heap false z TI TO .none) (hTI : IsPair s.heap TI (.ref i1) (.ref i2)) (hTO : IsPair s.heap TO a b)
    (h1 : s.heap.IsTupleIter i1 l1 k) (h2 : s.heap.IsListIter i2 l2 k) (hl1 : s.heap.IsTuple l1 xs) (hl2 : s.heap.IsList l2 ys) (hend : xs[k]? = none ∨ ys[k]? = none)
    (hE : ∀ h' e, (∀ c o, c ≠ z → c ≠ TO → c ≠ i1 → c ≠ i2 → s.heap.get? c = some o → h'.get? c = some o) → (∃ o, h'.get? e = some o ∧ o.cls = .type "StopIteration") → E (.ref e) { s with heap := h' }) :
    wpAny (model prog w) A (Builtin.«zip.__next__» ⟨[.ref z], []⟩) Q E s := by
  refine wpAny_bind (wpAny_pure ?_)
  refine wpAny_bind (wpAny_field hz rfl (x := .bool false) rfl ?_)
  refine wpAny_bind (wpAny_field hz rfl (x := .ref TI) rfl ?_)
  refine wpAny_bind (wpAny_seqItems hTI rfl ?_)
  refine wpAny_bind (m := Builtin.SmallTypes.ownedTupleIsFree (.ref z)) ?_
  refine wpAny_bind (wpAny_field hz rfl (x := .none) rfl (wpAny_pure ?_))
  refine wpAny_bind (wpAny_rule ?_)
  refine wpAny_bind (wpAny_field hz rfl (x := .ref TO) rfl ?_)
  refine wpAny_bind (wpAny_setField_rec hz (by simp) fun g0 hz0 s0 => ?_)
  have hz0 : ZipB g0 false z TI TO .ellipsis := hz0
  have hTO0 : IsPair g0 TO a b := s0.extBut _ _ D.TOz hTO
  refine wpAny_bind ?_
  simp only [List.zipIdx_cons, List.zipIdx_nil, List.forIn_cons, List.forIn_nil]
  cases hx : xs[k]? with
  | none =>
    refine wpAny_bind (wpAny_bind (wpAny_onRaise (wpAny_bind (RZ.nextOf_tuple_end hh (h1.extBut s0.extBut D.i1z) (hl1.extBut s0.extBut D.l1z) hx fun g1 e s1 he => ?_))))
    obtain ⟨oe, hoe, hce⟩ := he
    have hz1 : ZipB g1 false z TI TO .ellipsis := s1 _ _ D.i1z.symm hz0
    have ez : e ≠ z := fun q => by rw [q, hz1] at hoe; cases hoe; simp at hce
    exact wpAny_setField_rec hz1 (by simp) fun g2 _ s2 => hE g2 e (fun c o c1 _ c3 _ q => s2.extBut _ _ c1 (s1 _ _ c3 (s0.extBut _ _ c1 q))) ⟨oe, s2.extBut _ _ ez hoe, hce⟩
  | some x =>
    have hy : ys[k]? = none := hend.resolve_left fun q => by rw [hx] at q; cases q
    refine wpAny_bind (wpAny_bind (wpAny_onRaise (wpAny_bind (RZ.nextOf_tuple_item (h1.extBut s0.extBut D.i1z) (hl1.extBut s0.extBut D.l1z) hx fun g1 j1 s1 => wpAny_pure ?_))))
    have hTO1 : IsPair g1 TO a b := s1.extBut _ _ D.TOi1 hTO0
    refine wpAny_bind (wpAny_seqItems hTO1 rfl (wpAny_bind (wpAny_updateSeq_pair hTO1 fun g2 hTO2 s2 => wpAny_bind (wpAny_letGo (wpAny_pure ?_)))))
    have t2 : ∀ c o, c ≠ z → c ≠ TO → c ≠ i1 → s.heap.get? c = some o → g2.get? c = some o := fun c o c1 c2 c3 e => s2.extBut _ _ c2 (s1.extBut _ _ c3 (s0.extBut _ _ c1 e))
    refine wpAny_bind (wpAny_bind (wpAny_onRaise (wpAny_bind (wpAny_nextOf_list_end hh (h2.at fun o e => t2 _ o D.i2z D.TOi2.symm D.i12.symm e) (hl2.at fun o e => t2 _ o D.l2z D.l2TO D.l2i1 e) hy fun g3 e s3 he => ?_))))
    obtain ⟨oe, hoe, hce⟩ := he
    have hz3 : ZipB g3 false z TI TO .ellipsis := s3 _ _ D.i2z.symm (s2.extBut _ _ D.TOz.symm (s1.extBut _ _ D.i1z.symm hz0))
    have ez : e ≠ z := fun q => by rw [q, hz3] at hoe; cases hoe; simp at hce
    exact wpAny_setField_rec hz3 (by simp) fun g4 _ s4 => hE g4 e (fun c o c1 c2 c3 c4 q => s4.extBut _ _ c1 (s3 _ _ c4 (t2 _ _ c1 c2 c3 q))) ⟨oe, s4.extBut _ _ ez hoe, hce⟩
omit [Tbl] in
theorem mix_next_item {Q : Option Value → Shared → Prop} (D : ZipApart z TI TO i1 i2 l1 l2) (hz : ZipB s.heap false z TI TO .none) (hTI : IsPair s.heap TI (.ref i1) (.ref i2)) (hTO : IsPair s.heap TO a b)
    (h1 : s.heap.IsTupleIter i1 l1 k) (h2 : s.heap.IsListIter i2 l2 k) (hl1 : s.heap.IsTuple l1 xs) (hl2 : s.heap.IsList l2 ys) (hx : xs[k]? = some x) (hy : ys[k]? = some y)
    (hQ : ∀ h', ZipB h' false z TI TO (rawInt s.heap.objs.size) → IsPair h' TO x y → h'.IsTupleIter i1 l1 (k + 1) → h'.IsListIter i2 l2 (k + 1) → IsPair h' s.heap.objs.size x y →
      (∀ c o, c ≠ z → c ≠ TO → c ≠ i1 → c ≠ i2 → s.heap.get? c = some o → h'.get? c = some o) → Q (some (.ref s.heap.objs.size)) { s with heap := h' }) :
    wpAny (model prog w) A (pyNext (.ref z)) Q E s := by
  have hT : s.TypeIs (.ref z) "zip" := ⟨_, hz, rfl⟩
  unfold pyNext
  exact wpAny_bind (wpAny_attempt (wpAny_callSpecial?_slot (name := Str.ofString "__next__") hT F.slot_zip_next (wpAny_call_entry F.slot_zip_next hT F.entry_zip_next
    (mix_item D hz hTI hTO h1 h2 hl1 hl2 hx hy fun h' a1 a2 a3 a4 a5 a6 => wpAny_pure (hQ h' a1 a2 a3 a4 a5 a6)) (F.args_zip_next_1 _))))
omit [Tbl] in
theorem mix_next_end {Q : Option Value → Shared → Prop} (hh : A.handled = none) (D : ZipApart z TI TO i1 i2 l1 l2) (hz : ZipB s.heap false z TI TO .none) (hTI : IsPair s.heap TI (.ref i1) (.ref i2)) (hTO : IsPair s.heap TO a b)
    (h1 : s.heap.IsTupleIter i1 l1 k) (h2 : s.heap.IsListIter i2 l2 k) (hl1 : s.heap.IsTuple l1 xs) (hl2 : s.heap.IsList l2 ys) (hend : xs[k]? = none ∨ ys[k]? = none)
    (hQ : ∀ h', (∀ c o, c ≠ z → c ≠ TO → c ≠ i1 → c ≠ i2 → s.heap.get? c = some o → h'.get? c = some o) → Q none { s with heap := h' }) :
    wpAny (model prog w) A (pyNext (.ref z)) Q E s := by
  have hT : s.TypeIs (.ref z) "zip" := ⟨_, hz, rfl⟩
  unfold pyNext
  refine wpAny_bind (wpAny_attempt (wpAny_callSpecial?_slot (name := Str.ofString "__next__") hT F.slot_zip_next (wpAny_call_entry F.slot_zip_next hT F.entry_zip_next
    (mix_end hh D hz hTI hTO h1 h2 hl1 hl2 hend fun h' e hk he => ?_) (F.args_zip_next_1 _))))
  obtain ⟨o, ho, hc⟩ := he
  exact wpAny_bind (wpAny_isInstance (T := "StopIteration") (b := true) ⟨o, ho, hc⟩ isSubtype_stop (wpAny_pure (hQ _ hk)))
end
def Itzm (K : PySem.W.Frag) (a b : Addr) : It :=
  ⟨fun i H => ∃ (xs ys : List V) (x y : V), SqT K H a xs ∧ SqL K H b ys ∧ xs[i]? = some x ∧ ys[i]? = some y,
    fun i H v H' => ∃ T x y, v = .ref T ∧ H T = none ∧ H' = upd H T (.tup [x, y]) ∧ (∀ xs, SqT K H a xs → xs[i]? = some x) ∧ ∀ ys, SqL K H b ys → ys[i]? = some y,
    fun i H => ∃ xs ys : List V, SqT K H a xs ∧ SqL K H b ys ∧ (xs.length ≤ i ∨ ys.length ≤ i)⟩
omit [Tbl] in
theorem turn_zipM {P : Program} {w : World} {K : PySem.W.Frag} {elts : List Expr} {kk : Nat} {tpos : Pos} {a b z TI TO i1 i2 : Addr} (D : ZipApart z TI TO i1 i2 a b) :
    Turn P w K (.Tuple elts kk tpos) (Itzm K a b) [z, TI, TO, i1, i2] z (fun i h => ZipB h false z TI TO .none ∧ IsPair h TI (.ref i1) (.ref i2) ∧ (∃ x y, IsPair h TO x y) ∧ h.IsTupleIter i1 a i ∧ h.IsListIter i2 b i) where
  mem := by simp
  obj := fun i h st c hc => by
    obtain ⟨hz, hTI, ⟨x, y, hTO⟩, ⟨o1, e1, _, d1⟩, ⟨o2, e2, _, d2⟩⟩ := st
    simp only [List.mem_cons, List.not_mem_nil, or_false] at hc
    rcases hc with rfl | rfl | rfl | rfl | rfl
    · exact ⟨_, hz, nofun⟩
    · exact ⟨_, hTI, nofun⟩
    · exact ⟨_, hTO, nofun⟩
    · exact ⟨o1, e1, fun v q => by rw [d1] at q; cases q⟩
    · exact ⟨o2, e2, fun v q => by rw [d2] at q; cases q⟩
  keep := fun i h h' ⟨hz, hTI, ⟨x, y, hTO⟩, h1, h2⟩ k =>
    ⟨k z (by simp) _ hz, k TI (by simp) _ hTI, ⟨x, y, k TO (by simp) _ hTO⟩, h1.at fun o q => k i1 (by simp) o q, h2.at fun o q => k i2 (by simp) o q⟩
  item := by
    rintro X rfl rfl rfl hc i pins s σ H E I hf ⟨hz, hTI, ⟨x0, y0, hTO⟩, h1, h2⟩ ⟨xs, ys, x, y, qx, qy, hx, hy⟩
    obtain ⟨its, rv, p, _⟩ := I.tuple qx
    obtain ⟨its2, rv2, p2, _⟩ := I.list qy
    obtain ⟨u, hu, ru⟩ := rv.get hx
    obtain ⟨u2, hu2, ru2⟩ := rv2.get hy
    have out : ∀ {c : Addr}, c ∉ [z, TI, TO, i1, i2] → c ≠ z ∧ c ≠ TO ∧ c ≠ i1 ∧ c ≠ i2 := fun hb => ⟨fun q => hb (by simp [q]), fun q => hb (by simp [q]), fun q => hb (by simp [q]), fun q => hb (by simp [q])⟩
    have zl : z < s.heap.objs.size := Heap.lt_size hz
    refine mix_next_item D hz hTI hTO h1 h2 p p2.isList (x := u) (y := u2) (by simpa using hu) (by simpa using hu2) fun g1 z1 o1 j1 j2 hT k1 => ⟨_, rfl, letGo_zipB (s := { s with heap := g1 }) z1 fun g2 z2 sb => ?_⟩
    have ob : ObjOk X.prog X.w (upd H s.heap.objs.size (.tup [x, y])) g2 s.heap.objs.size (.tup [x, y]) :=
      ⟨by show 2 ≤ sizeLine; decide, [u, u2], .cons ru (.cons ru2 .nil), ⟨_, (sb.2 _ (Nat.ne_of_gt zl)).trans hT, rfl, _, rfl⟩⟩
    have I1 : Inv X pins σ (upd H s.heap.objs.size (.tup [x, y])) { s with heap := g2 } :=
      I.turnedNew (t' := s.toks) (ch := [z, TI, TO, i1, i2]) (fun c o hb q => (sb.2 c (out hb).1).trans (k1 c o (out hb).1 (out hb).2.1 (out hb).2.2.1 (out hb).2.2.2 q)) hf (Nat.le_refl _) ob
    refine ⟨.ref s.heap.objs.size, _, I1, rfl, ⟨_, x, y, rfl, I.hok.fresh (Nat.le_refl _), rfl, fun l hl => by rw [I.tuple_inj hl qx]; exact hx, fun l hl => by rw [I.list_inj hl qy]; exact hy⟩,
      ⟨z2, (sb.2 _ D.TIz).trans (k1 _ _ D.TIz D.TITO D.TIi1 D.TIi2 hTI), ⟨u, u2, (sb.2 _ D.TOz).trans o1⟩, j1.at fun o q => (sb.2 _ D.i1z).trans q, j2.at fun o q => (sb.2 _ D.i2z).trans q⟩, fun c hcm => ?_⟩
    have lt : c < s.heap.objs.size := by
      obtain ⟨_, e1, _⟩ := h1
      obtain ⟨_, e2, _⟩ := h2
      have hcm' := hcm
      simp only [List.mem_cons, List.not_mem_nil, or_false] at hcm'
      rcases hcm' with rfl | rfl | rfl | rfl | rfl
      · exact zl
      · exact Heap.lt_size hTI
      · exact Heap.lt_size hTO
      · exact Heap.lt_size e1
      · exact Heap.lt_size e2
    rw [upd_ne (Nat.ne_of_lt lt)]
    exact (hf c hcm).1
  done := by
    rintro X rfl rfl rfl hc i pins s σ H E I hf ⟨hz, hTI, ⟨x0, y0, hTO⟩, h1, h2⟩ ⟨xs, ys, qx, qy, he⟩
    obtain ⟨its, rv, p, _⟩ := I.tuple qx
    obtain ⟨its2, rv2, p2, _⟩ := I.list qy
    have l1 := rv.length
    have l2 := rv2.length
    have he2 : its.toArray[i]? = none ∨ its2.toArray[i]? = none := he.imp (fun q => by simp; omega) fun q => by simp; omega
    have out : ∀ {c : Addr}, c ∉ [z, TI, TO, i1, i2] → c ≠ z ∧ c ≠ TO ∧ c ≠ i1 ∧ c ≠ i2 := fun hb => ⟨fun q => hb (by simp [q]), fun q => hb (by simp [q]), fun q => hb (by simp [q]), fun q => hb (by simp [q])⟩
    exact mix_next_end (I.ok.hd hc) D hz hTI hTO h1 h2 p p2.isList he2 fun h' hk => ⟨rfl, I.turnedL (t' := s.toks) (ch := [z, TI, TO, i1, i2]) (fun c o hb q => hk c o (out hb).1 (out hb).2.1 (out hb).2.2.1 (out hb).2.2.2 q) hf⟩
  self := fun A i s Q E st h => iter_zipB st.1 h
theorem itok_zipM {K : PySem.W.Frag} {p q : Addr} {vs us : List V} {xs ys : List D} {H0 : Hp} (h : SqT K H0 p vs) (r : RpAll K H0 vs xs) (h' : H0 q = some (.lst us)) (r' : RpAll K H0 us ys) : ItOk K (Itzm K p q) (pairUp xs ys) H0 where
  stop := fun i H0i Hi e1 e2 hi => ⟨vs, us, ex_t e2 (ex_t e1 h), SqL.of (e2 _ _ (e1 _ _ h')), by rw [r.len, r'.len]; rw [pair_len] at hi; omega⟩
  go := fun i H0i Hi e1 e2 hi => by
    rw [pair_len] at hi
    exact ⟨vs, us, vs[i]'(by rw [r.len]; omega), us[i]'(by rw [r'.len]; omega), ex_t e2 (ex_t e1 h), SqL.of (e2 _ _ (e1 _ _ h')), List.getElem?_eq_getElem _, List.getElem?_eq_getElem _⟩
  yld := fun i x H0i Hi v H' e1 e2 hx y => by
    obtain ⟨T, w, w', rfl, hT, rfl, hv, hv'⟩ := y
    have e := hv vs (ex_t e2 (ex_t e1 h))
    have e' := hv' us (SqL.of (e2 _ _ (e1 _ _ h')))
    obtain ⟨z, z', hz, hz', rfl⟩ := pair_get hx
    obtain ⟨_, q1, r1⟩ := r.get hz
    obtain ⟨_, q2, r2⟩ := r'.get hz'
    rw [e] at q1; cases q1
    rw [e'] at q2; cases q2
    exact new_tup hT e2 (.cons (r1.m e1) (.one (r2.m e1)))
def zipML : List D → Res (List D)
  | [.tuple xs, .list ys] => .ok (pairUp xs ys)
  | _ => .stuck
section
variable {X : Cx} {E : XK} {e e2 ek : Expr} {p pos tpos kpos : Pos} {elts : List Expr} {kk : Nat}
def iZipM (K : PySem.W.Frag) (ta : TA) : TI := fun σ H R => ta σ H fun vs H1 => ∃ a b xs ys, vs = [.ref a, .ref b] ∧ SqT K H1 a xs ∧ SqL K H1 b ys ∧ R (Itzm K a b) H1
theorem pi_zipM {ta : TA} (hg : Gl X "zip") (hm : X.mg "zip" = none) (ha : PA X [e, e2] ta) (hek : ∀ s Q, Q (.bool false) s → wpAny (model X.prog X.w) X.A (eval ek X.env) Q X.xe s)
    (hs : backTo pos (starEach [e, e2] X.env) = (false, eval e X.env) :: backTo pos (starEach [e2] X.env) := by rfl) (hpl : (backTo pos (starEach [e, e2] X.env)).any (·.1) = false := by rfl) :
    PI X (.Tuple elts kk tpos) (.Call (.Name "zip" p) [e, e2] [⟨some "strict", ek, kpos⟩] pos) (iZipM X.K ta) := by
  refine ⟨fun pins s σ H R I h => ?_⟩
  refine wpAny_Call_Name_kw (ld_blt I hg hm PyProof.Rows.boot_zip (callWith_kwT hpl rfl ?_))
  rw [hs]
  refine args_kwT rfl ?_
  rw [← hs]
  refine thn (ha.run pos pins s σ H _ I h) fun us s1 ⟨vs, H1, I1, r1, q1⟩ => ?_
  refine wpAny_evalAll_cons (wpAny_bind (hek _ _ (wpAny_bind (wpAny_standAt (wpAny_pure (wpAny_evalAll_nil ?_))))))
  obtain ⟨a, b, xs, ys, ex, qx, qy, q⟩ := q1
  subst ex
  cases r1 with
  | cons r rr =>
    cases rr with
    | cons r' rr =>
      cases rr
      cases r
      cases r'
      have fr : ∀ c, c ∈ [s1.heap.objs.size + 4, s1.heap.objs.size + 2, s1.heap.objs.size + 3, s1.heap.objs.size, s1.heap.objs.size + 1] → FpOk X pins H1 c := fun c hc => by
        have le : s1.heap.objs.size ≤ c := by
          simp only [List.mem_cons, List.not_mem_nil, or_false] at hc
          rcases hc with rfl | rfl | rfl | rfl | rfl <;> omega
        exact I1.fpOk le (I1.hok.fresh le)
      obtain ⟨its, rv, p1, _⟩ := I1.tuple qx
      obtain ⟨its2, rv2, p2, _⟩ := I1.list qy
      obtain ⟨w1, hw1, _⟩ := id p1
      refine call_zipB (begins_tuple a its.toArray) (begins_list b _) p1 p2.isList fun h' hz hTI hTO h1 h2 hk => iter_zipB hz ?_
      exact ⟨_, [s1.heap.objs.size + 4, s1.heap.objs.size + 2, s1.heap.objs.size + 3, s1.heap.objs.size, s1.heap.objs.size + 1], _, _, H1, rfl, I1.kept (t' := s1.toks) hk, turn_zipM (PySem.W.ktu_apart s1.heap.objs.size a b (Heap.lt_size hw1) p2.lt), ⟨hz, hTI, ⟨_, _, hTO⟩, ⟨_, h1, rfl, rfl⟩, ⟨_, h2, rfl, rfl⟩⟩, fr, q⟩
theorem ji_zipM {s : Ga → Res (Ga × List D)} (hg : Gl X "zip") (hm : X.mg "zip" = none) (h : JA X E [e, e2] s) (hek : ∀ s Q, Q (.bool false) s → wpAny (model X.prog X.w) X.A (eval ek X.env) Q X.xe s)
    (hs : backTo pos (starEach [e, e2] X.env) = (false, eval e X.env) :: backTo pos (starEach [e2] X.env) := by rfl) (hpl : (backTo pos (starEach [e, e2] X.env)).any (·.1) = false := by rfl) :
    JI X E (.Tuple elts kk tpos) (.Call (.Name "zip" p) [e, e2] [⟨some "strict", ek, kpos⟩] pos) (sItA zipML s) := by
  obtain ⟨t, pp, ha⟩ := h.ex
  refine ⟨_, pi_zipM hg hm pp hek hs hpl, fun B σ Γ H0 H R ok w => ?_⟩
  have w : IW X B E σ Γ H0 H (sItA zipML s Γ) R := w
  show t σ H fun vs H1 => _
  refine a_then ha wok_I ok w fun Γ1 x v H01 H1 w1 ok1 g1 l1 r1 => ?_
  unfold zipML at w1
  split at w1
  · rename_i xs ys hx
    have hx : x = [.tuple xs, .list ys] := hx
    subst hx
    cases r1 with
    | cons r1 r2 =>
      cases r2 with
      | cons r2 r3 =>
        cases r3
        cases r1 with
        | tup h1 h2 =>
          cases r2 with
          | lst h3 h4 => exact ⟨_, _, _, _, rfl, ex_t ok1.sub h1, SqL.of (ok1.sub _ _ h3), w1 _ H01 H1 ok1 (Grow.refl _ _ _) (Less.refl _) (itok_zipM h1 h2 h3 h4)⟩
  · exact w1.elim
end
end Mi
namespace Mi
open PySem PySem.Spec PyProof.Rows L2 Evl
variable [Tbl]

theorem EnvOk.view {K : PySem.W.Frag} {B : Bg} {σ : L2.St} {Γ Γ' : Ga} {H0 H0' H : Hp} (ok : EnvOk K B σ Γ H0 H) (sub : Ex H0' H) (len : Γ'.length = Γ.length) (old : ∀ p, B.He p ≠ none → H0' p = H0 p) (ex : Ex B.He0 H0') (nt : NoT H0') (pm : Ex Tbl.M H0') (cl : ∀ i : Nat, Γ'[i]? = some .cl → Γ[i]? = some .cl)
    (dat : ∀ (i : Nat) x, Γ'[i]? = some (.d x) → ∃ v, σ[i]? = some (some v) ∧ Rp K H0' v x) (scr : ∀ (i : Nat) ns, Γ'[i]? ≠ some (.scr ns))
    (own : ∀ (i : Nat) b xs, Γ'[i]? = some (.own b xs) → Γ[i]? = some (.own b xs) ∧ ∀ a vs, σ[i]? = some (some (.ref a)) → OwnR K H0 a b xs vs → H0' a = none ∧ OwnR K H0' a b xs vs) : EnvOk K B σ Γ' H0' H where
  sub := sub
  len := len.trans ok.len
  dat := dat
  scr := fun i ns h => absurd h (scr i ns)
  own := fun i b xs h => by
    obtain ⟨h1, h2⟩ := own i b xs h
    obtain ⟨a, vs, e1, e2, e3, e4, e5⟩ := ok.own i b xs h1
    obtain ⟨n, r⟩ := h2 a vs e1 e4
    exact ⟨a, vs, e1, n, e3, r, e5⟩
  apart := fun i j b c xs ys a hij h1 h2 => ok.apart i j b c xs ys a hij (own i b xs h1).1 (own j c ys h2).1
  grow := ⟨ex, ok.grow.keep, fun p e n => (old p e).trans (ok.grow.old p e n), ok.grow.live, ok.grow.tab, fun _ => nt⟩
  tabs := ok.tabs
  past := ⟨pm, nt⟩
  cl := fun i h => ok.cl i (cl i h)

section
variable {X : Cx} {E : XK} {elt tg iter : Expr} {pos : Pos}
end
end Mi
namespace Mi
open PySem PySem.Spec PyProof.Rows L2 Evl
variable [Tbl]

def rowsD (rows : List (List Int)) : List D := rows.map fun r => .list (r.map .int)
theorem rpInts {K : PySem.W.Frag} {H : Hp} : ∀ ns : List Int, RpAll K H (ns.map V.int) (ns.map .int)
  | [] => .nil
  | n :: r => .cons (.int n) (rpInts r)
theorem ofInts {K : PySem.W.Frag} {H : Hp} : ∀ {ns : List Int} {vs : List V}, RpAll K H vs (ns.map .int) → vs = ns.map V.int
  | [], _, .nil => rfl
  | n :: r, _, .cons h t => by cases h; rw [ofInts t]; rfl
structure Cu (K : PySem.W.Frag) (B : Bg) (σ : L2.St) (Γ : Ga) (H0 H : Hp) (W : Addr) (ps : List Addr) (rows : List (List Int)) : Prop where
  ok : EnvOk K B σ Γ H0 H
  g2 : Γ[2]? = some .un
  flat : ∀ (i : Nat) x, Γ[i]? = some (.d x) → ∃ n, x = .int n
  flatO : ∀ (i : Nat) b xs, Γ[i]? = some (.own b xs) → ∃ (k : Bool) (ns : List Int), b = Ow.b k ∧ xs = ns.map .int
  noscr : ∀ (i : Nat) ns, Γ[i]? ≠ some (.scr ns)
  s2 : σ[2]? = some (some (.ref W))
  hW : H W = some (.lst (ps.map V.ref))
  nd : (W :: ps).Nodup
  len : ps.length = rows.length
  row : ∀ (j : Nat) p r, ps[j]? = some p → rows[j]? = some r → H p = some (.lst (r.map V.int))
  no0 : ∀ p, p ∈ W :: ps → H0 p = none ∧ B.He p = none ∧ B.He0 p = none ∧ ¬ OwnOf σ Γ p
section
variable {K : PySem.W.Frag} {B : Bg} {σ : L2.St} {Γ : Ga} {H0 H : Hp} {W : Addr} {ps : List Addr} {rows : List (List Int)}
theorem Cu.at_ (c : Cu K B σ Γ H0 H W ps rows) {p : Addr} (hp : p ∈ ps) : ∃ (j : Nat) (r : List Int), ps[j]? = some p ∧ rows[j]? = some r ∧ H p = some (.lst (r.map V.int)) := by
  obtain ⟨j, hj, rfl⟩ := List.getElem_of_mem hp
  have hr : j < rows.length := by rw [← c.len]; exact hj
  exact ⟨j, rows[j], List.getElem?_eq_getElem hj, List.getElem?_eq_getElem hr, c.row j _ _ (List.getElem?_eq_getElem hj) (List.getElem?_eq_getElem hr)⟩
theorem Cu.live (c : Cu K B σ Γ H0 H W ps rows) {p : Addr} (hp : p ∈ W :: ps) : H p ≠ none := by
  rcases List.mem_cons.mp hp with rfl | h
  · rw [c.hW]; simp
  · obtain ⟨_, _, _, _, e⟩ := c.at_ h; rw [e]; simp
open Classical in
noncomputable def plus (H0 H : Hp) (ps : List Addr) : Hp := fun p => if p ∈ ps then H p else H0 p
open Classical in
noncomputable def minus (H0 : Hp) (ps : List Addr) : Hp := fun p => if p ∈ ps then none else H0 p
theorem plus_in {ps : List Addr} {p : Addr} (h : p ∈ ps) : plus H0 H ps p = H p := if_pos h
theorem plus_out {ps : List Addr} {p : Addr} (h : p ∉ ps) : plus H0 H ps p = H0 p := if_neg h
theorem minus_in {ps : List Addr} {p : Addr} (h : p ∈ ps) : minus H0 ps p = none := if_pos h
theorem minus_out {ps : List Addr} {p : Addr} (h : p ∉ ps) : minus H0 ps p = H0 p := if_neg h
theorem plus_sub {ps : List Addr} (s : Ex H0 H) : Ex (plus H0 H ps) H := fun p o e => by
  by_cases h : p ∈ ps
  · rwa [plus_in h] at e
  · rw [plus_out h] at e; exact s _ _ e
theorem plus_ex {ps : List Addr} (s : Ex H0 H) : Ex H0 (plus H0 H ps) := fun p o e => by
  by_cases h : p ∈ ps
  · rw [plus_in h]; exact s _ _ e
  · rw [plus_out h]; exact e
theorem Cu.rows_rp (c : Cu K B σ Γ H0 H W ps rows) {G : Hp} (hG : ∀ p ∈ ps, G p = H p) : RpAll K G (ps.map V.ref) (rowsD rows) := by
  have go : ∀ (qs : List Addr) (rs : List (List Int)), qs.length = rs.length → (∀ (j : Nat) p r, qs[j]? = some p → rs[j]? = some r → G p = some (.lst (r.map V.int))) → RpAll K G (qs.map V.ref) (rowsD rs) := by
    intro qs
    induction qs with
    | nil => intro rs hl _; cases rs with
      | nil => exact .nil
      | cons _ _ => cases hl
    | cons q qs ih => intro rs hl h; cases rs with
      | nil => cases hl
      | cons r rs => exact .cons (.lst (h 0 q r rfl rfl) (rpInts r)) (ih rs (by simpa using hl) fun j p r' h1 h2 => h (j + 1) p r' (by simpa using h1) (by simpa using h2))
  exact go ps rows c.len fun j p r h1 h2 => by rw [hG p (List.mem_of_getElem? h1)]; exact c.row j p r h1 h2
theorem Cu.view (c : Cu K B σ Γ H0 H W ps rows) : EnvOk K B σ (Γ.set 2 (.d (.list (rowsD rows)))) (plus H0 H (W :: ps)) H := by
  have ex := plus_ex (ps := W :: ps) c.ok.sub
  refine c.ok.view (plus_sub c.ok.sub) (by simp) (fun p hp => plus_out fun h => hp (c.no0 p h).2.1) (c.ok.grow.ex0.trans ex) (fun p qs e => ?_) (c.ok.past.ex.trans ex) (fun i h => cl_of_set (by nofun) i h) (fun i x h => ?_) (fun i ns h => ?_) fun i b xs h => ?_
  · by_cases hp : p ∈ W :: ps
    · rw [plus_in hp] at e
      rcases List.mem_cons.mp hp with rfl | h
      · rw [c.hW] at e; cases e
      · obtain ⟨_, _, _, _, e2⟩ := c.at_ h
        rw [e2] at e; cases e
    · rw [plus_out hp] at e
      exact c.ok.past.nt p qs e
  · rcases set_back h with ⟨rfl, e, _⟩ | ⟨_, h⟩
    · cases e
      refine ⟨_, c.s2, .lst (xs := ps.map V.ref) ?_ (c.rows_rp fun p hp => plus_in (List.mem_cons_of_mem _ hp))⟩
      rw [plus_in List.mem_cons_self]; exact c.hW
    · obtain ⟨v, e, r⟩ := c.ok.dat i x h
      exact ⟨v, e, r.m ex⟩
  · rcases set_back h with ⟨_, e, _⟩ | ⟨_, h⟩
    · cases e
    · exact c.noscr i ns h
  · rcases set_back h with ⟨_, e, _⟩ | ⟨_, h⟩
    · cases e
    · refine ⟨h, fun a vs e r => ⟨?_, r.m ex⟩⟩
      rw [plus_out fun z => (c.no0 a z).2.2.2 ⟨i, b, xs, h, e⟩]
      obtain ⟨a', _, e1, n, _⟩ := c.ok.own i b xs h
      rw [e] at e1; cases e1; exact n
theorem Cu.back (c : Cu K B σ Γ H0 H W ps rows) {Γ1 : Ga} {H01 H1 : Hp} {σ1 : L2.St} (ok : EnvOk K B σ1 Γ1 H01 H1) (ex : Ex (plus H0 H (W :: ps)) H01) (s2 : σ1[2]? = some (some (.ref W))) (hl : 2 < Γ1.length)
    (flat : ∀ (i : Nat) x, i ≠ 2 → Γ1[i]? = some (.d x) → ∃ n, x = .int n) (flatO : ∀ (i : Nat) b xs, Γ1[i]? = some (.own b xs) → ∃ (k : Bool) (ns : List Int), b = Ow.b k ∧ xs = ns.map .int) (noscr : ∀ (i : Nat) ns, Γ1[i]? ≠ some (.scr ns)) :
    Cu K B σ1 (Γ1.set 2 .un) (minus H01 (W :: ps)) H1 W ps rows := by
  have at1 : ∀ {p o}, p ∈ W :: ps → H p = some o → H01 p = some o := fun {p o} hp e => ex _ _ (by rw [plus_in hp]; exact e)
  have no : ∀ {p}, p ∈ W :: ps → ¬ OwnOf σ1 Γ1 p := fun {p} hp z => by
    have n := (ok.ownLive z).2
    cases q : H p with
    | none => exact c.live hp q
    | some o => rw [at1 hp q] at n; cases n
  have sub : Ex (minus H01 (W :: ps)) H1 := fun p o e => by
    by_cases h : p ∈ W :: ps
    · rw [minus_in h] at e; cases e
    · rw [minus_out h] at e; exact ok.sub _ _ e
  have set_un : ∀ {i : Nat} {s : Sl}, (Γ1.set 2 Sl.un)[i]? = some s → s ≠ .un → Γ1[i]? = some s ∧ i ≠ 2 := fun {i s} h n => by
    rcases set_back h with ⟨_, e, _⟩ | ⟨z, h⟩
    · exact absurd e n
    · exact ⟨h, z⟩
  refine ⟨ok.view sub (by simp) (fun p hp => minus_out fun h => hp (c.no0 p h).2.1) (fun p o e => ?_) (fun p qs e => ?_) (fun p o e => ?_) (fun i h => cl_of_set (by nofun) i h) (fun i x h => ?_) (fun i ns h => noscr i ns (set_un h (nofun)).1) (fun i b xs h => ?_), ?_, fun i x h => ?_, fun i b xs h => flatO i b xs (set_un h (nofun)).1, fun i ns h => noscr i ns (set_un h (nofun)).1, s2, ok.sub _ _ (at1 List.mem_cons_self c.hW), c.nd, c.len,
    fun j p r h1 h2 => ok.sub _ _ (at1 (List.mem_cons_of_mem _ (List.mem_of_getElem? h1)) (c.row j p r h1 h2)), fun p hp => ⟨minus_in hp, (c.no0 p hp).2.1, (c.no0 p hp).2.2.1, fun ⟨i, b, xs, h, e⟩ => no hp ⟨i, b, xs, (set_un h (nofun)).1, e⟩⟩⟩
  · rw [minus_out fun h => by rw [(c.no0 p h).2.2.1] at e; cases e]
    exact ok.grow.ex0 _ _ e
  · by_cases hp : p ∈ W :: ps
    · rw [minus_in hp] at e; cases e
    · rw [minus_out hp] at e; exact ok.past.nt p qs e
  · rw [minus_out fun hp => by have := c.ok.past.ex p o e; rw [(c.no0 p hp).1] at this; cases this]
    exact ok.past.ex p o e
  · obtain ⟨h, n⟩ := set_un h (nofun)
    obtain ⟨k, rfl⟩ := flat i x n h
    obtain ⟨v, e, r⟩ := ok.dat i _ h
    cases r
    exact ⟨_, e, .int k⟩
  · obtain ⟨h, n⟩ := set_un h (nofun)
    refine ⟨h, fun a vs e r => ⟨?_, ?_⟩⟩
    · obtain ⟨a', _, e1, n0, _⟩ := ok.own i b xs h
      rw [e] at e1; cases e1
      by_cases z : a ∈ W :: ps
      · exact minus_in z
      · rw [minus_out z]; exact n0
    · obtain ⟨k, ns, rfl, rfl⟩ := flatO i b xs h
      obtain ⟨us, e1, e2⟩ := r
      rw [ofInts e2] at e1
      exact ⟨_, e1, rpInts ns⟩
  · rw [List.getElem?_set_self hl]
  · obtain ⟨h, n⟩ := set_un h (nofun)
    exact flat i x n h
theorem Cu.put (c : Cu K B σ Γ H0 H W ps rows) {j : Nat} {p : Addr} {r : List Int} (hp : ps[j]? = some p) : Cu K B σ Γ H0 (upd H p (.lst (r.map V.int))) W ps (rows.set j r) := by
  have mp : p ∈ ps := List.mem_of_getElem? hp
  obtain ⟨n0, n1, n2, n3⟩ := c.no0 p (List.mem_cons_of_mem _ mp)
  have hWp : W ≠ p := fun z => (List.nodup_cons.mp c.nd).1 (z ▸ mp)
  refine ⟨c.ok.poke n0 n3 n1 (.inl (let ⟨_, _, _, _, e⟩ := c.at_ mp; ⟨_, e⟩)), c.g2, c.flat, c.flatO, c.noscr, c.s2, by rw [upd_ne hWp]; exact c.hW, c.nd, by simp [c.len], fun k q s h1 h2 => ?_, c.no0⟩
  by_cases e : k = j
  · subst e
    rw [hp] at h1; cases h1
    have hk : k < rows.length := by rw [← c.len]; exact (List.getElem?_eq_some_iff.mp hp).1
    rw [List.getElem?_set_self hk] at h2; cases h2
    exact upd_same
  · rw [List.getElem?_set_ne (Ne.symm e)] at h2
    have hq : q ≠ p := fun z => by
      subst z
      have hn := (List.nodup_cons.mp c.nd).2
      obtain ⟨a1, b1⟩ := List.getElem?_eq_some_iff.mp h1
      obtain ⟨a2, b2⟩ := List.getElem?_eq_some_iff.mp hp
      exact e ((List.getElem_inj hn).mp (b1.trans b2.symm))
    rw [upd_ne hq]
    exact c.row k q s h1 h2
end
end Mi
namespace Mi
open PySem PySem.Spec PyProof.Rows L2 Evl
variable [Tbl]
section
variable {K : PySem.W.Frag} {B : Bg} {σ : L2.St} {Γ : Ga} {H0 H H01 H1 : Hp} {W : Addr} {ps : List Addr} {rows : List (List Int)}
theorem Cu.grow (c : Cu K B σ Γ H0 H W ps rows) (ok : EnvOk K B σ Γ H01 H1) (g : Grow (OwnOf σ Γ) H0 H H01 H1) : Cu K B σ Γ H01 H1 W ps rows :=
  ⟨ok, c.g2, c.flat, c.flatO, c.noscr, c.s2, g.keep _ _ c.hW (c.no0 W List.mem_cons_self).2.2.2 nofun, c.nd, c.len, fun j p r h1 h2 => g.keep _ _ (c.row j p r h1 h2) (c.no0 p (List.mem_cons_of_mem _ (List.mem_of_getElem? h1))).2.2.2 nofun,
    fun p hp => ⟨(g.old p (c.live hp) (c.no0 p hp).2.2.2).trans (c.no0 p hp).1, (c.no0 p hp).2⟩⟩
theorem Cu.drop (c : Cu K B σ Γ H0 H W ps rows) {i : Nat} (hi : i ≠ 2) : Cu K B σ (Γ.set i .un) H0 H W ps rows := by
  have bk : ∀ {j : Nat} {s : Sl}, (Γ.set i Sl.un)[j]? = some s → s ≠ .un → Γ[j]? = some s := fun {j s} h n => by
    rcases set_back h with ⟨_, e, _⟩ | ⟨_, h⟩
    · exact absurd e n
    · exact h
  exact ⟨c.ok.drop i, by rw [List.getElem?_set_ne hi]; exact c.g2, fun j x h => c.flat j x (bk h (nofun)), fun j b xs h => c.flatO j b xs (bk h (nofun)), fun j ns h => c.noscr j ns (bk h (nofun)), c.s2, c.hW, c.nd, c.len, c.row,
    fun p hp => ⟨(c.no0 p hp).1, (c.no0 p hp).2.1, (c.no0 p hp).2.2.1, fun ⟨j, b, xs, h, e⟩ => (c.no0 p hp).2.2.2 ⟨j, b, xs, bk h (nofun), e⟩⟩⟩
end
section
variable {X : Cx} {E : XK} {B : Bg} {W : Addr} {ps : List Addr} {most kinds steps : Nat} {tot : List Int} {wi4 : TI} {tv : TE}
end
end Mi
namespace Mi
open PySem PySem.Spec PyProof.Rows L2 Evl
variable [Tbl]
structure CutOk (most kinds n : Nat) (st : List (List Int) × List Int) : Prop where
  rl : st.1.length = most + 1
  tl : st.2.length = kinds
  rw_ : ∀ r ∈ st.1, r.length = kinds
  new : ∀ j, 2 + n ≤ j → j < most + 1 → st.1[j]? = some (List.replicate kinds 0)
end Mi
namespace Mi
open PySem PySem.Spec PyProof.Rows L2 Evl
variable [Tbl]
section
variable {X : Cx} {E : XK} {B : Bg} {W : Addr} {ps : List Addr} {most kinds steps : Nat} {tot : List Int} {tz : TE} {tc : TT} {tn : TS}
variable {wi1 wi3 wi4 : TI} {tv t2 : TE}
end
end Mi
namespace Mi
open PySem PySem.Spec PyProof.Rows L2 Evl
variable [Tbl]
section
variable {X : Cx} {E : XK} {B : Bg} {most kinds : Nat} {wi1 : TI}
end
end Mi
namespace Mi
open PySem PySem.Spec PyProof.Rows L2 Evl
variable [Tbl]
section
variable {X : Cx} {E : XK} {wi1 wi3 wi4 : TI} {t2 tz tv : TE} {tc : TT} {tn : TS}
end
end Mi
namespace Mi
open PySem PySem.Spec PyProof.Rows L2 Evl GenW
variable [Tbl]
section
variable {X : Cx} {E : XK}
end
end Mi
namespace Mi
open PySem PySem.Spec PyProof.Rows L2 Evl GenW
variable [Tbl]
section
variable {X : Cx} {E : XK}
structure Acc (X : Cx) (B : Bg) (pins : List (Addr × Obj)) (σ : L2.St) (Γ : Ga) (H0 Hs : Hp) (S : Addr) (ys : List D) (i : Nat) (s' : Shared) (H0' H' : Hp) : Prop where
  inv : Inv X pins σ H' s'
  ok : EnvOk X.K B σ Γ H0' H'
  gr : Grow (fun p => p = S) H0 Hs H0' H'
  n0 : H0' S = none
  at_ : ∃ vs, H' S = some (.lst vs) ∧ RpAll X.K H0' vs (ys.take i)
end
end Mi
namespace Mi
open PySem PySem.Spec PyProof.Rows L2 Evl
variable [Tbl]

theorem EnvOk.view2 {K : PySem.W.Frag} {B : Bg} {σ : L2.St} {Γ Γ' : Ga} {H0 H0' H : Hp} (ok : EnvOk K B σ Γ H0 H) (sub : Ex H0' H) (len : Γ'.length = Γ.length) (old : ∀ p, B.He p ≠ none → H0' p = H0 p) (ex : Ex B.He0 H0') (nt : NoT H0') (pm : Ex Tbl.M H0') (cl : ∀ i : Nat, Γ'[i]? = some .cl → Γ[i]? = some .cl)
    (dat : ∀ (i : Nat) x, Γ'[i]? = some (.d x) → ∃ v, σ[i]? = some (some v) ∧ Rp K H0' v x) (scr : ∀ (i : Nat) ns, Γ'[i]? = some (.scr ns) → ∃ a, σ[i]? = some (some (.ref a)) ∧ SqL K H0' a (ns.map V.int))
    (own : ∀ (i : Nat) b xs, Γ'[i]? = some (.own b xs) → Γ[i]? = some (.own b xs) ∧ ∀ a vs, σ[i]? = some (some (.ref a)) → OwnR K H0 a b xs vs → H0' a = none ∧ OwnR K H0' a b xs vs) : EnvOk K B σ Γ' H0' H where
  sub := sub
  len := len.trans ok.len
  dat := dat
  scr := scr
  own := fun i b xs h => by
    obtain ⟨h1, h2⟩ := own i b xs h
    obtain ⟨a, vs, e1, e2, e3, e4, e5⟩ := ok.own i b xs h1
    obtain ⟨n, r⟩ := h2 a vs e1 e4
    exact ⟨a, vs, e1, n, e3, r, e5⟩
  apart := fun i j b c xs ys a hij h1 h2 => ok.apart i j b c xs ys a hij (own i b xs h1).1 (own j c ys h2).1
  grow := ⟨ex, ok.grow.keep, fun p e n => (old p e).trans (ok.grow.old p e n), ok.grow.live, ok.grow.tab, fun _ => nt⟩
  tabs := ok.tabs
  past := ⟨pm, nt⟩
  cl := fun i h => ok.cl i (cl i h)
def ownInts (Γ : Ga) : Prop := ∀ (i : Nat) b xs, Γ[i]? = some (.own b xs) → ∃ (k : Bool) (ns : List Int), b = Ow.b k ∧ xs = ns.map .int
section
variable {K : PySem.W.Frag} {B : Bg} {σ : L2.St} {Γ : Ga} {H0 H : Hp} {p a1 a2 : Addr} {us1 us2 : List V} {xs ys : List D}
structure Two (K : PySem.W.Frag) (B : Bg) (σ : L2.St) (Γ : Ga) (H0 H : Hp) (i : Nat) (p a1 a2 : Addr) (us1 us2 : List V) (xs ys : List D) : Prop where
  ok : EnvOk K B σ (Γ.set i .un) H0 H
  hi : i < Γ.length
  at_ : σ[i]? = some (some (.ref p))
  hp : H p = some (.lst [.ref a1, .ref a2])
  h1 : H a1 = some (.lst us1)
  h2 : H a2 = some (.lst us2)
  r1 : RpAll K H0 us1 xs
  r2 : RpAll K H0 us2 ys
  no : ∀ q ∈ [p, a1, a2], H0 q = none ∧ B.He q = none ∧ ¬ OwnOf σ (Γ.set i .un) q
  d1 : p ≠ a1
  d2 : p ≠ a2
  d3 : a1 ≠ a2
theorem Two.no_ex {i : Nat} (t : Two K B σ Γ H0 H i p a1 a2 us1 us2 xs ys) {H0c : Hp} (e : Ex (plus H0 H [p, a1, a2]) H0c) : Ex H0 (minus H0c [p, a1, a2]) := fun q o h => by
  have nq : q ∉ [p, a1, a2] := fun z => by rw [(t.no q z).1] at h; cases h
  rw [minus_out nq]
  exact e _ _ (by rw [plus_out nq]; exact h)
theorem Two.lst {i : Nat} (t : Two K B σ Γ H0 H i p a1 a2 us1 us2 xs ys) {q : Addr} (h : q ∈ [p, a1, a2]) : ∃ vs, H q = some (.lst vs) := by
  simp at h
  rcases h with rfl | rfl | rfl
  · exact ⟨_, t.hp⟩
  · exact ⟨_, t.h1⟩
  · exact ⟨_, t.h2⟩
theorem Two.view {i : Nat} (t : Two K B σ Γ H0 H i p a1 a2 us1 us2 xs ys) : EnvOk K B σ (Γ.set i (.d (.list [.list xs, .list ys]))) (plus H0 H [p, a1, a2]) H := by
  have ex := plus_ex (ps := [p, a1, a2]) t.ok.sub
  have back : ∀ {j : Nat} {s : Sl}, (Γ.set i (.d (.list [.list xs, .list ys])))[j]? = some s → (j = i ∧ s = .d (.list [.list xs, .list ys])) ∨ (j ≠ i ∧ (Γ.set i .un)[j]? = some s) := fun {j s} h => by
    rcases set_back h with ⟨e, e2, _⟩ | ⟨e, h⟩
    · exact .inl ⟨e, e2⟩
    · exact .inr ⟨e, by rw [List.getElem?_set_ne (Ne.symm e)]; exact h⟩
  refine t.ok.view2 (plus_sub t.ok.sub) (by simp) (fun q hq => plus_out fun h => hq (t.no q h).2.1) (t.ok.grow.ex0.trans ex) (fun q qs e => ?_) (t.ok.past.ex.trans ex) (fun j h => ?_) (fun j x h => ?_) (fun j ns h => ?_) fun j b zs h => ?_
  · by_cases hq : q ∈ [p, a1, a2]
    · rw [plus_in hq] at e
      obtain ⟨vs, e2⟩ := t.lst hq
      rw [e2] at e; cases e
    · rw [plus_out hq] at e
      exact t.ok.past.nt q qs e
  · rcases back h with ⟨_, e⟩ | ⟨_, h⟩
    · cases e
    · exact h
  · rcases back h with ⟨rfl, e⟩ | ⟨_, h⟩
    · cases e
      refine ⟨_, t.at_, .lst (by rw [plus_in (by simp)]; exact t.hp) (.cons (.lst (by rw [plus_in (by simp)]; exact t.h1) (t.r1.m ex)) (.cons (.lst (by rw [plus_in (by simp)]; exact t.h2) (t.r2.m ex)) .nil))⟩
    · obtain ⟨v, e, r⟩ := t.ok.dat j x h
      exact ⟨v, e, r.m ex⟩
  · rcases back h with ⟨_, e⟩ | ⟨_, h⟩
    · cases e
    · obtain ⟨v, e, r⟩ := t.ok.scr j ns h
      exact ⟨v, e, ex_l ex r⟩
  · rcases back h with ⟨_, e⟩ | ⟨_, h⟩
    · cases e
    · refine ⟨?_, fun a vs e r => ⟨?_, r.m ex⟩⟩
      · exact h
      · rw [plus_out fun z => (t.no a z).2.2 ⟨j, b, zs, h, e⟩]
        obtain ⟨a', _, e1, n, _⟩ := t.ok.own j b zs h
        rw [e] at e1; cases e1; exact n
theorem Two.back {i : Nat} (t : Two K B σ Γ H0 H i p a1 a2 us1 us2 xs ys) (fl : ownInts Γ) {H0c Hc : Hp} (ok : EnvOk K B σ (Γ.set i (.d (.list [.list xs, .list ys]))) H0c Hc) (ex : Ex (plus H0 H [p, a1, a2]) H0c) :
    EnvOk K B σ (Γ.set i .un) (minus H0c [p, a1, a2]) Hc := by
  have exm := t.no_ex ex
  have set_un : ∀ {j : Nat} {s : Sl}, (Γ.set i Sl.un)[j]? = some s → s ≠ .un → Γ[j]? = some s ∧ j ≠ i := fun {j s} h n => by
    rcases set_back h with ⟨_, e, _⟩ | ⟨z, h⟩
    · exact absurd e n
    · exact ⟨h, z⟩
  have fwd : ∀ {j : Nat} {s : Sl}, Γ[j]? = some s → j ≠ i → (Γ.set i (.d (.list [.list xs, .list ys])))[j]? = some s := fun {j s} h z => by
    rw [List.getElem?_set_ne (Ne.symm z)]; exact h
  have sub : Ex (minus H0c [p, a1, a2]) Hc := fun q o e => by
    by_cases h : q ∈ [p, a1, a2]
    · rw [minus_in h] at e; cases e
    · rw [minus_out h] at e; exact ok.sub _ _ e
  refine ok.view2 sub (by simp) (fun q hq => minus_out fun h => hq (t.no q h).2.1) (t.ok.grow.ex0.trans exm) (fun q qs e => ?_) (t.ok.past.ex.trans exm) (fun j h => ?_) (fun j x h => ?_) (fun j ns h => ?_) fun j b zs h => ?_
  · by_cases hq : q ∈ [p, a1, a2]
    · rw [minus_in hq] at e; cases e
    · rw [minus_out hq] at e; exact ok.past.nt q qs e
  · obtain ⟨h, z⟩ := set_un h (nofun)
    exact fwd h z
  · obtain ⟨v, e, r⟩ := t.ok.dat j x h
    exact ⟨v, e, r.m exm⟩
  · obtain ⟨v, e, r⟩ := t.ok.scr j ns h
    exact ⟨v, e, ex_l exm r⟩
  · obtain ⟨h, z⟩ := set_un h (nofun)
    obtain ⟨k, ns, rfl, rfl⟩ := fl j b zs h
    refine ⟨fwd h z, fun a vs e r => ⟨?_, ?_⟩⟩
    · by_cases hq : a ∈ [p, a1, a2]
      · exact minus_in hq
      · rw [minus_out hq]
        obtain ⟨a', _, e1, n, _⟩ := ok.own j _ _ (fwd h z)
        rw [e] at e1; cases e1; exact n
    · obtain ⟨us, e1, e2⟩ := r
      rw [ofInts e2] at e1
      exact ⟨_, e1, rpInts ns⟩
end
section
variable {X : Cx} {E : XK} {c e1 e2 er ei eo : Expr} {n : Str} {i : Nat} {pos1 pos2 pos3 pos4 pos5 pos6 pos7 pos8 pos9 ap1 ap2 q1 q2 : Pos} {s : Ga → Res (Ga × List R)} {sc : Ga → Res (Ga × Bool)} {se : Ga → Res (Ga × R)}
end
end Mi
namespace Mi
open PySem PySem.Spec PyProof.Rows L2 Evl
variable [Tbl]
section
variable {X : Cx} {E : XK} {a e1 e2 : Expr} {apos cpos : Pos}
end
end Mi
namespace Mi
open PySem PySem.Spec PyProof.Rows L2 Evl
variable [Tbl]

structure Ne (K : PySem.W.Frag) (B : Bg) (σ : L2.St) (Γ : Ga) (H0 H : Hp) (i : Nat) (W : Addr) (ps : List Addr) (rows : List (List D)) : Prop where
  ok : EnvOk K B σ Γ H0 H
  s_ : σ[i]? = some (some (.ref W))
  hW : H W = some (.lst (ps.map V.ref))
  nd : (W :: ps).Nodup
  len : ps.length = rows.length
  row : ∀ (j : Nat) p r, ps[j]? = some p → rows[j]? = some r → ∃ vs, H p = some (.lst vs) ∧ RpAll K H0 vs r
  no : ∀ p ∈ W :: ps, H0 p = none ∧ B.He p = none ∧ ¬ OwnOf σ Γ p
section
variable {K : PySem.W.Frag} {B : Bg} {σ : L2.St} {Γ : Ga} {H0 H : Hp} {i : Nat} {W : Addr} {ps : List Addr} {rows : List (List D)}
theorem Ne.at_ (c : Ne K B σ Γ H0 H i W ps rows) {p : Addr} (hp : p ∈ ps) : ∃ vs, H p = some (.lst vs) := by
  obtain ⟨j, hj, rfl⟩ := List.getElem_of_mem hp
  have hr : j < rows.length := by rw [← c.len]; exact hj
  obtain ⟨vs, e, _⟩ := c.row j _ _ (List.getElem?_eq_getElem hj) (List.getElem?_eq_getElem hr)
  exact ⟨vs, e⟩
theorem Ne.lst (c : Ne K B σ Γ H0 H i W ps rows) {p : Addr} (hp : p ∈ W :: ps) : ∃ vs, H p = some (.lst vs) := by
  rcases List.mem_cons.mp hp with rfl | h
  · exact ⟨_, c.hW⟩
  · exact c.at_ h
theorem Ne.grow (c : Ne K B σ Γ H0 H i W ps rows) {Γ1 : Ga} {H01 H1 : Hp} (ok1 : EnvOk K B σ Γ1 H01 H1) (g : Grow (OwnOf σ Γ) H0 H H01 H1) (l : Less Γ Γ1) : Ne K B σ Γ1 H01 H1 i W ps rows := by
  have kp : ∀ {p o}, p ∈ W :: ps → H p = some o → (∀ qs, o ≠ .tbl qs) → H1 p = some o := fun {p o} hp e n => g.keep p o e (c.no p hp).2.2 n
  refine ⟨ok1, c.s_, kp List.mem_cons_self c.hW (by nofun), c.nd, c.len, fun j p r h1 h2 => ?_, fun p hp => ?_⟩
  · obtain ⟨vs, e, rr⟩ := c.row j p r h1 h2
    exact ⟨vs, kp (List.mem_cons_of_mem _ (List.mem_of_getElem? h1)) e (by nofun), rr.m g.ex0⟩
  · obtain ⟨h1, h2, h3⟩ := c.no p hp
    obtain ⟨vs, e⟩ := c.lst hp
    exact ⟨(g.old p (by rw [e]; simp) h3).trans h1, h2, fun z => h3 (l.own z)⟩
theorem Ne.setD (c : Ne K B σ Γ H0 H i W ps rows) {k : Nat} {v : V} {x : D} (hk : k ≠ i) (r : Rp K H0 v x) : Ne K B (σ.set k (some v)) (Γ.set k (.d x)) H0 H i W ps rows :=
  ⟨c.ok.setD k r, by rw [List.getElem?_set_ne hk]; exact c.s_, c.hW, c.nd, c.len, c.row, fun p hp => ⟨(c.no p hp).1, (c.no p hp).2.1, fun z => (c.no p hp).2.2 (own_setD z)⟩⟩
theorem Ne.poke (c : Ne K B σ Γ H0 H i W ps rows) {q : Addr} {o : HO} (nq : q ∉ W :: ps) (n0 : H0 q = none) (no : ¬ OwnOf σ Γ q) (hb : B.He q = none) (hl : (∃ vs, H q = some (.lst vs)) ∨ H q = none) : Ne K B σ Γ H0 (upd H q o) i W ps rows := by
  have ne : ∀ {p}, p ∈ W :: ps → p ≠ q := fun {p} hp z => nq (z ▸ hp)
  refine ⟨c.ok.poke n0 no hb hl, c.s_, by rw [upd_ne (ne List.mem_cons_self)]; exact c.hW, c.nd, c.len, fun j p r h1 h2 => ?_, c.no⟩
  obtain ⟨vs, e, rr⟩ := c.row j p r h1 h2
  exact ⟨vs, by rw [upd_ne (ne (List.mem_cons_of_mem _ (List.mem_of_getElem? h1)))]; exact e, rr⟩
theorem Ne.snoc (c : Ne K B σ Γ H0 H i W ps rows) {p : Addr} {vs : List V} {r : List D} (hp : H p = none) (rr : RpAll K H0 vs r) : Ne K B σ Γ H0 (upd (upd H p (.lst vs)) W (.lst ((ps ++ [p]).map V.ref))) i W (ps ++ [p]) (rows ++ [r]) := by
  have np : p ∉ W :: ps := fun z => by
    obtain ⟨us, e⟩ := c.lst z
    rw [hp] at e; cases e
  have m0 : H0 p = none := fresh_back c.ok.sub hp
  have nop : ¬ OwnOf σ Γ p := fun z => (c.ok.ownLive z).1 hp
  have hbp := RV.he c.ok hp
  have hWp : W ≠ p := fun z => np (z ▸ List.mem_cons_self)
  have c1 := c.poke (o := .lst vs) np m0 nop hbp (.inr hp)
  obtain ⟨w0, w1, w2⟩ := c.no W List.mem_cons_self
  have ok2 := c1.ok.poke (D := W) (o := .lst ((ps ++ [p]).map V.ref)) w0 w2 w1 (.inl ⟨_, c1.hW⟩)
  have ndw := List.nodup_cons.mp c.nd
  have neW : ∀ {q}, q ∈ ps → q ≠ W := fun {q} hq z => ndw.1 (z ▸ hq)
  refine ⟨ok2, c.s_, upd_same, ?_, by simp [c.len], fun j q s h1 h2 => ?_, fun q hq => ?_⟩
  · rw [← List.cons_append]
    exact List.nodup_append.mpr ⟨c.nd, by simp, fun x hx y hy e => by
      simp at hy
      exact np (by rw [← hy, ← e]; exact hx)⟩
  · by_cases hj : j < ps.length
    · rw [List.getElem?_append_left hj] at h1
      rw [List.getElem?_append_left (by rw [← c.len]; exact hj)] at h2
      obtain ⟨us, e, ru⟩ := c1.row j q s h1 h2
      exact ⟨us, by rw [upd_ne (neW (List.mem_of_getElem? h1))]; exact e, ru⟩
    · rw [List.getElem?_append_right (by omega)] at h1
      rw [List.getElem?_append_right (by rw [← c.len]; omega)] at h2
      rw [c.len] at h1
      cases hd : j - rows.length with
      | succ n => rw [hd] at h1; simp at h1
      | zero =>
        rw [hd] at h1 h2
        simp at h1 h2
        subst h1 h2
        exact ⟨vs, by rw [upd_ne (Ne.symm hWp), upd_same], rr⟩
  · rcases List.mem_cons.mp hq with rfl | hq
    · exact c.no _ List.mem_cons_self
    · rcases List.mem_append.mp hq with hq | hq
      · exact c.no q (List.mem_cons_of_mem _ hq)
      · simp at hq
        subst hq
        exact ⟨m0, hbp, nop⟩
theorem Ne.put (c : Ne K B σ Γ H0 H i W ps rows) {j : Nat} {p : Addr} {vs : List V} {r : List D} (hp : ps[j]? = some p) (rr : RpAll K H0 vs r) : Ne K B σ Γ H0 (upd H p (.lst vs)) i W ps (rows.set j r) := by
  have mp : p ∈ ps := List.mem_of_getElem? hp
  obtain ⟨n0, n1, n2⟩ := c.no p (List.mem_cons_of_mem _ mp)
  have ndw := List.nodup_cons.mp c.nd
  have hWp : W ≠ p := fun z => ndw.1 (z ▸ mp)
  refine ⟨c.ok.poke n0 n2 n1 (.inl (c.at_ mp)), c.s_, by rw [upd_ne hWp]; exact c.hW, c.nd, by simp [c.len], fun k q s h1 h2 => ?_, c.no⟩
  by_cases e : k = j
  · subst e
    rw [hp] at h1; cases h1
    have hk : k < rows.length := by rw [← c.len]; exact (List.getElem?_eq_some_iff.mp hp).1
    rw [List.getElem?_set_self hk] at h2; cases h2
    exact ⟨vs, upd_same, rr⟩
  · rw [List.getElem?_set_ne (Ne.symm e)] at h2
    have hqp : q ≠ p := fun z => by
      subst z
      obtain ⟨hj, ej⟩ := List.getElem?_eq_some_iff.mp hp
      obtain ⟨hk, ek⟩ := List.getElem?_eq_some_iff.mp h1
      exact e ((List.getElem_inj (h₀ := hk) (h₁ := hj) ndw.2).mp (ek.trans ej.symm))
    obtain ⟨us, e2, ru⟩ := c.row k q s h1 h2
    exact ⟨us, by rw [upd_ne hqp]; exact e2, ru⟩
theorem Ne.rows_rp (c : Ne K B σ Γ H0 H i W ps rows) {G : Hp} (hG : ∀ p ∈ ps, G p = H p) (ex : Ex H0 G) : RpAll K G (ps.map V.ref) (rows.map .list) := by
  have go : ∀ (qs : List Addr) (rs : List (List D)), qs.length = rs.length → (∀ (j : Nat) p r, qs[j]? = some p → rs[j]? = some r → ∃ vs, G p = some (.lst vs) ∧ RpAll K G vs r) → RpAll K G (qs.map V.ref) (rs.map .list) := by
    intro qs
    induction qs with
    | nil => intro rs hl _; cases rs with
      | nil => exact .nil
      | cons _ _ => cases hl
    | cons q qs ih => intro rs hl h; cases rs with
      | nil => cases hl
      | cons r rs =>
        obtain ⟨vs, e, rr⟩ := h 0 q r rfl rfl
        exact .cons (.lst e rr) (ih rs (by simpa using hl) fun j p r' h1 h2 => h (j + 1) p r' (by simpa using h1) (by simpa using h2))
  exact go ps rows c.len fun j p r h1 h2 => by
    obtain ⟨vs, e, rr⟩ := c.row j p r h1 h2
    exact ⟨vs, by rw [hG p (List.mem_of_getElem? h1)]; exact e, rr.m ex⟩
theorem Ne.view (c : Ne K B σ Γ H0 H i W ps rows) : EnvOk K B σ (Γ.set i (.d (.list (rows.map .list)))) (plus H0 H (W :: ps)) H ∧ Ex H0 (plus H0 H (W :: ps)) := by
  have ex := plus_ex (ps := W :: ps) c.ok.sub
  refine ⟨c.ok.view2 (plus_sub c.ok.sub) (by simp) (fun q hq => plus_out fun h => hq (c.no q h).2.1) (c.ok.grow.ex0.trans ex) (fun q qs e => ?_) (c.ok.past.ex.trans ex) (fun j h => cl_of_set (by nofun) j h) (fun j x h => ?_) (fun j ns h => ?_) fun j b zs h => ?_, ex⟩
  · by_cases hq : q ∈ W :: ps
    · rw [plus_in hq] at e
      obtain ⟨vs, e2⟩ := c.lst hq
      rw [e2] at e; cases e
    · rw [plus_out hq] at e
      exact c.ok.past.nt q qs e
  · rcases set_back h with ⟨rfl, e, _⟩ | ⟨_, h⟩
    · cases e
      exact ⟨_, c.s_, .lst (by rw [plus_in List.mem_cons_self]; exact c.hW) (c.rows_rp (fun p hp => plus_in (List.mem_cons_of_mem _ hp)) ex)⟩
    · obtain ⟨v, e, r⟩ := c.ok.dat j x h
      exact ⟨v, e, r.m ex⟩
  · rcases set_back h with ⟨_, e, _⟩ | ⟨_, h⟩
    · cases e
    · obtain ⟨v, e, r⟩ := c.ok.scr j ns h
      exact ⟨v, e, ex_l ex r⟩
  · rcases set_back h with ⟨_, e, _⟩ | ⟨_, h⟩
    · cases e
    · refine ⟨h, fun a vs e r => ⟨?_, r.m ex⟩⟩
      rw [plus_out fun z => (c.no a z).2.2 ⟨j, b, zs, h, e⟩]
      obtain ⟨a', _, e1, n, _⟩ := c.ok.own j b zs h
      rw [e] at e1; cases e1; exact n
end
section
variable {X : Cx} {E : XK} {B : Bg} {i k j l m : Nat} {W : Addr} {it : Ga → Res (Ga × List D)} {s1 s2 s3 : Ga → Res (Ga × R)} {sr : Ga → Res (Ga × List D)} {sv : Ga → Res (Ga × D)}
end
end Mi
namespace Mi
open PySem PySem.Spec PyProof.Rows L2 Evl
def LamO (q : Str) (params : Arguments) (body : Expr) (scope : Scope) (cl : List (Str × Addr)) (c' f : Addr) : HO := .ext fun h => ∃ pm ctv, h.get? f = some (PySem.W.kla_obj "<lambda>" q params body scope cl pm c' ctv)
section
variable {X : Cx} {pins : List (Addr × Obj)} {σ : L2.St} {H : Hp} {s : Shared}
end
section Amb
variable [Tbl]
section
variable {X : Cx} {pins : List (Addr × Obj)} {σ : L2.St} {H : Hp} {s : Shared}
end
section
variable {X : Cx} {pins : List (Addr × Obj)} {σ : L2.St} {H : Hp} {s : Shared}
end
section
variable {X : Cx}
end
end Amb
def callCl (j : Nat) (r : Res R) : Ga → Res (Ga × R) := fun Γ => match Γ[j]? with
  | some .cl => r.bind fun x => .ok (Γ, x)
  | _ => .stuck
section
variable {T : Tbl} {X Y : Cx} {c' f : Addr} {q : Str} {M H0 H H1 : Hp}
end
section
variable [T : Tbl] {X : Cx}
structure LamK (X : Cx) (j : Nat) where
  params : Arguments
  body : Expr
  scope : Scope
  sb : Ga → Res (Ga × R)
  L : LamX.LamS X.env.scope scope
  hdef : defaultsOf params X.env = ([], [])
  hbind : ∀ (q : Str) (cl : List (Str × Addr)) (pm cv ctv : Value), bindArgs (PySem.W.kla_fn "<lambda>" q params body scope cl pm cv ctv) ⟨[], []⟩ = pure []
  hbody : ∀ (A : Around) (outer : List Env) (s : Shared) (H : Hp) (E : XK) (f c' : Addr), Room j (A.deeper (LamX.lamEnv X scope s.heap.objs.size f c')) → A.guards = some [] → JE (LamX.lamCx X A outer s H E scope f c') E body sb
abbrev LamK.obj {j : Nat} (d : LamK X j) (c' f : Addr) : HO := LamO (lamQ X) d.params d.body d.scope (cloFrom X.env.cells d.scope.names []) c' f
structure Kz (X : Cx) (j : Nat) where
  f : Addr
  c : Addr
  d : LamK X j
structure Lz (X : Cx) {j : Nat} (B : Bg) (σ : L2.St) (Γ : Ga) (H0 H : Hp) (i : Nat) (W : Addr) (zs : List (Kz X j)) : Prop where
  ok : EnvOk X.K B σ Γ H0 H
  s_ : σ[i]? = some (some (.ref W))
  hW : H W = some (.lst (zs.map fun z => V.ref z.f))
  no : H0 W = none ∧ B.He W = none ∧ ¬ OwnOf σ Γ W
  lam : ∀ z ∈ zs, H0 z.f = some (z.d.obj z.c z.f) ∧ H z.c = some (LamX.CodeO z.c (lamQ X))
section
variable {j : Nat} {B : Bg} {σ : L2.St} {Γ : Ga} {H0 H : Hp} {i : Nat} {W : Addr} {zs : List (Kz X j)}
omit T in
theorem otr_no_code {K : PySem.W.Frag} {H0 : Hp} {a c : Addr} {q : Str} {t : OT} (h : OTR K H0 a (LamX.CodeO c q) t) : False := by
  cases t with
  | dct kvs =>
    obtain ⟨es, e, _⟩ := h
    unfold LamX.CodeO DctO at e
    have e := HO.ext.inj e
    let oc : Obj := { cls := .none, data := .fields #[.none, .str q 0] }
    have hx : ∀ b : Addr, b ≤ c → (⟨Array.replicate (c + 1) oc, {}⟩ : Heap).get? b = some oc := fun b hb => by
      unfold Heap.get?
      have : (Array.replicate (c + 1) oc)[b]? = some oc := by rw [Array.getElem?_replicate, if_pos (Nat.lt_succ_of_le hb)]
      rw [this]
    have hC : (fun h : Heap => ∃ oc vs t, h.get? c = some oc ∧ oc.data = Data.fields vs ∧ vs[1]? = some (Value.str q t)) ⟨Array.replicate (c + 1) oc, {}⟩ := ⟨oc, #[.none, .str q 0], 0, hx c (Nat.le_refl _), rfl, rfl⟩
    rw [e] at hC
    obtain ⟨ob, ds, ep, h1, _, h2, _⟩ := hC
    have : ob = oc := by
      unfold Heap.get? at h1
      have h3 : ∀ z, (Array.replicate (c + 1) oc)[a]? = some z → z = oc := fun z hz => by
        rw [Array.getElem?_replicate] at hz
        split at hz
        · exact (Option.some.inj hz).symm
        · cases hz
      revert h1
      show (match (Array.replicate (c + 1) oc)[a]? with | some ⟨_, _, .freed, _⟩ => none | o => o) = some ob → _
      cases hz : (Array.replicate (c + 1) oc)[a]? with
      | none => intro h1; cases h1
      | some z =>
        have := h3 z hz
        subst this
        intro h1
        exact (Option.some.inj h1).symm
    rw [this] at h2
    cases h2
  | ins c fs => exact h
theorem not_own_code (ok : EnvOk X.K B σ Γ H0 H) {c : Addr} {q : Str} (e : H c = some (LamX.CodeO c q)) : ¬ OwnOf σ Γ c := fun ⟨k, b, xs, h1, h2⟩ => by
  obtain ⟨a, vs, e1, _, e3, _⟩ := ok.own k b xs h1
  rw [h2] at e1; cases e1
  rw [e] at e3
  cases e3
  rename_i hr
  cases b with
  | b k =>
    obtain ⟨vs, z, _⟩ := hr.1
    unfold LamX.CodeO at z
    cases z
  | o k t => exact otr_no_code hr.1
theorem Lz.grow (c : Lz X B σ Γ H0 H i W zs) {Γ1 : Ga} {H01 H1 : Hp} (ok1 : EnvOk X.K B σ Γ1 H01 H1) (g : Grow (OwnOf σ Γ) H0 H H01 H1) (l : Less Γ Γ1) : Lz X B σ Γ1 H01 H1 i W zs := by
  obtain ⟨n1, n2, n3⟩ := c.no
  refine ⟨ok1, c.s_, g.keep _ _ c.hW n3 (by nofun), ⟨(g.old W (by rw [c.hW]; simp) n3).trans n1, n2, fun z => n3 (l.own z)⟩, fun z hz => ?_⟩
  obtain ⟨h1, h2⟩ := c.lam z hz
  exact ⟨g.ex0 _ _ h1, g.keep _ _ h2 (not_own_code c.ok h2) codeO_tbl⟩
end
structure JL (X : Cx) (E : XK) (j i : Nat) (ss : List Stmt) (v : List (Ga → Res (Ga × R)) → Ga → Res (Ga × Fl)) : Prop where
  ex : ∃ t, PSs X ss t ∧ ∀ B σ Γ H0 H W (zs : List (Kz X j)) Dn, Lz X B σ Γ H0 H i W zs → SW X B E H0 (v (zs.map fun z => z.d.sb) Γ) Dn → t Dn σ H
section
variable {E : XK} {j i : Nat} {nc : Str} {rest : List Stmt} {v : List (Ga → Res (Ga × R)) → Ga → Res (Ga × Fl)} {c P : Addr} {lpos apos cpos p1 p2 p3 : Pos}
end
end
section
variable [T : Tbl] {X : Cx} {E : XK} {i j k jc : Nat}
def sAsk (m : Res R → Res R) (jc : Nat) (sw : Ga → Res (Ga × D)) (sb : Ga → Res (Ga × R)) (Γ : Ga) : Res (Ga × Bool) := sTst (sBin neS (sPub (callCl jc (m (lamR sb Γ)))) sw) ((hide Γ).set jc .cl)
structure AllNo (m : Res R → Res R) (jc : Nat) (sw : Ga → Res (Ga × D)) (sbs : List (Ga → Res (Ga × R))) (Γ : Ga) : Prop where
  nc : ∀ k : Nat, Γ[k]? ≠ some .cl
  lt : jc < Γ.length
  no : ∀ sb ∈ sbs, ∃ Γ', sAsk m jc sw sb Γ = .ok (Γ', false)
end
end Mi
namespace Mi
open PySem PySem.Spec PyProof.Rows L2 Evl
section
variable {X : Cx} {pins : List (Addr × Obj)} {σ : L2.St} {H : Hp} {s : Shared}
end
section
variable {X : Cx} {body rest : List Stmt} {pos np p1 p2 sp pos' : Pos} {tb : WX → TS} {x n y : Str} {c : Value} {i j : Nat} {tr : Addr → Value → Option Addr → TS}
end
end Mi
namespace PySem.W
open PySem PySem.Spec PySem.Calls PyProof.Rows
section
variable {prog : Program} {w : World} {B : Around} {EE : Value → Shared → Prop} {z : Shared} {K : Frag} {u C : Addr} {ou : Obj} {oo : Option Obj}
end
end PySem.W
namespace Mi
open PySem PySem.Spec PyProof.Rows L2 Evl
end Mi
namespace Mi
open PySem PySem.Spec PyProof.Rows L2 Evl
variable [Tbl]
section
variable {X : Cx} {E : XK} {a d A : Addr} {oe : Obj} {pn : List (Addr × Obj)} {e e0 eo : Expr} {f : Str} {p pos pos2 lpos q1 q2 q3 : Pos} {j : Nat} {v0 : V} {x0 : D}
end
section
variable {X : Cx} {E : XK} {e e1 e2 eo : Expr} {x n y isi cl k1 k2 : Str} {i j : Nat} {C A1 A2 : Addr} {s : Ga → Res (Ga × R)} {v1 v2 : V} {x1 x2 : D} {to : TE}
  {rpos pos np p1 p2 sp pos' q1 q2 q3 q4 q5 q6 q7 q8 r1 r2 r3 r4 r5 r6 u1 u2 u3 u4 u5 u6 u7 u8 u9 : Pos}
end
end Mi
namespace Mi
open PySem PySem.Spec PyProof.Rows L2 Evl
mutual
def nkD : D → NestedKey
  | .int i => .num i
  | .none => .none
  | .tuple xs => .tup (nkDs xs)
  | .bool _ => .none
  | .str _ => .none
  | .list _ => .none
  | .dict _ => .none
def nkDs : List D → List NestedKey
  | [] => []
  | x :: xs => nkD x :: nkDs xs
end
mutual
theorem reads_key {h : Heap} : ∀ (d : D) (v : Value) (as : List Addr), Reads h v d as → keyOk d = true → NestedIs h (nkD d) v
  | .int i, _, _, r, _ => by cases r; rw [nkD]; exact .int _ _
  | .none, _, _, r, _ => by cases r; rw [nkD]; exact .none
  | .tuple xs, _, _, r, k => by
    cases r with
    | tuple h1 h2 h3 h4 =>
      rw [nkD]
      rw [keyOk] at k
      exact .tup h1 h2 h3 (reads_keys xs _ _ h4 k)
  | .bool _, _, _, _, k => by rw [keyOk] at k; cases k
  | .str _, _, _, _, k => by rw [keyOk] at k; cases k
  | .list _, _, _, _, k => by rw [keyOk] at k; cases k
  | .dict _, _, _, _, k => by rw [keyOk] at k; cases k
theorem reads_keys {h : Heap} : ∀ (xs : List D) (vs : List Value) (as : List Addr), ReadsAll h vs xs as → keyOks xs = true → NestedAll h (nkDs xs) vs
  | [], _, _, r, _ => by cases r; rw [nkDs]; exact .nil
  | x :: xs, _, _, r, k => by
    cases r with
    | cons h1 h2 =>
      rw [keyOks, Bool.and_eq_true] at k
      rw [nkDs]
      exact .cons (reads_key x _ _ h1 k.1) (reads_keys xs _ _ h2 k.2)
end
mutual
theorem nk_inj : ∀ (a b : D), keyOk a = true → keyOk b = true → nkD a = nkD b → a = b
  | .int i, b, _, kb, e => by
    cases b with
    | int j => rw [nkD, nkD] at e; cases e; rfl
    | none => rw [nkD, nkD] at e; cases e
    | tuple _ => rw [nkD, nkD] at e; cases e
    | _ => rw [keyOk] at kb; cases kb
  | .none, b, _, kb, e => by
    cases b with
    | int j => rw [nkD, nkD] at e; cases e
    | none => rfl
    | tuple _ => rw [nkD, nkD] at e; cases e
    | _ => rw [keyOk] at kb; cases kb
  | .tuple xs, b, ka, kb, e => by
    cases b with
    | int j => rw [nkD, nkD] at e; cases e
    | none => rw [nkD, nkD] at e; cases e
    | tuple ys =>
      rw [nkD, nkD] at e
      rw [keyOk] at ka kb
      rw [nks_inj xs ys ka kb (NestedKey.tup.inj e)]
    | _ => rw [keyOk] at kb; cases kb
  | .bool _, _, ka, _, _ => by rw [keyOk] at ka; cases ka
  | .str _, _, ka, _, _ => by rw [keyOk] at ka; cases ka
  | .list _, _, ka, _, _ => by rw [keyOk] at ka; cases ka
  | .dict _, _, ka, _, _ => by rw [keyOk] at ka; cases ka
theorem nks_inj : ∀ (xs ys : List D), keyOks xs = true → keyOks ys = true → nkDs xs = nkDs ys → xs = ys
  | [], [], _, _, _ => rfl
  | [], _ :: _, _, _, e => by rw [nkDs, nkDs] at e; cases e
  | _ :: _, [], _, _, e => by rw [nkDs, nkDs] at e; cases e
  | x :: xs, y :: ys, ka, kb, e => by
    rw [keyOks, Bool.and_eq_true] at ka kb
    rw [nkDs, nkDs] at e
    have e1 := (List.cons.inj e).1
    have e2 := (List.cons.inj e).2
    rw [nk_inj x y ka.1 kb.1 e1, nks_inj xs ys ka.2 kb.2 e2]
end
mutual
theorem nk_hash (w : World) : ∀ (d : D), keyOk d = true → (nkD d).hash w = hashD d
  | .int i, _ => by rw [nkD, hashD, NestedKey.hash]
  | .none, _ => by rw [nkD, hashD, NestedKey.hash]
  | .tuple xs, k => by
    rw [keyOk] at k
    rw [nkD, hashD, NestedKey.hash, nks_hash w xs k]
  | .bool _, k => by rw [keyOk] at k; cases k
  | .str _, k => by rw [keyOk] at k; cases k
  | .list _, k => by rw [keyOk] at k; cases k
  | .dict _, k => by rw [keyOk] at k; cases k
theorem nks_hash (w : World) : ∀ (xs : List D), keyOks xs = true → NestedKey.hashes w (nkDs xs) = hashDs xs
  | [], _ => by rw [nkDs, hashDs, NestedKey.hashes]
  | x :: xs, k => by
    rw [keyOks, Bool.and_eq_true] at k
    rw [nkDs, hashDs, NestedKey.hashes, nk_hash w x k.1, nks_hash w xs k.2]
end
mutual
theorem nk_depth : ∀ (d : D), (nkD d).depth ≤ deepD d
  | .int i => by rw [nkD, NestedKey.depth]; exact Nat.zero_le _
  | .none => by rw [nkD, NestedKey.depth]; exact Nat.zero_le _
  | .tuple xs => by
    rw [nkD, deepD, NestedKey.depth]
    exact Nat.succ_le_succ (nks_depth xs)
  | .bool _ => by rw [nkD, NestedKey.depth]; exact Nat.zero_le _
  | .str _ => by rw [nkD, NestedKey.depth]; exact Nat.zero_le _
  | .list _ => by rw [nkD, NestedKey.depth]; exact Nat.zero_le _
  | .dict _ => by rw [nkD, NestedKey.depth]; exact Nat.zero_le _
theorem nks_depth : ∀ (xs : List D), NestedKey.depthAll (nkDs xs) ≤ deepDs xs
  | [] => by rw [nkDs, NestedKey.depthAll]; exact Nat.zero_le _
  | x :: xs => by
    rw [nkDs, deepDs, NestedKey.depthAll]
    have h1 := nk_depth x
    have h2 := nks_depth xs
    omega
end
mutual
theorem key_noDict : ∀ (d : D), keyOk d = true → d.hasDict = false
  | .int _, _ => by simp [PyData.hasDict]
  | .none, _ => by simp [PyData.hasDict]
  | .tuple xs, k => by
    rw [keyOk] at k
    simpa [PyData.hasDict] using keys_noDict xs k
  | .bool _, k => by rw [keyOk] at k; cases k
  | .str _, k => by rw [keyOk] at k; cases k
  | .list _, k => by rw [keyOk] at k; cases k
  | .dict _, k => by rw [keyOk] at k; cases k
theorem keys_noDict : ∀ (xs : List D), keyOks xs = true → PyData.hasDictAll xs = false
  | [], _ => by simp [PyData.hasDictAll]
  | x :: xs, k => by
    rw [keyOks, Bool.and_eq_true] at k
    simp [PyData.hasDictAll, key_noDict x k.1, keys_noDict xs k.2]
end
def kEq (a b : D) : Bool := NestedKey.beq (nkD a) (nkD b)
theorem kEq_iff {a b : D} : kEq a b = true ↔ nkD a = nkD b := ⟨NestedKey.eq_of_beq _ _, fun e => by unfold kEq; rw [e]; exact NestedKey.beq_self _⟩
theorem kEq_same (a : D) : kEq a a = true := kEq_iff.mpr rfl
theorem kEq_ok {a b : D} (ha : keyOk a = true) (hb : keyOk b = true) : kEq a b = true ↔ a = b := ⟨fun e => nk_inj a b ha hb (kEq_iff.mp e), fun e => by rw [e]; exact kEq_same b⟩
def valD : List (D × D) → D → Option D
  | [], _ => none
  | kv :: r, k => if kEq kv.1 k = true then some kv.2 else valD r k
def putD : List (D × D) → D → D → List (D × D)
  | [], k, v => [(k, v)]
  | kv :: r, k, v => if kEq kv.1 k = true then (kv.1, v) :: r else kv :: putD r k v
theorem putD_len : ∀ (kvs : List (D × D)) (k v : D), (putD kvs k v).length ≤ kvs.length + 1
  | [], k, v => Nat.le_refl _
  | kv :: r, k, v => by
    unfold putD
    split
    · rw [List.length_cons, List.length_cons]; omega
    · have := putD_len r k v
      rw [List.length_cons, List.length_cons]; omega
theorem putD_mem : ∀ (kvs : List (D × D)) (k v : D) (x : D), x ∈ (putD kvs k v).map (·.1) → x = k ∨ x ∈ kvs.map (·.1)
  | [], k, v, x, h => by
    have : x = k := by simpa [putD] using h
    exact .inl this
  | kv :: r, k, v, x, h => by
    unfold putD at h
    split at h
    · exact .inr (by simpa using h)
    · rw [List.map_cons, List.mem_cons] at h
      rcases h with h | h
      · exact .inr (by rw [h]; simp)
      · rcases putD_mem r k v x h with q | q
        · exact .inl q
        · exact .inr (by rw [List.map_cons]; exact List.mem_cons_of_mem _ q)
theorem putD_key {kvs : List (D × D)} {k : D} (v : D) (hk : keyT k) (h : ∀ kv ∈ kvs, keyT kv.1) : ∀ kv ∈ putD kvs k v, keyT kv.1 := fun kv m => by
  rcases putD_mem kvs k v kv.1 (List.mem_map.mpr ⟨kv, m, rfl⟩) with q | q
  · rw [q]; exact hk
  · obtain ⟨y, hy, e⟩ := List.mem_map.mp q
    rw [← e]; exact h y hy
theorem putD_nd : ∀ (kvs : List (D × D)) (k v : D), (kvs.map (·.1)).Nodup → ((putD kvs k v).map (·.1)).Nodup
  | [], k, v, _ => by simp [putD]
  | kv :: r, k, v, h => by
    unfold putD
    rw [List.map_cons, List.nodup_cons] at h
    split
    · rw [List.map_cons, List.nodup_cons]; exact h
    · rename_i ne
      rw [List.map_cons, List.nodup_cons]
      refine ⟨fun m => ?_, putD_nd r k v h.2⟩
      rcases putD_mem r k v _ m with q | q
      · exact ne (by rw [q]; exact kEq_same k)
      · exact h.1 q
theorem KvsOk.put {kvs : List (D × D)} {k : D} (v : D) (h : KvsOk kvs) (hk : keyT k) (hl : kvs.length < sizeLine) : KvsOk (putD kvs k v) :=
  ⟨by have := putD_len kvs k v; omega, putD_nd kvs k v h.nd, putD_key v hk h.key⟩
theorem storedH_cons {κ : Type} [DecidableEq κ] (x : κ × Addr × Value) (xs : List (κ × Addr × Value)) (k : κ) (a : Addr) (v : Value) :
    storedH (x :: xs) k a v = if x.1 = k then (x.1, x.2.1, v) :: xs.map (putAt k v) else x :: storedH xs k a v := by
  by_cases h : x.1 = k
  · have e : (atKey (x :: xs) k).isSome = true := by simp [atKey, List.find?_cons, h]
    unfold storedH
    rw [if_pos e, if_pos h, List.map_cons, putAt, if_pos h]
  · have e : atKey (x :: xs) k = atKey xs k := by simp [atKey, List.find?_cons, h]
    unfold storedH
    rw [e, if_neg h, List.map_cons, putAt, if_neg h]
    split <;> rfl
inductive Tri (K : PySem.W.Frag) (H : Hp) : List (V × Int × V) → List (D × D) → List (NestedKey × Addr × Value) → Prop
  | nil : Tri K H [] [] []
  | cons {b : Addr} {k d : D} {y : V} {u : Value} {es : List (V × Int × V)} {kvs : List (D × D)} {xs : List (NestedKey × Addr × Value)} : Dp K H (.ref b) k → keyT k → svV d = some y → RelV y u → Tri K H es kvs xs →
    Tri K H ((.ref b, hashD k, y) :: es) ((k, d) :: kvs) ((nkD k, b, u) :: xs)
section
variable {K : PySem.W.Frag} {H : Hp}
theorem Tri.len {es : List (V × Int × V)} {kvs : List (D × D)} {xs : List (NestedKey × Addr × Value)} (t : Tri K H es kvs xs) : xs.length = kvs.length ∧ es.length = kvs.length := by
  induction t with
  | nil => exact ⟨rfl, rfl⟩
  | cons _ _ _ _ _ ih => exact ⟨by rw [List.length_cons, List.length_cons, ih.1], by rw [List.length_cons, List.length_cons, ih.2]⟩
theorem Tri.ent {es : List (V × Int × V)} {kvs : List (D × D)} {xs : List (NestedKey × Addr × Value)} (t : Tri K H es kvs xs) : Paired (EntR K H) es kvs := by
  induction t with
  | nil => exact .nil
  | cons h1 h2 h3 h4 _ ih => exact .cons ⟨h1, rfl, h3⟩ ih
theorem Tri.rel (P : Program) (w : World) {es : List (V × Int × V)} {kvs : List (D × D)} {xs : List (NestedKey × Addr × Value)} (t : Tri K H es kvs xs) :
    Paired (fun (e : V × Int × V) (d : DictEntry) => RelV e.1 d.key ∧ d.hash = e.2.1 ∧ RelV e.2.2 d.val) es (xs.map (entryOfKey (nestedKind P w))) := by
  induction t with
  | nil => exact .nil
  | cons h1 h2 h3 h4 _ ih =>
    rw [List.map_cons]
    exact .cons ⟨rfl, nk_hash w _ h2.1, h4⟩ ih
theorem Tri.all {es : List (V × Int × V)} {kvs : List (D × D)} {xs : List (NestedKey × Addr × Value)} (t : Tri K H es kvs xs) : ∀ x ∈ xs, ∃ k, x.1 = nkD k ∧ Dp K H (.ref x.2.1) k ∧ keyT k := by
  induction t with
  | nil => exact fun x h => nomatch h
  | cons h1 h2 h3 h4 _ ih =>
    intro x hx
    rcases List.mem_cons.mp hx with e | hx
    · rw [e]; exact ⟨_, rfl, h1, h2⟩
    · exact ih x hx
theorem Tri.keys {es : List (V × Int × V)} {kvs : List (D × D)} {xs : List (NestedKey × Addr × Value)} (t : Tri K H es kvs xs) : xs.map (·.1) = (kvs.map (·.1)).map nkD := by
  induction t with
  | nil => rfl
  | cons h1 h2 h3 h4 _ ih => rw [List.map_cons, List.map_cons, List.map_cons, ih]
theorem nk_nodup {ks : List D} (h : ks.Nodup) (hk : ∀ k ∈ ks, keyT k) : (ks.map nkD).Nodup := by
  induction ks with
  | nil => exact List.nodup_nil
  | cons k ks ih =>
    rw [List.nodup_cons] at h
    rw [List.map_cons, List.nodup_cons]
    refine ⟨fun m => ?_, ih h.2 fun x hx => hk x (List.mem_cons_of_mem _ hx)⟩
    obtain ⟨j, hj, e⟩ := List.mem_map.mp m
    have := nk_inj j k (hk j (List.mem_cons_of_mem _ hj)).1 (hk k (List.mem_cons_self ..)).1 e
    exact h.1 (this ▸ hj)
theorem Tri.nd {es : List (V × Int × V)} {kvs : List (D × D)} {xs : List (NestedKey × Addr × Value)} (t : Tri K H es kvs xs) (ok : KvsOk kvs) : (xs.map (·.1)).Nodup := by
  rw [t.keys]
  refine nk_nodup ok.nd fun k hk => ?_
  obtain ⟨kv, m, e⟩ := List.mem_map.mp hk
  rw [← e]; exact ok.key kv m
theorem Tri.at {es : List (V × Int × V)} {kvs : List (D × D)} {xs : List (NestedKey × Addr × Value)} (t : Tri K H es kvs xs) (k : D) :
    match valD kvs k with
    | some d => ∃ p y, atKey xs (nkD k) = some p ∧ svV d = some y ∧ RelV y p.2
    | none => atKey xs (nkD k) = none := by
  induction t with
  | nil => rfl
  | @cons b k1 d y u es kvs xs h1 h2 h3 h4 _ ih =>
    unfold valD
    by_cases q : kEq k1 k = true
    · have e : nkD k1 = nkD k := kEq_iff.mp q
      rw [if_pos q]
      exact ⟨(b, u), y, by simp [atKey, List.find?_cons, e], h3, h4⟩
    · have e : ¬ nkD k1 = nkD k := fun z => q (kEq_iff.mpr z)
      have a : atKey ((nkD k1, b, u) :: xs) (nkD k) = atKey xs (nkD k) := by simp [atKey, List.find?_cons, e]
      rw [if_neg q, a]
      exact ih
theorem Tri.put {es : List (V × Int × V)} {kvs : List (D × D)} {xs : List (NestedKey × Addr × Value)} (t : Tri K H es kvs xs) (nd : (xs.map (·.1)).Nodup) {b : Addr} {k v : D} {y : V} {u : Value} (h1 : Dp K H (.ref b) k) (h2 : keyT k) (h3 : svV v = some y) (h4 : RelV y u) :
    ∃ es', Tri K H es' (putD kvs k v) (storedH xs (nkD k) b u) := by
  induction t with
  | nil => exact ⟨_, .cons h1 h2 h3 h4 .nil⟩
  | @cons b1 k1 d1 y1 u1 es kvs xs g1 g2 g3 g4 t ih =>
    rw [storedH_cons]
    unfold putD
    rw [List.map_cons, List.nodup_cons] at nd
    by_cases q : kEq k1 k = true
    · have e : nkD k1 = nkD k := kEq_iff.mp q
      rw [if_pos q, if_pos e, map_putAt_of_not_mem _ _ _ (by rw [← e]; exact nd.1)]
      exact ⟨_, .cons g1 g2 h3 h4 t⟩
    · have e : ¬ nkD k1 = nkD k := fun z => q (kEq_iff.mpr z)
      rw [if_neg q, if_neg e]
      obtain ⟨es', t'⟩ := ih nd.2
      exact ⟨_, .cons g1 g2 g3 g4 t'⟩
end
section
variable {X : Cx} {pins : List (Addr × Obj)} {σ : L2.St} {H0 H : Hp} {s : Shared}
theorem is_key (I : Inv X pins σ H s) {v : V} {k : D} (d : Dp X.K H v k) (hk : keyT k) : ∃ b, v = .ref b ∧ (nestedKind X.prog X.w).is s.heap (nkD k) b := by
  obtain ⟨h1, h2, xs, rfl⟩ := hk
  cases d with
  | @tup b _ _ e1 e2 =>
    obtain ⟨as, rd⟩ := Dp.reads I _ _ (.ref b) (.tup e1 e2) rfl
    exact ⟨b, rfl, reads_key _ _ _ rd h1, Nat.le_trans (nk_depth _) h2⟩
theorem tri_of (P : Program) (w : World) {K : PySem.W.Frag} : ∀ {es : List (V × Int × V)} {kvs : List (D × D)} {ds : List DictEntry}, Paired (fun (e : V × Int × V) (d : DictEntry) => RelV e.1 d.key ∧ d.hash = e.2.1 ∧ RelV e.2.2 d.val) es ds →
    Paired (EntR K H) es kvs → (∀ kv ∈ kvs, keyT kv.1) → ∃ xs, Tri K H es kvs xs ∧ ds = xs.map (entryOfKey (nestedKind P w))
  | _, _, _, .nil, .nil, _ => ⟨[], .nil, rfl⟩
  | _, _, _, .cons (a := e) (b := d) h t, .cons (b := kv) g r, hk => by
    obtain ⟨xs, t1, e1⟩ := tri_of P w t r fun x hx => hk x (List.mem_cons_of_mem _ hx)
    obtain ⟨e1', e2', e3'⟩ := e
    obtain ⟨k, v⟩ := kv
    obtain ⟨g1, g2, g3⟩ := g
    obtain ⟨q1, q2, q3⟩ := h
    have kt := hk _ (List.mem_cons_self ..)
    obtain ⟨kt1, kt2, ys, kt3⟩ := id kt
    simp only at g1 g2 g3 q1 q2 q3 kt3
    subst kt3
    cases g1 with
    | @tup b _ _ f1 f2 =>
      obtain ⟨dh, dk, dv⟩ := d
      simp only at q1 q2 q3
      obtain rfl : dk = .ref b := q1
      subst g2
      refine ⟨(nkD (.tuple ys), b, dv) :: xs, .cons (.tup f1 f2) kt g3 q3 t1, ?_⟩
      rw [List.map_cons, ← e1, q2]
      congr 1
      show _ = (⟨(nkD (.tuple ys)).hash w, .ref b, dv⟩ : DictEntry)
      rw [nk_hash w _ kt1]
end
end Mi
namespace Mi
open PySem PySem.Spec PyProof.Rows L2 Evl
def IsDc (H : Hp) (a : Addr) : Prop := ∃ es, Rd H a (DctO a es)
def DHas (K : PySem.W.Frag) (H : Hp) (a : Addr) (kvs : List (D × D)) : Prop := ∃ es, Rd H a (DctO a es) ∧ DOk K H a es kvs
theorem DHas.is {K : PySem.W.Frag} {H : Hp} {a : Addr} {kvs : List (D × D)} (h : DHas K H a kvs) : IsDc H a := let ⟨es, h1, _⟩ := h; ⟨es, h1⟩
def dRes (kvs : List (D × D)) (k : D) : Option V := (valD kvs k).bind svV
theorem code_not_dct {c a : Addr} {q : Str} {es : List (V × Int × V)} : LamX.CodeO c q ≠ DctO a es := fun z => by
  unfold LamX.CodeO DctO at z
  have z := HO.ext.inj z
  let ob : Obj := { cls := .none, data := .fields #[.none, .str q 0] }
  let h : Heap := ⟨Array.replicate (c + 1) ob, {}⟩
  have gt : ∀ b u, h.get? b = some u → u = ob := fun b u e => by
    unfold Heap.get? at e
    by_cases hb : b < c + 1
    · have e1 : h.objs[b]? = some ob := by show (Array.replicate (c + 1) ob)[b]? = some ob; simp [hb]
      rw [e1] at e
      exact (Option.some.inj e).symm
    · have e1 : h.objs[b]? = none := by show (Array.replicate (c + 1) ob)[b]? = none; simp; exact Nat.le_of_not_lt hb
      rw [e1] at e
      cases e
  have hc : h.get? c = some ob := by
    unfold Heap.get?
    have e1 : h.objs[c]? = some ob := by show (Array.replicate (c + 1) ob)[c]? = some ob; simp
    rw [e1]
  obtain ⟨o2, ds, ep, h1, _, h3, _⟩ := (congrFun z h).mp ⟨ob, _, 0, hc, rfl, rfl⟩
  rw [gt a o2 h1] at h3
  cases h3
theorem dct_not_tbl {a : Addr} {es : List (V × Int × V)} (ps : Array Value) : DctO a es ≠ .tbl ps := fun z => by unfold DctO at z; cases z
section
variable [Tbl]
theorem tabs_dct {H : Hp} {a : Addr} {o : HO} {es : List (V × Int × V)} (e : H a = some (DctO a es)) (t : Tabs H) : Tabs (upd H a o) := by
  have n1 : ∀ {b : Addr} {ps : Array Value}, H b = some (.tbl ps) → b ≠ a := fun {b ps} q z => by
    rw [z, e] at q
    exact dct_not_tbl ps (Option.some.inj q)
  have n2 : ∀ {b : Addr} {q : Str}, H b = some (LamX.CodeO b q) → b ≠ a := fun {b q} r z => by
    rw [z, e] at r
    exact code_not_dct (Option.some.inj r).symm
  refine ⟨fun p hp => ?_, fun p hp => ?_⟩
  · obtain ⟨ps, h1, h2, h3⟩ := t.t p hp
    refine ⟨ps, by rw [upd_ne (n1 h1)]; exact h1, h2, fun pos cv hc => ?_⟩
    obtain ⟨c, e1, e2⟩ := h3 pos cv hc
    exact ⟨c, e1, by rw [upd_ne (n2 e2)]; exact e2⟩
  · rw [upd_ne (n2 (t.c p hp))]
    exact t.c p hp
end
theorem room8 {P : Program} {w : World} {A : Around} (hu : A.units + 64 < cLine) : (nestedKind P w).room A.in1 := by
  show A.units + 1 + 8 < cLine
  omega
section
variable {X : Cx} {pins : List (Addr × Obj)} {σ : L2.St} {H0 H : Hp} {s : Shared} {a : Addr} {kvs : List (D × D)} {k d : D} {y z : V} {u r : Value} {E : Value → Shared → Prop} {es : List (V × Int × V)}
theorem dct_lib (I : Inv X pins σ H s) (sub : Ex H0 H) (h1 : Rd H a (DctO a es)) (h2 : DOk X.K H0 a es kvs) : ∃ xs, Tri X.K H0 es kvs xs ∧ s.heap.DictOfH (nestedKind X.prog X.w) a xs := by
  obtain ⟨⟨ob, ds, ep, g1, g2, g3, g4⟩, _, _⟩ := (show ObjOk X.prog X.w H s.heap a (DctO a es) from rd_of I.hok h1)
  obtain ⟨xs, t, e⟩ := tri_of X.prog X.w g4 h2.ent h2.ok.key
  refine ⟨xs, t, ob, ds, ep, g1, g2, g3, e, fun x hx => ?_, t.nd h2.ok⟩
  obtain ⟨k, e1, e2, e3⟩ := t.all x hx
  obtain ⟨b, e4, e5⟩ := is_key I (dp_mono sub _ _ e2) e3
  cases e4
  rw [e1]
  exact e5
theorem isDc_at (I : Inv X pins σ H s) (h : IsDc H a) : ∃ ob ds ep, s.heap.get? a = some ob ∧ ob.ExactDict ∧ ob.data = .dict ds ep := by
  obtain ⟨es, h1⟩ := h
  obtain ⟨⟨ob, ds, ep, g1, g2, g3, g4⟩, _, _⟩ := (show ObjOk X.prog X.w H s.heap a (DctO a es) from rd_of I.hok h1)
  exact ⟨ob, ds, ep, g1, g2, g3⟩
theorem tri_res {K : PySem.W.Frag} {xs : List (NestedKey × Addr × Value)} (t : Tri K H es kvs xs) (k : D) : RelO (dRes kvs k) ((atKey xs (nkD k)).map (·.2)) := by
  have h := t.at k
  unfold dRes
  revert h
  cases valD kvs k with
  | none => intro h; rw [h]; exact True.intro
  | some d =>
    rintro ⟨p, y, e1, e2, e3⟩
    rw [e1]
    show RelO (svV d) (some p.2)
    rw [e2]
    exact e3
theorem dct_obj (P : Program) (w : World) {K : PySem.W.Frag} {H' : Hp} {h : Heap} {xs : List (NestedKey × Addr × Value)} (t : Tri K H es kvs xs) (dd : h.DictOfH (nestedKind P w) a xs) : ObjOk P w H' h a (DctO a es) := by
  obtain ⟨ob, ds, ep, g1, g2, g3, g4, _⟩ := dd
  refine ⟨⟨ob, ds, ep, g1, g2, g3, by rw [g4]; exact t.rel P w⟩, ⟨ob, g1⟩, fun h1 h2 => ?_⟩
  rintro ⟨o1, d1, e1, q1, q⟩ k
  exact ⟨o1, d1, e1, k _ q1, q⟩
theorem dct_get {Q : Value → Shared → Prop} (hu : X.A.units + 64 < cLine) (I : Inv X pins σ H s) (g : DHas X.K H a kvs) (dy : Dp X.K H y k) (hk : keyT k) (ry : RelV y u) (rz : RelV z r) (h : ∀ w' s', Inv X pins σ H s' → RelV ((dRes kvs k).getD z) w' → Q w' s') :
    wpAny (model X.prog X.w) X.A (call (.builtin "dict.get") [.ref a, u, r]) Q E s := by
  obtain ⟨es, h1, h2⟩ := g
  obtain ⟨xs, t, dd⟩ := dct_lib I (Ex.refl _) h1 h2
  obtain ⟨b, e1, e2⟩ := is_key I dy hk
  subst e1
  cases (show u = Value.ref b from ry)
  refine call_meetsIn PySem.F.slot_dict_get dd.typeIs PySem.F.entry_dict_get (PySem.F.args_dict_get_3 _ _ _) (meetsH_dict_get_default (nestedKind X.prog X.w) a b h2.ns r) ⟨room8 hu, nkD k, xs, e2, dd, h _ _ (I.tok _) ?_⟩
  exact (tri_res t k).getD rz
theorem dct_at {v : V} {Q : Value → Shared → Prop} (hu : X.A.units + 64 < cLine) (I : Inv X pins σ H s) (g : DHas X.K H a kvs) (dy : Dp X.K H y k) (hk : keyT k) (ry : RelV y u) (hv : dRes kvs k = some v) (h : ∀ w' s', Inv X pins σ H s' → RelV v w' → Q w' s') :
    wpAny (model X.prog X.w) X.A (getItem (.ref a) u) Q E s := by
  obtain ⟨es, h1, h2⟩ := g
  obtain ⟨xs, t, dd⟩ := dct_lib I (Ex.refl _) h1 h2
  obtain ⟨b, e1, e2⟩ := is_key I dy hk
  subst e1
  cases (show u = Value.ref b from ry)
  obtain ⟨w', hw, rw'⟩ := RelO.some_of (v := v) (o := (atKey xs (nkD k)).map (·.2)) (by rw [← hv]; exact tri_res t k)
  obtain ⟨p, hp, hp2⟩ := Option.map_eq_some_iff.mp hw
  refine wpAny_getItem_heap (room8 hu) e2 dd hp ?_
  rw [hp2]
  exact h w' _ (I.tok _) rw'
theorem dct_has {Q : Value → Shared → Prop} (hu : X.A.units + 64 < cLine) (I : Inv X pins σ H s) (g : DHas X.K H a kvs) (dy : Dp X.K H y k) (hk : keyT k) (ry : RelV y u) (h : ∀ s', Inv X pins σ H s' → Q (.bool (valD kvs k).isSome) s') :
    wpAny (model X.prog X.w) X.A (compareOp .In u (.ref a)) Q E s := by
  obtain ⟨es, h1, h2⟩ := g
  obtain ⟨xs, t, dd⟩ := dct_lib I (Ex.refl _) h1 h2
  obtain ⟨b, e1, e2⟩ := is_key I dy hk
  subst e1
  cases (show u = Value.ref b from ry)
  refine wpAny_in_heap (room8 hu) e2 h2.ns dd ?_
  have q : (atKey xs (nkD k)).isSome = (valD kvs k).isSome := by
    have h := t.at k
    revert h
    cases valD kvs k with
    | none => intro h; rw [h]; rfl
    | some d => rintro ⟨p, y, e1, _⟩; rw [e1]; rfl
  rw [q]
  exact h _ (I.tok _)
theorem dct_hasNo {Q : Value → Shared → Prop} (hu : X.A.units + 64 < cLine) (I : Inv X pins σ H s) (g : DHas X.K H a kvs) (dy : Dp X.K H y k) (hk : keyT k) (ry : RelV y u) (h : ∀ s', Inv X pins σ H s' → Q (.bool (!(valD kvs k).isSome)) s') :
    wpAny (model X.prog X.w) X.A (compareOp .NotIn u (.ref a)) Q E s := by
  obtain ⟨es, h1, h2⟩ := g
  obtain ⟨xs, t, dd⟩ := dct_lib I (Ex.refl _) h1 h2
  obtain ⟨b, e1, e2⟩ := is_key I dy hk
  subst e1
  cases (show u = Value.ref b from ry)
  refine wpAny_notIn_heap (room8 hu) e2 h2.ns dd ?_
  have q : (atKey xs (nkD k)).isSome = (valD kvs k).isSome := by
    have h := t.at k
    revert h
    cases valD kvs k with
    | none => intro h; rw [h]; rfl
    | some d => rintro ⟨p, y, e1, _⟩; rw [e1]; rfl
  rw [q]
  exact h _ (I.tok _)
theorem dct_put {Q : Unit → Shared → Prop} (hu : X.A.units + 64 < cLine) (I : Inv X pins σ H s) (sub : Ex H0 H) (e : H a = some (DctO a es)) (ok : DOk X.K H0 a es kvs) (dy : Dp X.K H0 y k) (hk : keyT k) (ry : RelV y u) (hd : svV d = some z) (rz : RelV z r) (hl : kvs.length < sizeLine)
    (h : ∀ es' s', DOk X.K H0 a es' (putD kvs k d) → Inv X pins σ (upd H a (DctO a es')) s' → Q () s') : wpAny (model X.prog X.w) X.A (setItem (.ref a) u r) Q E s := by
  obtain ⟨xs, t, dd⟩ := dct_lib I sub (.inl e) ok
  obtain ⟨b, e1, e2⟩ := is_key I (dp_mono sub _ _ dy) hk
  subst e1
  cases (show u = Value.ref b from ry)
  obtain ⟨es', t'⟩ := t.put (t.nd ok.ok) (v := d) dy hk hd rz
  refine wpAny_setItem_heap (hsz := by rw [t.len.1]; omega) (room8 hu) e2 dd fun h' dd' hs => ?_
  refine h es' _ ⟨ok.ns, ok.ok.put d hk hl, t'.ent⟩ ?_
  have he : ∃ q, h'.get? a = some q := let ⟨q, _, _, hq, _⟩ := dd'; ⟨q, hq⟩
  exact d_write I (by rw [e]; exact True.intro) hs he (dct_obj X.prog X.w t' dd')
theorem dct_new {pos : Pos} {Q : Value → Shared → Prop} (I : Inv X pins σ H s) (h : ∀ p s', H p = none → (p == sysModules) = false → Inv X pins σ (upd H p (DctO p [])) s' → Q (.ref p) s') : wpAny (model X.prog X.w) X.A (eval (.Dict [] [] pos) X.env) Q E s := by
  refine wpAny_Dict_empty (h _ _ (I.hok.fresh (Nat.le_refl _)) (beq_eq_false_iff_ne.mpr (Ne.symm (Nat.ne_of_lt I.big))) (I.laid (a := s.heap.objs.size) (o := DctO s.heap.objs.size []) (t' := s.toks) (fun _ _ q => Heap.get?_push_of_some _ q) (Nat.le_refl _) ?_))
  exact dct_obj (K := X.K) (H := H) X.prog X.w .nil (Heap.DictOfH.new s.heap)
theorem dok_nil {K : PySem.W.Frag} (h : (a == sysModules) = false) : DOk K H a [] [] := ⟨h, ⟨Nat.zero_le _, List.nodup_nil, fun _ m => nomatch m⟩, .nil⟩
end

def tG2 (K : PySem.W.Frag) (td ty tx : TE) : TE := fun σ H Q => td σ H fun x H1 => ∃ a, x = .ref a ∧ IsDc H1 a ∧ ty σ H1 fun y H2 => tx σ H2 fun z H3 => ∃ kvs k, DHas K H3 a kvs ∧ Dp K H3 y k ∧ keyT k ∧ Q ((dRes kvs k).getD z) H3
def tGI (K : PySem.W.Frag) (td ty : TE) : TE := fun σ H Q => td σ H fun x H1 => ty σ H1 fun y H2 => ∃ a kvs k v, x = .ref a ∧ DHas K H2 a kvs ∧ Dp K H2 y k ∧ keyT k ∧ dRes kvs k = some v ∧ Q v H2
def tHas (K : PySem.W.Frag) (neg : Bool) (ty td : TE) : TE := fun σ H Q => ty σ H fun y H1 => td σ H1 fun x H2 => ∃ a kvs k, x = .ref a ∧ DHas K H2 a kvs ∧ Dp K H2 y k ∧ keyT k ∧ Q (.bl (Bool.xor neg (valD kvs k).isSome)) H2
def tPutD (K : PySem.W.Frag) (td ty tv : TE) : TS := fun Dn σ H => tv σ H fun v H1 => td σ H1 fun x H2 => ty σ H2 fun y H3 => ∃ a H0 es kvs k d, x = .ref a ∧ Ex H0 H3 ∧ H3 a = some (DctO a es) ∧ DOk K H0 a es kvs ∧ Dp K H0 y k ∧ keyT k ∧ svV d = some v ∧ kvs.length < sizeLine ∧
  ∀ es', DOk K H0 a es' (putD kvs k d) → Dn.nx σ (upd H3 a (DctO a es'))
def tNewO : TE := fun _ H Q => ∀ p, H p = none → (p == sysModules) = false → Q (.ref p) (upd H p (DctO p []))
section
variable {X : Cx} {o e f i value : Expr} {apos cpos pos pos' : Pos} {td ty tx tv : TE}
theorem pe_g2 (hu : X.A.units + 64 < cLine) (ho : PE X o td) (he : PE X e ty) (hf : PE X f tx) (m : M2 X o "get" apos e f cpos) : PE X (.Call (.Attribute o "get" apos) [e, f] [] cpos) (tG2 X.K td ty tx) := by
  refine ⟨fun pins s σ H Q I h => ?_⟩
  refine wpAny_Call_method m.base m.few m.line PySem.F.plainAttrs_dict PySem.F.slot_dict_get PySem.F.type_dict_get (thn (ho.run pins s σ H _ I h) fun u s1 ⟨x, H1, I1, rx, a, ex, d, q1⟩ => ?_)
  subst ex
  cases (show u = Value.ref a from rx)
  obtain ⟨ob, ds, ep, g1, g2, g3⟩ := isDc_at I1 d
  refine ⟨⟨ob, g1, g2.1⟩, fun b z => by cases z; exact ⟨ob, g1, g2.2.1⟩, ?_⟩
  rw [m.trees]
  refine Calls.callWith_builtin rfl (Calls.evalArgs_plain (Calls.spliced_cons (thn (he.run pins s1 σ H1 _ I1 q1) fun iv s2 ⟨y, H2, I2, ry, q2⟩ =>
    Calls.spliced_cons (thn (hf.run pins s2 σ H2 _ I2 q2) fun fv s3 ⟨z, H3, I3, rz, kvs, k, d1, d2, d3, q3⟩ => Calls.spliced_nil ?_))))
  exact dct_get hu I3 d1 d2 d3 ry rz fun w' s4 I4 rw' => ⟨_, H3, I4, rw', q3⟩
theorem pe_gi (hu : X.A.units + 64 < cLine) (ho : PE X o td) (hi : PE X i ty) (hs : NoSl i) : PE X (.Subscript o i pos) (tGI X.K td ty) := by
  refine ⟨fun pins s σ H Q I h => ?_⟩
  refine subD_of PySem.F.slot_dict_getitem.lookup hs (thn (ho.run pins s σ H _ I h) fun u s1 ⟨x, H1, I1, rx, q1⟩ => thn (hi.run pins s1 σ H1 _ I1 q1) fun iv s2 ⟨y, H2, I2, ry, a, kvs, k, v, ex, g, d2, d3, hv, q2⟩ => ?_)
  subst ex
  cases (show u = Value.ref a from rx)
  obtain ⟨ob, ds, ep, g1, g2, g3⟩ := isDc_at I2 g.is
  exact ⟨⟨ob, g1, g2.1⟩, dct_at hu I2 g d2 d3 ry hv fun w' s3 I3 rw' => ⟨v, H2, I3, rw', q2⟩⟩
theorem pc_has (hu : X.A.units + 64 < cLine) (hi : PE X i ty) (ho : PE X o td) : PC X .In i o (tHas X.K false ty td) := by
  refine ⟨fun pins s σ H Q I h => ?_⟩
  refine thn (hi.run pins s σ H _ I h) fun iv s1 ⟨y, H1, I1, ry, q1⟩ => thn (ho.run pins s1 σ H1 _ I1 q1) fun u s2 ⟨x, H2, I2, rx, a, kvs, k, ex, g, d2, d3, q2⟩ => ?_
  subst ex
  cases (show u = Value.ref a from rx)
  exact dct_has hu I2 g d2 d3 ry fun s3 I3 => ⟨_, H2, I3, by rw [Bool.false_xor]; exact rfl, q2⟩
theorem pc_hasNo (hu : X.A.units + 64 < cLine) (hi : PE X i ty) (ho : PE X o td) : PC X .NotIn i o (tHas X.K true ty td) := by
  refine ⟨fun pins s σ H Q I h => ?_⟩
  refine thn (hi.run pins s σ H _ I h) fun iv s1 ⟨y, H1, I1, ry, q1⟩ => thn (ho.run pins s1 σ H1 _ I1 q1) fun u s2 ⟨x, H2, I2, rx, a, kvs, k, ex, g, d2, d3, q2⟩ => ?_
  subst ex
  cases (show u = Value.ref a from rx)
  exact dct_hasNo hu I2 g d2 d3 ry fun s3 I3 => ⟨_, H2, I3, by rw [Bool.true_xor]; exact rfl, q2⟩
theorem ps_putD (hu : X.A.units + 64 < cLine) (ho : PE X o td) (hi : PE X i ty) (hv : PE X value tv) (hs : swapsWith value (some (.Subscript o i pos')) pos.line X.env = pure false) :
    PS X (.Assign [.Subscript o i pos'] value pos) (tPutD X.K td ty tv) := by
  refine ⟨fun pins s σ H Dn I h => ?_⟩
  refine wpAny_Assign_Subscript (thn (hv.run pins s σ H _ I h) fun r s1 ⟨v, H1, I1, rv, q1⟩ => thn (ho.run pins s1 σ H1 _ I1 q1) fun u s2 ⟨x, H2, I2, rx, q2⟩ => thn (hi.run pins s2 σ H2 _ I2 q2) fun iv s3 ⟨y, H3, I3, ry, a, H0, es, kvs, k, d, ex, d1, d2, d3, d4, d5, d6, d7, q3⟩ => ?_) hs
  subst ex
  cases (show u = Value.ref a from rx)
  exact dct_put hu I3 d1 d2 d3 d4 d5 ry d6 rv d7 fun es' s4 ok4 I4 => ⟨σ, _, I4, q3 es' ok4⟩
theorem pe_newO : PE X (.Dict [] [] pos) tNewO := ⟨fun pins s σ H Q I h => dct_new I fun p s' hp hs I' => ⟨.ref p, _, I', rfl, h p hp hs⟩⟩
end
end Mi
namespace Mi
open PySem PySem.Spec PyProof.Rows L2 Evl
variable [Tbl]
def keyB (k : D) : Bool := keyOk k && decide (deepD k ≤ 8) && (match k with | .tuple _ => true | _ => false)
omit [Tbl] in
theorem keyB_ok {k : D} (h : keyB k = true) : keyT k := by
  unfold keyB at h
  rw [Bool.and_eq_true, Bool.and_eq_true] at h
  obtain ⟨⟨h1, h2⟩, h3⟩ := h
  refine ⟨h1, of_decide_eq_true h2, ?_⟩
  cases k with
  | tuple xs => exact ⟨xs, rfl⟩
  | _ => cases h3
section
variable {K : PySem.W.Frag} {H : Hp}
omit [Tbl] in
theorem rp_of_sv {d : D} {y : V} (h : svV d = some y) : Rp K H y d := by
  cases d with
  | int i => cases h; exact .int i
  | bool i => cases h; exact .bl i
  | none => cases h; exact .non
  | str _ => cases h
  | tuple _ => cases h
  | list _ => cases h
  | dict _ => cases h
omit [Tbl] in
theorem Rp.sv {d : D} {v : V} (r : Rp K H v d) (h : (svV d).isSome = true) : svV d = some v := by
  cases d with
  | int i => cases r; rfl
  | bool i => cases r; rfl
  | none => cases r; rfl
  | str _ => cases h
  | tuple _ => cases h
  | list _ => cases h
  | dict _ => cases h
omit [Tbl] in
mutual
theorem rp_of_key : ∀ (d : D) (v : V), Dp K H v d → keyOk d = true → Rp K H v d
  | .none, _, h, _ => by cases h; exact .non
  | .bool b, _, h, k => by rw [keyOk] at k; cases k
  | .int i, _, h, _ => by cases h; exact .int i
  | .str s, _, h, k => by rw [keyOk] at k; cases k
  | .list ds, _, h, k => by rw [keyOk] at k; cases k
  | .tuple ds, _, h, k => by
    rw [keyOk] at k
    cases h with
    | tup h1 h2 => exact .tup h1 (rps_of_key ds _ h2 k)
  | .dict _, _, h, k => by rw [keyOk] at k; cases k
theorem rps_of_key : ∀ (xs : List D) (vs : List V), DpAll K H vs xs → keyOks xs = true → RpAll K H vs xs
  | [], _, h, _ => by cases h; exact .nil
  | d :: ds, _, h, k => by
    rw [keyOks, Bool.and_eq_true] at k
    cases h with
    | cons h1 h2 => exact .cons (rp_of_key d _ h1 k.1) (rps_of_key ds _ h2 k.2)
end
omit [Tbl] in
theorem Rp.key {d : D} {v : V} (r : Rp K H v d) (h : keyT d) : Dp K H v d := r.dp _ _ (key_noDict d h.1)
omit [Tbl] in
theorem val_sv {es : List (V × Int × V)} {kvs : List (D × D)} (h : Paired (EntR K H) es kvs) {k d : D} (e : valD kvs k = some d) : ∃ y, svV d = some y := by
  induction h with
  | nil => cases e
  | @cons a b as bs g t ih =>
    unfold valD at e
    split at e
    · cases e; exact ⟨_, g.2.2⟩
    · exact ih e
end
def dOf (Γ : Ga) (i : Nat) : Option (List (D × D)) := match Γ[i]? with
  | some (.own (.o _ (.dct kvs)) _) => some kvs
  | some (.d (.dict (kv :: kvs))) => some (kv :: kvs)
  | _ => none
def dctAt (Γ : Ga) (i : Nat) : Option (Bool × List (D × D)) := match Γ[i]? with
  | some (.own (.o io (.dct kvs)) _) => some (io, kvs)
  | _ => none
omit [Tbl] in
theorem dctAt_eq {Γ : Ga} {i : Nat} {io : Bool} {kvs : List (D × D)} (h : dctAt Γ i = some (io, kvs)) : ∃ ys, Γ[i]? = some (.own (.o io (.dct kvs)) ys) := by
  unfold dctAt at h
  split at h
  · rename_i a b c e; cases h; exact ⟨_, e⟩
  · cases h
section
variable {K : PySem.W.Frag} {B : Bg} {σ : L2.St} {Γ : Ga} {H0 H : Hp}
theorem dOf_has (ok : EnvOk K B σ Γ H0 H) {i : Nat} {kvs : List (D × D)} (h : dOf Γ i = some kvs) : ∃ a es, σ[i]? = some (some (.ref a)) ∧ Rd H a (DctO a es) ∧ DOk K H0 a es kvs := by
  unfold dOf at h
  split at h
  · rename_i io kv ys e
    cases h
    obtain ⟨a, o, e1, e2, e3, e4, _⟩ := ok.own i _ _ e
    obtain ⟨es, rfl, q⟩ := e4
    exact ⟨a, es, e1, .inl e3, q⟩
  · rename_i kv kvs' e
    cases h
    obtain ⟨v, e1, r⟩ := ok.dat i _ e
    cases r with
    | dctF h1 h2 => exact ⟨_, _, e1, .inr ⟨_, ok.sub _ _ h1⟩, h2⟩
  · cases h
theorem Grow.ownD {i : Nat} {b : Ow} {xs : List D} {a : Addr} {o : HO} {es : List (V × Int × V)} (h : Γ[i]? = some (.own b xs)) (e : σ[i]? = some (some (.ref a))) (hd : H a = some (DctO a es)) : Grow (OwnOf σ Γ) H0 H H0 (upd H a o) :=
  ⟨Ex.refl _, fun p u q n _ => by rw [upd_ne fun z => n ⟨i, b, xs, h, by rw [← z] at e; exact e⟩]; exact q, fun _ _ _ => rfl, fun p q => upd_live q, tabs_dct hd, fun q => q⟩
theorem EnvOk.setObj (ok : EnvOk K B σ Γ H0 H) {i : Nat} {io : Bool} {t u : OT} {xs ys : List D} {a : Addr} {o : HO} {es : List (V × Int × V)} (h : Γ[i]? = some (.own (.o io t) xs)) (e : σ[i]? = some (some (.ref a))) (hd : H a = some (DctO a es)) (r : OTR K H0 a o u) :
    EnvOk K B σ (Γ.set i (.own (.o io u) ys)) H0 (upd H a o) := by
  obtain ⟨a', o', q1, q2, q3, q4, q5, q6⟩ := ok.own i _ xs h
  rw [e] at q1; cases q1
  exact {
    sub := ok.sub.mut q2
    len := by simp [ok.len]
    dat := fun j x hj => by
      rcases set_back hj with ⟨_, z, _⟩ | ⟨_, z⟩
      · cases z
      · exact ok.dat j x z
    scr := fun j x hj => by
      rcases set_back hj with ⟨_, z, _⟩ | ⟨_, z⟩
      · cases z
      · exact ok.scr j x z
    own := fun j c zs hj => by
      rcases set_back hj with ⟨z1, z, _⟩ | ⟨z1, z⟩
      · cases z; subst z1
        exact ⟨a, o, e, q2, upd_same, r, q5, q6⟩
      · obtain ⟨p', us, p1, p2, p3, p4, p5⟩ := ok.own j c zs z
        exact ⟨p', us, p1, p2, by rw [upd_ne fun y => ok.apart j i c (.o io t) zs xs p' z1 z h p1 (by rw [e, y])]; exact p3, p4, p5⟩
    apart := fun j k b c ws zs p hjk h1 h2 => by
      have back : ∀ {j : Nat} {b : Ow} {ws : List D}, (Γ.set i (.own (.o io u) ys))[j]? = some (.own b ws) → ∃ b' ws', Γ[j]? = some (.own b' ws') := fun {j b ws} hj => by
        rcases set_back hj with ⟨z1, _, _⟩ | ⟨_, z⟩
        · subst z1; exact ⟨_, _, h⟩
        · exact ⟨_, _, z⟩
      obtain ⟨b', ws', g1⟩ := back h1
      obtain ⟨c', zs', g2⟩ := back h2
      exact ok.apart j k b' c' ws' zs' p hjk g1 g2
    grow := ok.grow.trans (Grow.ownD h e hd) fun p z => ok.ioOr z
    tabs := tabs_dct hd ok.tabs
    past := ok.past
    cl := fun j hj => ok.cl j (cl_of_set (by nofun) j hj) }
theorem EnvOk.setO (ok : EnvOk K B σ Γ H0 H) {t : OT} {a : Addr} {o : HO} {ys : List D} (i : Nat) (hb : B.He a = none) (n0 : H0 a = none) (e : H a = some o) (r : OTR K H0 a o t) (no : ¬ OwnOf σ Γ a) :
    EnvOk K B (σ.set i (some (.ref a))) (Γ.set i (.own (.o false t) ys)) H0 H where
  sub := ok.sub
  len := by simp [ok.len]
  dat := fun j y h => by
    rcases set_back h with ⟨e, e2, hi⟩ | ⟨e, h⟩
    · cases e2
    · obtain ⟨w, e1, q⟩ := ok.dat j y h
      exact ⟨w, by rw [List.getElem?_set_ne (Ne.symm e)]; exact e1, q⟩
  scr := fun j y h => by
    rcases set_back h with ⟨e, e2, hi⟩ | ⟨e, h⟩
    · cases e2
    · obtain ⟨w, e1, q⟩ := ok.scr j y h
      exact ⟨w, by rw [List.getElem?_set_ne (Ne.symm e)]; exact e1, q⟩
  own := fun j b zs h => by
    rcases set_back h with ⟨z, e2, hi⟩ | ⟨z, h⟩
    · cases e2; subst z
      exact ⟨a, o, set_at (by rw [← ok.len]; exact hi), n0, e, r, (fun q => nomatch q), fun _ => hb⟩
    · obtain ⟨a, vs, e1, q⟩ := ok.own j b zs h
      exact ⟨a, vs, by rw [List.getElem?_set_ne (Ne.symm z)]; exact e1, q⟩
  apart := fun j k b c ws zs p hjk h1 h2 => by
    rcases set_back h1 with ⟨z, e2, hi⟩ | ⟨z, h1'⟩
    · cases e2; subst z
      rcases set_back h2 with ⟨z', e2, hi⟩ | ⟨z', h2'⟩
      · exact absurd z'.symm hjk
      · rw [set_at (by rw [← ok.len]; exact hi), List.getElem?_set_ne (Ne.symm z')]
        intro q q2
        cases q
        exact no ⟨k, c, zs, h2', q2⟩
    · rcases set_back h2 with ⟨z', e2, hi⟩ | ⟨z', h2'⟩
      · cases e2; subst z'
        rw [set_at (by rw [← ok.len]; exact hi), List.getElem?_set_ne (Ne.symm z)]
        intro q q2
        cases q2
        exact no ⟨j, b, ws, h1', q⟩
      · rw [List.getElem?_set_ne (Ne.symm z), List.getElem?_set_ne (Ne.symm z')]
        exact ok.apart j k b c ws zs p hjk h1' h2'
  grow := ok.grow
  tabs := ok.tabs
  past := ok.past
  cl := fun j h => by
    rcases set_back h with ⟨_, e2, _⟩ | ⟨e, h⟩
    · cases e2
    · rw [List.getElem?_set_ne (Ne.symm e)]; exact ok.cl j h
theorem EnvOk.newO (ok : EnvOk K B σ Γ H0 H) {p : Addr} {es : List (V × Int × V)} {kvs : List (D × D)} (i : Nat) (hp : H p = none) (r : DOk K H0 p es kvs) :
    EnvOk K B (σ.set i (some (.ref p))) (Γ.set i (.own (.o false (.dct kvs)) [])) H0 (upd H p (DctO p es)) :=
  (ok.same (Grow.fresh hp) (Ex.upd1 ok.sub (fresh_back ok.sub hp))).setO i (RV.he ok hp) (fresh_back ok.sub hp) upd_same ⟨es, rfl, r⟩ fun z => (ok.ownLive z).1 hp
theorem EnvOk.lockD (ok : EnvOk K B σ Γ H0 H) {i : Nat} {kv : D × D} {kvs : List (D × D)} {xs : List D} {a : Addr} {es : List (V × Int × V)} (od : Obj) (h : Γ[i]? = some (.own (.o false (.dct (kv :: kvs))) xs)) (e : σ[i]? = some (some (.ref a))) (hd : H a = some (DctO a es)) (r : DOk K H0 a es (kv :: kvs)) :
    EnvOk K B σ (Γ.set i (.d (.dict (kv :: kvs)))) (upd H0 a (.frz od (DctO a es))) (upd H a (.frz od (DctO a es))) ∧ Grow (OwnOf σ Γ) H0 H (upd H0 a (.frz od (DctO a es))) (upd H a (.frz od (DctO a es))) ∧
      Rp K (upd H0 a (.frz od (DctO a es))) (.ref a) (.dict (kv :: kvs)) := by
  obtain ⟨a', o', q1, q2, q3, q4, q5, q6⟩ := ok.own i _ xs h
  rw [e] at q1; cases q1
  have hb : B.He a = none := q6 rfl
  have ex : Ex H0 (upd H0 a (.frz od (DctO a es))) := Ex.new q2
  have rp : Rp K (upd H0 a (.frz od (DctO a es))) (.ref a) (.dict (kv :: kvs)) := .dctF upd_same (r.m ex)
  have g : ∀ O : Addr → Prop, O a → Grow O H0 H (upd H0 a (.frz od (DctO a es))) (upd H a (.frz od (DctO a es))) := fun O hO =>
    ⟨ex, fun p u q n _ => by rw [upd_ne fun z => n (by rw [z]; exact hO)]; exact q, fun p q n => upd_ne fun z => n (by rw [z]; exact hO), fun p q => upd_live q, tabs_dct hd, fun t => t.upd (by nofun)⟩
  refine ⟨?_, g _ ⟨i, _, xs, h, e⟩, rp⟩
  exact {
    sub := Ex.upd2 ok.sub
    len := by simp [ok.len]
    dat := fun j x hj => by
      rcases set_back hj with ⟨z1, z, _⟩ | ⟨_, z⟩
      · cases z; subst z1; exact ⟨_, e, rp⟩
      · obtain ⟨w, w1, w2⟩ := ok.dat j x z
        exact ⟨w, w1, w2.m ex⟩
    scr := fun j x hj => by
      rcases set_back hj with ⟨_, z, _⟩ | ⟨_, z⟩
      · cases z
      · obtain ⟨w, w1, w2⟩ := ok.scr j x z
        exact ⟨w, w1, ex_l ex w2⟩
    own := fun j c zs hj => by
      rcases set_back hj with ⟨_, z, _⟩ | ⟨z1, z⟩
      · cases z
      · obtain ⟨p', us, p1, p2, p3, p4, p5⟩ := ok.own j c zs z
        have ne : p' ≠ a := fun y => ok.apart j i c _ zs xs p' z1 z h p1 (by rw [e, y])
        exact ⟨p', us, p1, by rw [upd_ne ne]; exact p2, by rw [upd_ne ne]; exact p3, p4.m ex, p5⟩
    apart := fun j k b c ws zs p hjk h1 h2 => by
      rcases set_back h1 with ⟨_, z, _⟩ | ⟨_, h1⟩
      · cases z
      · rcases set_back h2 with ⟨_, z, _⟩ | ⟨_, h2⟩
        · cases z
        · exact ok.apart j k b c ws zs p hjk h1 h2
    grow := ok.grow.trans (g (fun p => p = a) rfl) fun p z => .inr (by rw [z]; exact hb)
    tabs := tabs_dct hd ok.tabs
    past := ok.past.upd ex (by nofun)
    cl := fun j hj => ok.cl j (cl_of_set (by nofun) j hj) }
end

def sDGet (i : Nat) (sk sx : Ga → Res (Ga × D)) : Ga → Res (Ga × D) := fun Γ => match dOf Γ i with
  | some _ => (sk Γ).bind fun p => (sx p.1).bind fun q => match dOf q.1 i with
    | some kvs => if keyB p.2 = true then .ok (q.1, (valD kvs p.2).getD q.2) else .stuck
    | none => .stuck
  | none => .stuck
def sDIdx (i : Nat) (sk : Ga → Res (Ga × D)) : Ga → Res (Ga × D) := fun Γ => match dOf Γ i with
  | some _ => (sk Γ).bind fun p => match dOf p.1 i with
    | some kvs => if keyB p.2 = true then (match valD kvs p.2 with | some d => .ok (p.1, d) | none => .stuck) else .stuck
    | none => .stuck
  | none => .stuck
def sDHas (neg : Bool) (i : Nat) (sk : Ga → Res (Ga × D)) : Ga → Res (Ga × R) := fun Γ => (sk Γ).bind fun p => match dOf p.1 i with
    | some kvs => if keyB p.2 = true then .ok (p.1, .d (.bool (Bool.xor neg (valD kvs p.2).isSome))) else .stuck
    | none => .stuck
def sDSet (i : Nat) (sk sv : Ga → Res (Ga × D)) : Ga → Res (Ga × Fl) := fun Γ => (sv Γ).bind fun p => match dctAt p.1 i with
  | some _ => (sk p.1).bind fun q => match dctAt q.1 i with
    | some (io, kvs) => if keyB q.2 = true ∧ (svV p.2).isSome = true ∧ kvs.length < sizeLine then .ok (q.1.set i (.own (.o io (.dct (putD kvs q.2 p.2))) []), .nx) else .stuck
    | none => .stuck
  | none => .stuck
def sDNew (i : Nat) : Ga → Res (Ga × Fl) := fun Γ => .ok (Γ.set i (.own (.o false (.dct [])) []), .nx)
def sDOne (i : Nat) (sk sv : Ga → Res (Ga × D)) : Ga → Res (Ga × Fl) := fun Γ => (sk Γ).bind fun p => (sv p.1).bind fun q =>
  if keyB p.2 = true ∧ (svV q.2).isSome = true then .ok (q.1.set i (.own (.o false (.dct [(p.2, q.2)])) []), .nx) else .stuck
def sNameP (i : Nat) : Ga → Res (Ga × D) := fun Γ => match Γ[i]? with
  | some (.d x) => .ok (Γ, x)
  | some (.own (.o false (.dct (kv :: kvs))) _) => .ok (Γ.set i (.d (.dict (kv :: kvs))), .dict (kv :: kvs))
  | _ => .stuck
section
variable {X : Cx} {E : XK} {e f a b o value : Expr} {pos pos' apos cpos : Pos}
theorem jd_dget {i : Nat} {sk sx : Ga → Res (Ga × D)} (hu : X.A.units + 65 < cLine) (hp : PE X o (tVar i)) (hk : JD X E e sk) (hx : JD X E f sx) (m : M2 X o "get" apos e f cpos) : JD X E (.Call (.Attribute o "get" apos) [e, f] [] cpos) (sDGet i sk sx) := by
  obtain ⟨t, p, ha⟩ := hk.ex
  obtain ⟨u, q, hb⟩ := hx.ex
  refine ⟨_, pe_g2 (by omega) hp p q m, fun B σ Γ H0 H Q ok w => ?_⟩
  unfold sDGet at w
  show ∃ v, σ[i]? = some (some v) ∧ ∃ a, v = .ref a ∧ IsDc H a ∧ t σ H fun y H2 => u σ H2 fun z H3 => ∃ kvs k, DHas X.K H3 a kvs ∧ Dp X.K H3 y k ∧ keyT k ∧ Q ((dRes kvs k).getD z) H3
  split at w
  · rename_i kvs0 hd
    obtain ⟨a, es, e1, e2, _⟩ := dOf_has ok hd
    refine ⟨_, e1, a, rfl, ⟨es, e2⟩, d_then ha wok_D ok w fun Γ1 x v H01 H1 w1 ok1 g1 l1 r1 => d_then hb wok_D ok1 w1 fun Γ2 x2 v2 H02 H2 w2 ok2 g2 l2 r2 => ?_⟩
    simp only at w2
    split at w2
    · rename_i kvs hd2
      split at w2
      · rename_i hkey
        obtain ⟨a', es', e1', e2', e3'⟩ := dOf_has ok2 hd2
        rw [e1] at e1'; cases e1'
        refine ⟨kvs, x, ⟨es', e2', e3'.m ok2.sub⟩, dp_mono (g2.ex0.trans ok2.sub) _ _ (r1.key (keyB_ok hkey)), keyB_ok hkey, w2 _ H02 H2 ok2 (Grow.refl _ _ _) (Less.refl _) ?_⟩
        cases hv : valD kvs x with
        | none => unfold dRes; rw [hv]; exact r2
        | some d =>
          obtain ⟨y, hy⟩ := val_sv e3'.ent hv
          unfold dRes
          rw [hv]
          show Rp X.K H02 ((svV d).getD v2) d
          rw [hy]
          exact rp_of_sv hy
      · exact w2.elim
    · exact w2.elim
  · exact w.elim
theorem jd_didx {i : Nat} {sk : Ga → Res (Ga × D)} (hu : X.A.units + 65 < cLine) (hp : PE X o (tVar i)) (hk : JD X E e sk) (hs : NoSl e) : JD X E (.Subscript o e pos) (sDIdx i sk) := by
  obtain ⟨t, p, ha⟩ := hk.ex
  refine ⟨_, pe_gi (by omega) hp p hs, fun B σ Γ H0 H Q ok w => ?_⟩
  unfold sDIdx at w
  show ∃ v, σ[i]? = some (some v) ∧ t σ H fun y H2 => ∃ a kvs k z, v = .ref a ∧ DHas X.K H2 a kvs ∧ Dp X.K H2 y k ∧ keyT k ∧ dRes kvs k = some z ∧ Q z H2
  split at w
  · rename_i kvs0 hd
    obtain ⟨a, es, e1, e2, _⟩ := dOf_has ok hd
    refine ⟨_, e1, d_then ha wok_D ok w fun Γ1 x v H01 H1 w1 ok1 g1 l1 r1 => ?_⟩
    simp only at w1
    split at w1
    · rename_i kvs hd2
      split at w1
      · rename_i hkey
        split at w1
        · rename_i d hv
          obtain ⟨a', es', e1', e2', e3'⟩ := dOf_has ok1 hd2
          rw [e1] at e1'; cases e1'
          obtain ⟨y, hy⟩ := val_sv e3'.ent hv
          exact ⟨a, kvs, x, y, rfl, ⟨es', e2', e3'.m ok1.sub⟩, dp_mono ok1.sub _ _ (r1.key (keyB_ok hkey)), keyB_ok hkey, by unfold dRes; rw [hv]; exact hy, w1 _ H01 H1 ok1 (Grow.refl _ _ _) (Less.refl _) (rp_of_sv hy)⟩
        · exact w1.elim
      · exact w1.elim
    · exact w1.elim
  · exact w.elim
theorem jt_dhas {i : Nat} {sk : Ga → Res (Ga × D)} (neg : Bool) {op : CmpOp} (hop : op = if neg = true then .NotIn else .In) (hu : X.A.units + 65 < cLine) (hp : PE X o (tVar i)) (hk : JD X E e sk) (hm : behindInMarks op o = false := by rfl) : JT X E (.Compare e [op] [o] pos) (sTst (sDHas neg i sk)) := by
  obtain ⟨t, p, ha⟩ := hk.ex
  have pc : PC X op e o (tHas X.K neg t (tVar i)) := by
    subst hop
    cases neg with
    | true => exact pc_hasNo (by omega) p hp
    | false => exact pc_has (by omega) p hp
  refine ⟨_, pt_cmp pc hm, fun B σ Γ H0 H Q ok w => ?_⟩
  unfold sTst sDHas at w
  show t σ H fun y H1 => ∃ v, σ[i]? = some (some v) ∧ ∃ a kvs k, v = .ref a ∧ DHas X.K H1 a kvs ∧ Dp X.K H1 y k ∧ keyT k ∧ ∃ b, V.bl (Bool.xor neg (valD kvs k).isSome) = .bl b ∧ Q b H1
  have w : TW X B E σ Γ H0 H ((sk Γ).bind fun p => ((match dOf p.1 i with
    | some kvs => if keyB p.2 = true then Res.ok (p.1, R.d (.bool (Bool.xor neg (valD kvs p.2).isSome))) else .stuck
    | none => .stuck).bind asB)) Q := by
    cases hs : sk Γ with
    | stuck => rw [hs] at w; exact w
    | exc c x => rw [hs] at w; exact w
    | ok q => rw [hs] at w; exact w
  refine d_then ha wok_T ok w fun Γ1 x v H01 H1 w1 ok1 g1 l1 r1 => ?_
  simp only at w1
  split at w1
  · rename_i kvs hd2
    split at w1
    · rename_i hkey
      obtain ⟨a', es', e1', e2', e3'⟩ := dOf_has ok1 hd2
      exact ⟨_, e1', a', kvs, x, rfl, ⟨es', e2', e3'.m ok1.sub⟩, dp_mono ok1.sub _ _ (r1.key (keyB_ok hkey)), keyB_ok hkey, _, rfl, w1 H01 H1 ok1 (Grow.refl _ _ _) (Less.refl _)⟩
    · exact w1.elim
  · exact w1.elim
theorem js_dset {i : Nat} {sk sv : Ga → Res (Ga × D)} (hu : X.A.units + 65 < cLine) (hp : PE X o (tVar i)) (hk : JD X E e sk) (hv : JD X E value sv) (hs : swapsWith value (some (.Subscript o e pos')) pos.line X.env = pure false := by rfl) :
    JS X E (.Assign [.Subscript o e pos'] value pos) (sDSet i sk sv) := by
  obtain ⟨t, p, ha⟩ := hk.ex
  obtain ⟨u, q, hb⟩ := hv.ex
  refine ⟨_, ps_putD (by omega) hp p q hs, fun B σ Γ H0 H Dn ok w => ?_⟩
  unfold sDSet at w
  show u σ H fun v H1 => ∃ x, σ[i]? = some (some x) ∧ t σ H1 fun y H3 => ∃ a H0 es kvs k d, x = .ref a ∧ Ex H0 H3 ∧ H3 a = some (DctO a es) ∧ DOk X.K H0 a es kvs ∧ Dp X.K H0 y k ∧ keyT k ∧ svV d = some v ∧ kvs.length < sizeLine ∧
    ∀ es', DOk X.K H0 a es' (putD kvs k d) → Dn.nx σ (upd H3 a (DctO a es'))
  refine d_then hb wok_S ok w fun Γ1 x v H01 H1 w1 ok1 g1 l1 r1 => ?_
  simp only at w1
  split at w1
  · rename_i c hc
    obtain ⟨io0, kvs0⟩ := c
    obtain ⟨ys0, hc⟩ := dctAt_eq hc
    obtain ⟨a, o1, c1, c2, c3, ⟨es0, c4, c5⟩, _⟩ := ok1.own i _ _ hc
    refine ⟨_, c1, d_then ha wok_S ok1 w1 fun Γ2 y yv H02 H2 w2 ok2 g2 l2 r2 => ?_⟩
    simp only at w2
    split at w2
    · rename_i io kvs hd2
      obtain ⟨ys, hd2⟩ := dctAt_eq hd2
      split at w2
      · rename_i hz
        obtain ⟨z1, z2, z3⟩ := hz
        obtain ⟨a', o', q1, q2, q3, q4, _⟩ := ok2.own i _ _ hd2
        rw [c1] at q1; cases q1
        obtain ⟨es, rfl, q5⟩ := q4
        have r1' := r1.m g2.ex0
        refine ⟨a, H02, es, kvs, y, x, rfl, ok2.sub, q3, q5, r2.key (keyB_ok z1), keyB_ok z1, r1'.sv z2, z3, fun es' ok' => ?_⟩
        exact w2 σ H02 _ (ok2.setObj hd2 c1 q3 ⟨es', rfl, ok'⟩) (Ex.refl _)
      · exact w2.elim
    · exact w2.elim
  · exact w1.elim
def sParD (i j : Nat) (s : Ga → Res (Ga × R)) : Ga → Res (Ga × Fl) := fun Γ => (s Γ).bind fun p => .ok ((p.1.set i (slotOf p.2)).set j (.own (.o false (.dct [])) []), .nx)
theorem js_parD {i j : Nat} {x y : Str} {s : Ga → Res (Ga × R)} {px py pt dpos : Pos} {kt k2 pt2} (hc : X.calm = true) (hN : X.N.Nodup) (hi : X.N[i]? = some x) (hj : X.N[j]? = some y) (hij : i ≠ j)
    (hx : X.env.scope.names.lookup x = some .local) (hy : X.env.scope.names.lookup y = some .local) (ha : JE X E a s)
    (hw : swappedStores [.Tuple [.Name x px, .Name y py] kt pt] (.Tuple [a, .Dict [] [] dpos] k2 pt2) X.env = pure (some [x, y]))
    (hs : swapsWithSole [.Tuple [.Name x px, .Name y py] kt pt] (.Tuple [a, .Dict [] [] dpos] k2 pt2) pos.line X.env = pure false := by rfl)
    (h1 : starEach (a :: [.Dict [] [] dpos]) X.env = (false, eval a X.env) :: starEach [.Dict [] [] dpos] X.env := by rfl) (h2 : starEach (.Dict [] [] dpos :: []) X.env = (false, eval (.Dict [] [] dpos) X.env) :: starEach [] X.env := by rfl) :
    JS X E (.Assign [.Tuple [.Name x px, .Name y py] kt pt] (.Tuple [a, .Dict [] [] dpos] k2 pt2) pos) (sParD i j s) := by
  obtain ⟨t, p, he⟩ := ha.ex
  refine ⟨_, ps_par hc hN hi hj hij hx hy (pa_cons p (pa_cons pe_newO pa_nil h2) h1) hw hs, fun B σ Γ H0 H Dn ok w => ?_⟩
  show t σ H fun v H1 => ∀ q, H1 q = none → (q == sysModules) = false → ∃ v' w', [v, V.ref q] = [v', w'] ∧ Dn.nx ((σ.set i (some v')).set j (some w')) (upd H1 q (DctO q []))
  refine e_then he wok_S ok w fun Γ1 r v H01 H1 w1 ok1 g1 l1 r1 => ?_
  intro q hq hn
  have o1 := setR i ok1 (r1.toB ok) fun xs a e1 e2 z => by
    subst e1 e2
    cases r1 with
    | f n _ _ _ => exact (ok.ownLive (l1.own z)).1 n
  exact ⟨v, _, rfl, w1 _ H01 _ (o1.newO j hq (dok_nil hn)) (Ex.refl _)⟩
theorem jd_nameP {i : Nat} (hp : PE X e (tVar i)) : JD X E e (sNameP i) := by
  refine ⟨fun σ H Q => ∃ v, σ[i]? = some (some v) ∧ ((Q v H) ∨ ∃ a u, v = .ref a ∧ H a = some u ∧ Mut (some u) ∧ ∀ od, Q v (upd H a (.frz od u))), ⟨fun pins s σ H Q I h => ?_⟩, fun B σ Γ H0 H Q ok w => ?_⟩
  · obtain ⟨v, e1, h⟩ := h
    refine thn (hp.run pins s σ H (fun x H1 => x = v ∧ H1 = H) I ⟨v, e1, rfl, rfl⟩) fun u s1 ⟨x, H1, I1, rv, ex, eH⟩ => ?_
    subst ex eH
    rcases h with h | ⟨a, w, ev, ha, mu, q⟩
    · exact ⟨_, _, I1, rv, h⟩
    · obtain ⟨od, I2⟩ := I1.lock ha mu
      exact ⟨_, _, I2, rv, q od⟩
  · unfold sNameP at w
    split at w
    · rename_i x hx
      obtain ⟨v, e1, r⟩ := ok.dat i x hx
      exact ⟨v, e1, .inl (w _ H0 H ok (Grow.refl _ _ _) (Less.refl _) r)⟩
    · rename_i kv kvs xs hx
      obtain ⟨a, o, e1, e2, e3, ⟨es, rfl, r⟩, _⟩ := ok.own i _ _ hx
      refine ⟨_, e1, .inr ⟨a, _, rfl, e3, True.intro, fun od => ?_⟩⟩
      obtain ⟨ok', g, rp⟩ := ok.lockD od hx e1 e3 r
      refine w _ _ _ ok' g (fun j b ys hj => ?_) rp
      rcases set_back hj with ⟨_, z, _⟩ | ⟨_, z⟩
      · cases z
      · exact ⟨_, z⟩
    · exact w.elim
end
end Mi
namespace Mi
open PySem PySem.Spec PyProof.Rows L2 Evl
def ItD (a : Addr) (o : Obj) (es : List (V × Int × V)) : It :=
  ⟨fun i H => H a = some (.frz o (DctO a es)) ∧ i < es.length, fun i H x H' => ∃ T e, es[i]? = some e ∧ x = .ref T ∧ H T = none ∧ H' = upd H T (.tup [e.1, e.2.2]), fun i H => H a = some (.frz o (DctO a es)) ∧ es.length ≤ i⟩
theorem paired_at {α β : Type} {R : α → β → Prop} : ∀ {xs : List α} {ys : List β} {i : Nat} {x : α}, Paired R xs ys → xs[i]? = some x → ∃ y, ys[i]? = some y ∧ R x y
  | _, _, i, x, .nil, e => by simp at e
  | _, _, 0, x, .cons h t, e => by simp at e; subst e; exact ⟨_, rfl, h⟩
  | _, _, i + 1, x, .cons h t, e => by
    obtain ⟨y, e1, r⟩ := paired_at (i := i) t (by simpa using e)
    exact ⟨y, by simpa using e1, r⟩
section
variable {X : Cx} {pins : List (Addr × Obj)} {σ : L2.St} {H : Hp} {s : Shared} {a : Addr} {o : Obj} {es : List (V × Int × V)}
theorem frz_raw (I : Inv X pins σ H s) (h : H a = some (.frz o (DctO a es))) : s.heap.get? a = some o ∧ o.ExactDict ∧ ∃ ds ep, o.data = .dict ds ep ∧ s.heap.DictRaw a ds ep ∧ ds.size = es.length ∧
    Paired (fun (e : V × Int × V) (d : DictEntry) => RelV e.1 d.key ∧ d.hash = e.2.1 ∧ RelV e.2.2 d.val) es ds.toList := by
  obtain ⟨g, ⟨ob, ds, ep, h1, h2, h3, h4⟩, _, _⟩ := I.hok a _ h
  rw [g] at h1
  cases h1
  refine ⟨g, h2, ds, ep, h3, ⟨o, g, h2, h3⟩, ?_, h4⟩
  have := Paired.length h4
  rw [Array.length_toList] at this
  exact this.symm
end
section
variable {P : Program} {w : World} {K : PySem.W.Frag} {a : Addr} {o : Obj} {ds : Array DictEntry} {ep : Nat} {es : List (V × Int × V)}
theorem turn_entries {elts : List Expr} {kk : Nat} {tpos : Pos} (it : Addr) (hod : o.data = .dict ds ep) : Turn P w K (.Tuple elts kk tpos) (ItD a o es) [it] it (fun i h => ∃ kx vx, IsItemIter h it a i es.length ep kx vx) where
  mem := List.mem_singleton.mpr rfl
  obj := fun i h st b hb => by
    obtain rfl : b = it := List.mem_singleton.mp hb
    obtain ⟨kx, vx, q⟩ := st
    exact ⟨_, q, fun v z => nomatch z⟩
  keep := fun i h h' st k => by
    obtain ⟨kx, vx, q⟩ := st
    exact ⟨kx, vx, k it (List.mem_singleton.mpr rfl) _ q⟩
  item := by
    intro X hP hw hK hcalm i pins s σ H E I hf st hg
    subst hP hw hK
    obtain ⟨hfr, hi⟩ := hg
    obtain ⟨_, _, ds', ep', hdat, raw, hsz, pr⟩ := frz_raw I hfr
    obtain ⟨rfl, rfl⟩ := dict_ep hod hdat
    obtain ⟨e, he⟩ : ∃ e, es[i]? = some e := ⟨es[i], List.getElem?_eq_getElem hi⟩
    obtain ⟨d, hd, rk, _, rv⟩ := paired_at pr he
    have hi' : i < ds'.size := by rw [hsz]; exact hi
    have hdi : ds'[i] = d := by
      rw [Array.getElem?_toList, Array.getElem?_eq_getElem hi'] at hd
      exact Option.some.inj hd
    obtain ⟨kx, vx, hit⟩ := st
    rw [← hsz] at hit
    have hlt : it < s.heap.objs.size := Heap.lt_size hit
    refine wpAny_pyNext_items_item_raw hit raw hi' fun h1 out hT hz hkeep => ?_
    refine ⟨_, rfl, wpAny_letOwnedTupleGo_items (s := { s with heap := h1 }) out fun h2 hit2 sb => ?_⟩
    have hT2 : h2.get? s.heap.objs.size = some { cls := .type "tuple", data := .seq #[ds'[i].key, ds'[i].val] } := (sb.2 _ (Nat.ne_of_gt hlt)).trans hT
    rw [hdi] at hT2
    have laid : ObjOk X.prog X.w (upd H s.heap.objs.size (.tup [e.1, e.2.2])) h2 s.heap.objs.size (.tup [e.1, e.2.2]) :=
      ⟨by show 2 ≤ sizeLine; decide, [d.key, d.val], .cons rk (.cons rv .nil), ⟨_, hT2, rfl, _, rfl⟩⟩
    have I1 : Inv X pins σ (upd H s.heap.objs.size (.tup [e.1, e.2.2])) { s with heap := h2 } :=
      I.turnedNew (t' := s.toks) (ch := [it]) (fun b ob hb q => (sb.2 b fun z => hb (List.mem_singleton.mpr z)).trans (hkeep b ob (fun z => hb (List.mem_singleton.mpr z)) q)) hf (Nat.le_refl _) laid
    refine ⟨.ref s.heap.objs.size, _, I1, rfl, ⟨_, e, he, rfl, I.hok.fresh (Nat.le_refl _), rfl⟩, ⟨_, _, by rw [← hsz]; exact hit2⟩, fun b hb => ?_⟩
    obtain rfl : b = it := List.mem_singleton.mp hb
    rw [upd_ne (Nat.ne_of_lt hlt)]
    exact (hf b hb).1
  done := by
    intro X hP hw hK hcalm i pins s σ H E I hf st hg
    subst hP hw hK
    obtain ⟨hfr, hi⟩ := hg
    obtain ⟨_, _, ds', ep', hdat, raw, hsz, pr⟩ := frz_raw I hfr
    obtain ⟨rfl, rfl⟩ := dict_ep hod hdat
    obtain ⟨kx, vx, hit⟩ := st
    rw [← hsz] at hit
    obtain ⟨f0, f1, f2, f3, f4, f5⟩ := hf it (List.mem_singleton.mpr rfl)
    exact wpAny_pyNext_items_end_raw (I.ok.hd hcalm) hit raw (by rw [hsz]; exact hi) fun h1 eb => ⟨rfl, I.turned (t' := s.toks) (fun b ob hb q => eb b ob hb q) f0 f1 f3 f4 f5⟩
  self := fun A i s Q E st h => by
    obtain ⟨kx, vx, q⟩ := st
    exact PySem.W.kcp_self q h
end
def iEnt (td : TE) : TI := fun σ H R => td σ H fun x H1 => ∃ a o es, x = .ref a ∧ H1 a = some (.frz o (DctO a es)) ∧ (a == sysModules) = false ∧ R (ItD a o es) H1
section
variable {X : Cx} {e : Expr} {td : TE} {apos cpos : Pos}
theorem pi_entries {elts : List Expr} {kk : Nat} {tpos : Pos} (he : PE X e td) (hbase : attributeBase e "items" X.env (eval e X.env) = eval e X.env := by rfl) (hline : (apos.endLine == cpos.line) = true := by rfl) :
    PI X (.Tuple elts kk tpos) (.Call (.Attribute e "items" apos) [] [] cpos) (iEnt td) := by
  refine ⟨fun pins s σ H R I h => ?_⟩
  refine wpAny_Call_method (T := "dict") (id := "dict.items") hbase rfl hline F.plainAttrs_dict F.slot_dict_items F.type_dict_items (thn (he.run pins s σ H _ I h) fun u s1 ⟨x, H1, I1, rx, a, o, es, ex, hfr, hs, q⟩ => ?_)
  subst ex
  cases (show u = Value.ref a from rx)
  obtain ⟨g, hx, ds, ep, hdat, raw, hsz, pr⟩ := frz_raw I1 hfr
  refine ⟨raw.typeIs, fun b z => by cases z; exact ⟨o, g, hx.2.1⟩, ?_⟩
  have I2 : Inv X pins σ H1 { s1 with heap := s1.heap.push { cls := .type "dict_items", data := .fields #[.ref a] } } := I1.kept (t' := s1.toks) fun b ob z => Heap.get?_push_of_some _ z
  have raw2 : (s1.heap.push { cls := .type "dict_items", data := .fields #[.ref a] }).DictRaw a ds ep := raw.at fun ob z => Heap.get?_push_of_some _ z
  have fin : wpAny (model X.prog X.w) X.A (pyIter (.ref s1.heap.objs.size)) (PIE X pins σ (.Tuple elts kk tpos) R) X.xe { s1 with heap := s1.heap.push { cls := .type "dict_items", data := .fields #[.ref a] } } := by
    refine wpAny_pyIter_items_raw ⟨_, Heap.get?_push_size _ rfl, rfl, rfl⟩ raw2 (pi_one (tk := s1.toks) I2 _ (turn_entries _ hdat) ⟨.none, .none, ?_⟩ q)
    rw [← hsz]
    exact Heap.get?_push_size _ rfl
  show wpAny _ _ (callWith cpos (.builtin "dict.items") [.ref a] [] []) _ X.xe s1
  exact method_meetsIn F.slot_dict_items F.entry_dict_items rfl (PySem.evalArgs_none ⟨rfl, raw.typeIs, F.args_dict_items_1 _, _, meets_dict_items_raw a hs, ⟨ds, ep, raw⟩, fin⟩)
end
section
variable [Tbl] {K : PySem.W.Frag}
def pairsD (kvs : List (D × D)) : List D := kvs.map fun kv => .tuple [kv.1, kv.2]
theorem itok_entries {a : Addr} {o : Obj} {es : List (V × Int × V)} {kvs : List (D × D)} {H0 : Hp} (h : H0 a = some (.frz o (DctO a es))) (r : DOk K H0 a es kvs) : ItOk K (ItD a o es) (pairsD kvs) H0 := by
  have hl : es.length = kvs.length := Paired.length r.ent
  have hl2 : (pairsD kvs).length = es.length := by rw [pairsD, List.length_map, hl]
  refine ⟨fun i H0i Hi e1 e2 hi => ⟨e2 _ _ (e1 _ _ h), by rw [← hl2]; exact hi⟩, fun i H0i Hi e1 e2 hi => ⟨e2 _ _ (e1 _ _ h), by rw [← hl2]; exact hi⟩, fun i x H0i Hi v H' e1 e2 hx y => ?_⟩
  obtain ⟨T, e, he, rfl, hT, rfl⟩ := y
  obtain ⟨kv, hkv, g1, g2, g3⟩ := paired_at r.ent he
  have ex : x = .tuple [kv.1, kv.2] := by
    rw [pairsD, List.getElem?_map, hkv] at hx
    exact (Option.some.inj hx).symm
  subst ex
  have kt := r.ok.key kv (List.mem_of_getElem? hkv)
  exact new_tup hT e2 (.cons (rp_of_key _ _ (dp_mono e1 _ _ g1) kt.1) (.one (rp_of_sv g3)))
def sItems (i : Nat) : Ga → Res (Ga × List D) := fun Γ => (sNameP i Γ).bind fun p => match p.2 with
  | .dict (kv :: kvs) => .ok (p.1, pairsD (kv :: kvs))
  | _ => .stuck
variable {X : Cx} {E : XK} {e : Expr} {apos cpos : Pos}
theorem ji_items {i : Nat} {elts : List Expr} {kk : Nat} {tpos : Pos} (hp : PE X e (tVar i)) (hbase : attributeBase e "items" X.env (eval e X.env) = eval e X.env := by rfl) (hline : (apos.endLine == cpos.line) = true := by rfl) :
    JI X E (.Tuple elts kk tpos) (.Call (.Attribute e "items" apos) [] [] cpos) (sItems i) := by
  obtain ⟨t, p, ha⟩ := (jd_nameP (E := E) hp).ex
  refine ⟨_, pi_entries p hbase hline, fun B σ Γ H0 H R ok w => ?_⟩
  have w : IW X B E σ Γ H0 H (sItems i Γ) R := w
  unfold sItems at w
  show t σ H fun x H1 => ∃ a o es, x = .ref a ∧ H1 a = some (.frz o (DctO a es)) ∧ (a == sysModules) = false ∧ R (ItD a o es) H1
  refine d_then ha wok_I ok w fun Γ1 x v H01 H1 w1 ok1 g1 l1 r1 => ?_
  simp only at w1
  split at w1
  · rename_i kv kvs
    cases r1 with
    | dctF h1 h2 => exact ⟨_, _, _, rfl, ok1.sub _ _ h1, h2.ns, w1 _ H01 H1 ok1 (Grow.refl _ _ _) (Less.refl _) (itok_entries h1 h2)⟩
  · exact w1.elim
end
end Mi
namespace Mi
open PySem PySem.Spec PyProof.Rows L2 Evl
section
variable {Γ : Ga} {i j : Nat} {sk sx sv : Ga → Res (Ga × D)} {s : Ga → Res (Ga × R)}
@[simp] theorem z_dOf : dOf Γ i = match Γ[i]? with | some (.own (.o _ (.dct kvs)) _) => some kvs | some (.d (.dict (kv :: kvs))) => some (kv :: kvs) | _ => none := rfl
@[simp] theorem z_dctAt : dctAt Γ i = match Γ[i]? with | some (.own (.o io (.dct kvs)) _) => some (io, kvs) | _ => none := rfl
@[simp] theorem z_dget : sDGet i sk sx Γ = match dOf Γ i with
  | some _ => (sk Γ).bind fun p => (sx p.1).bind fun q => match dOf q.1 i with
    | some kvs => if keyB p.2 = true then .ok (q.1, (valD kvs p.2).getD q.2) else .stuck
    | none => .stuck
  | none => .stuck := rfl
@[simp] theorem z_didx : sDIdx i sk Γ = match dOf Γ i with
  | some _ => (sk Γ).bind fun p => match dOf p.1 i with
    | some kvs => if keyB p.2 = true then (match valD kvs p.2 with | some d => .ok (p.1, d) | none => .stuck) else .stuck
    | none => .stuck
  | none => .stuck := rfl
@[simp] theorem z_dhas {neg : Bool} : sDHas neg i sk Γ = (sk Γ).bind fun p => match dOf p.1 i with
    | some kvs => if keyB p.2 = true then .ok (p.1, .d (.bool (Bool.xor neg (valD kvs p.2).isSome))) else .stuck
    | none => .stuck := rfl
@[simp] theorem z_dset : sDSet i sk sv Γ = (sv Γ).bind fun p => match dctAt p.1 i with
  | some _ => (sk p.1).bind fun q => match dctAt q.1 i with
    | some (io, kvs) => if keyB q.2 = true ∧ (svV p.2).isSome = true ∧ kvs.length < sizeLine then .ok (q.1.set i (.own (.o io (.dct (putD kvs q.2 p.2))) []), .nx) else .stuck
    | none => .stuck
  | none => .stuck := rfl
@[simp] theorem z_dnew : sDNew i Γ = .ok (Γ.set i (.own (.o false (.dct [])) []), .nx) := rfl
@[simp] theorem z_done : sDOne i sk sv Γ = (sk Γ).bind fun p => (sv p.1).bind fun q =>
  if keyB p.2 = true ∧ (svV q.2).isSome = true then .ok (q.1.set i (.own (.o false (.dct [(p.2, q.2)])) []), .nx) else .stuck := rfl
@[simp] theorem z_nameP : sNameP i Γ = match Γ[i]? with
  | some (.d x) => .ok (Γ, x)
  | some (.own (.o false (.dct (kv :: kvs))) _) => .ok (Γ.set i (.d (.dict (kv :: kvs))), .dict (kv :: kvs))
  | _ => .stuck := rfl
@[simp] theorem z_items : sItems i Γ = (sNameP i Γ).bind fun p => match p.2 with
  | .dict (kv :: kvs) => .ok (p.1, pairsD (kv :: kvs))
  | _ => .stuck := rfl
@[simp] theorem z_parD : sParD i j s Γ = (s Γ).bind fun p => .ok ((p.1.set i (slotOf p.2)).set j (.own (.o false (.dct [])) []), .nx) := rfl
end
end Mi
namespace Mi
open PySem PySem.Spec PyProof.Rows L2 Evl
variable [Tbl]
def callFr (m : Ga → Res (Ga × R)) (s : Ga → Res (Ga × R)) : Ga → Res (Ga × R) := fun Γ => (s Γ).bind fun p => match p.2 with
  | .f xs => (m [.own true xs]).bind fun q => .ok (p.1, q.2)
  | _ => .stuck
omit [Tbl] in
@[simp] theorem z_callFr {m : Ga → Res (Ga × R)} {s : Ga → Res (Ga × R)} {Γ : Ga} : callFr m s Γ = (s Γ).bind fun p => match p.2 with
  | .f xs => (m [.own true xs]).bind fun q => .ok (p.1, q.2)
  | _ => .stuck := rfl
section
variable {X : Cx} {E : XK} {m : Ga → Res (Ga × R)} {s : Ga → Res (Ga × R)}
variable {k j : Nat} {ps : List Str} {x : Str} {p pos : Pos} {e : Expr}
end
end Mi
namespace Mi
open PySem PySem.Spec PyProof.Rows L2 Evl
def onceG : D → D → Res R
  | .tuple (x :: xs), .int k => if k = 0 then .ok (.d (.tuple [])) else if k = 1 then .ok (.d (.tuple (x :: xs))) else .stuck
  | _, _ => .stuck
@[simp] theorem z_once {x : D} {xs : List D} {k : Int} : onceG (.tuple (x :: xs)) (.int k) = if k = 0 then .ok (.d (.tuple [])) else if k = 1 then .ok (.d (.tuple (x :: xs))) else .stuck := rfl
end Mi
namespace Pg
open PySem PySem.Spec PyProof.Rows L2 Evl Mi
noncomputable def b_is_integer : Ga → Res (Ga × Fl) :=
 (sRet (sVal (sAnd (sTst (sUn (isiG "int") (sName 0))) (sTst (sVal (sNot (sTst (sUn (isiG "bool") (sName 0)))))))))
noncomputable def m_is_integer : Ga → Res (Ga × R) := defS 1 0 b_is_integer
noncomputable def b_is_count : Ga → Res (Ga × Fl) :=
 (sRet (sVal (sAnd (sTst (callS m_is_integer [none] (sCons (sName 0) sNil))) (sTst (sBin geG (sName 0) (sC (.int 1)))))))
noncomputable def m_is_count : Ga → Res (Ga × R) := defS 1 0 b_is_count
noncomputable def b_is_run : Ga → Res (Ga × Fl) :=
 (sRet (sVal (sAnd (sTst (sUn (isiG "tuple") (sName 0))) (sAnd (sTst (sBin eqS (sPub (sUn lenG (sName 0))) (sC (.int 2)))) (sAnd (sTst (callS m_is_integer [none] (sCons (sPub (sBin ixG (sName 0) (sC (.int 0)))) sNil))) (sTst (callS m_is_count [none] (sCons (sPub (sBin ixG (sName 0) (sC (.int 1)))) sNil))))))))
noncomputable def m_is_run : Ga → Res (Ga × R) := defS 1 0 b_is_run
noncomputable def l1_is_stack : Ga → Res (Ga × R) := sLc (sIt iterA (sName 0)) (gN 1) sYes (sPub (callS m_is_run [none] (sCons (sName 1) sNil))) [1]
noncomputable def l2_is_stack : Ga → Res (Ga × R) := sLc (sItA (zipSL false) (sCons (sName 0) (sCons (sPub (sSl (sName 0) (sSomeO (sC (.int 1))) sNoO)) sNil))) (gTup' (gCons' (gN 2) (gCons' (gN 3) gNil')) 2) sYes (sPub (sBin gtG (sPub (sBin ixG (sName 2) (sC (.int 0)))) (sPub (sBin ixG (sName 3) (sC (.int 0)))))) [2, 3]
noncomputable def b_is_stack : Ga → Res (Ga × Fl) :=
 (sSeq (sCond (sOr (sNot (sTst (sUn (isiG "tuple") (sName 0)))) (sNot (sTst (sUn allG (sPub l1_is_stack)))))
 (sRet (sDat (sC (.bool false))))
 sSkip)
 (sRet (sUn allG (sPub l2_is_stack))))
noncomputable def m_is_stack : Ga → Res (Ga × R) := defS 1 3 b_is_stack
noncomputable def b__law_pool_k01 : Ga → Res (Ga × Fl) :=
 (sSeq (sSet 2 (sDat (sC (.int 0))))
 (sSeq (sCond (sTst (sBin ltG (sName 1) (sPub (sLenScr 0))))
 (sSet 2 (sIxScr 0 (sName 1)))
 sSkip)
 (sSeq (sSet 3 (sUn absG (sName 2)))
 (sSeq (sSet 4 (sBin modG (sPub (sBin mulG (sPub (sBin addG (sPub (sBin modG (sName 2) (sC (.int 2147483629)))) (sPub (sBin mulG (sC (.int 104729)) (sPub (sBin addG (sName 1) (sC (.int 1)))))))) (sPub (sBin addG (sName 1) (sC (.int 7)))))) (sC (.int 2147483629))))
 (sSeq (sSet 5 (sBin modG (sPub (sBin mulG (sPub (sBin modG (sPub (sBin mulG (sName 4) (sName 4))) (sC (.int 2147483629)))) (sC (.int 48271)))) (sC (.int 2147483647))))
 (sRet (sLst (sCons (sPub (sBin mulG (sName 3) (sPub (sUn intG (sPub (sBin geG (sName 3) (sPub (sBin powG (sC (.int 10)) (sC (.int 18)))))))))) (sCons (sName 5) sNil)))))))))
noncomputable def m__law_pool_k01 : Ga → Res (Ga × R) := defS 2 4 b__law_pool_k01
noncomputable def b__law_take : Ga → Res (Ga × Fl) :=
 (sSeq (sCond (sTst (sBin gtG (sPub (sBinN ixG 0 (sC (.int 0)))) (sC (.int 0))))
 (sSeq (sSet 2 (sBin modG (sPub (sBinN ixG 0 (sC (.int 0)))) (sName 1)))
 (sSeq (sPut 0 (sC (.int 0)) (sPub (sBin fdivG (sPub (sBinN ixG 0 (sC (.int 0)))) (sName 1))))
 (sRetN 2)))
 sSkip)
 (sSeq (sPut 0 (sC (.int 1)) (sPub (sBin modG (sPub (sBin addG (sPub (sBin mulG (sPub (sBinN ixG 0 (sC (.int 1)))) (sC (.int 48271)))) (sC (.int 12345)))) (sC (.int 2147483647)))))
 (sRet (sBin modG (sPub (sBin fdivG (sPub (sBin modG (sPub (sBin mulG (sPub (sBinN ixG 0 (sC (.int 1)))) (sPub (sBinN ixG 0 (sC (.int 1)))))) (sC (.int 2147483629)))) (sC (.int 64)))) (sName 1)))))
noncomputable def m__law_take : Ga → Res (Ga × R) := defS 2 1 b__law_take
noncomputable def l1b__law_runs : Ga → Res (Ga × Fl) :=
 (sCond (sAnd (sTst (sBinN neS 1 (sPub (sLst sNil)))) (sTst (sBin eqS (sPub (sBin ixG (sPub (sBinN ixG 1 (sPub (sUn negG (sC (.int 1)))))) (sC (.int 0)))) (sName 2))))
 (sPut 1 (sPub (sUn negG (sC (.int 1)))) (sPub (sTup (sCons (sName 2) (sCons (sPub (sBin addG (sPub (sBin ixG (sPub (sBinN ixG 1 (sPub (sUn negG (sC (.int 1)))))) (sC (.int 1)))) (sC (.int 1)))) sNil)))))
 (sDrop (sAppend 1 (sPub (sTup (sCons (sName 2) (sCons (sC (.int 1)) sNil)))))))
noncomputable def l1__law_runs : Ga → Res (Ga × Fl) := sFor (sIt iterA (sName 0)) (gN 2) l1b__law_runs
noncomputable def b__law_runs : Ga → Res (Ga × Fl) :=
 (sSeq (sSet 1 (sLst sNil))
 (sSeq l1__law_runs
 (sRet (sUn tupleG (sBor 1)))))
noncomputable def m__law_runs : Ga → Res (Ga × R) := defS 1 2 b__law_runs
noncomputable def l1_length_of : Ga → Res (Ga × R) := sLc (sIt iterA (sName 0)) (gN 1) sYes (sPub (sBin ixG (sName 1) (sPub (sUn negG (sC (.int 1)))))) [1]
noncomputable def b_length_of : Ga → Res (Ga × Fl) :=
 (sRet (sUn sumG (sPub l1_length_of)))
noncomputable def m_length_of : Ga → Res (Ga × R) := defS 1 1 b_length_of
noncomputable def b_is_pair : Ga → Res (Ga × Fl) :=
 (sSeq (sCond (sOr (sNot (sTst (sUn (isiG "tuple") (sName 0)))) (sTst (sBin neS (sPub (sUn lenG (sName 0))) (sC (.int 2)))))
 (sRet (sDat (sC (.bool false))))
 sSkip)
 (sRet (sVal (sAnd (sTst (callS m_is_integer [none] (sCons (sPub (sBin ixG (sName 0) (sC (.int 0)))) sNil))) (sAnd (sTst (callS m_is_integer [none] (sCons (sPub (sBin ixG (sName 0) (sC (.int 1)))) sNil))) (sTst (sBin geG (sPub (sBin ixG (sName 0) (sC (.int 1)))) (sC (.int 0)))))))))
noncomputable def m_is_pair : Ga → Res (Ga × R) := defS 1 0 b_is_pair
noncomputable def l1_are_pairs : Ga → Res (Ga × R) := sLc (sIt iterA (sName 0)) (gN 2) sYes (sPub (callS m_is_pair [none] (sCons (sName 2) sNil))) [2]
noncomputable def l2_are_pairs : Ga → Res (Ga × R) := sLc (sIt iterA (sName 1)) (gTup' (gCons' (gN 3) (gCons' (gN 4) gNil')) 2) sYes (sPub (sVal (sAnd (sTst (sBin ltG (sPub (sBin ixG (sName 3) (sC (.int 0)))) (sPub (sBin ixG (sName 4) (sC (.int 0)))))) (sTst (sBin gtG (sPub (sBin ixG (sName 3) (sC (.int 1)))) (sPub (sBin ixG (sName 4) (sC (.int 1))))))))) [3, 4]
noncomputable def b_are_pairs : Ga → Res (Ga × Fl) :=
 (sSeq (sCond (sOr (sNot (sTst (sUn (isiG "tuple") (sName 0)))) (sNot (sTst (sUn allG (sPub l1_are_pairs)))))
 (sRet (sDat (sC (.bool false))))
 sSkip)
 (sSeq (sSet 1 (sCallB listZipG (sCons (sName 0) (sCons (sPub (sSl (sName 0) (sSomeO (sC (.int 1))) sNoO)) sNil))))
 (sRet (sUn allG (sPub l2_are_pairs)))))
noncomputable def m_are_pairs : Ga → Res (Ga × R) := defS 1 4 b_are_pairs
noncomputable def b_is_effect : Ga → Res (Ga × Fl) :=
 (sSeq (sCond (sOr (sNot (sTst (sUn (isiG "tuple") (sName 0)))) (sTst (sBin neS (sPub (sUn lenG (sName 0))) (sC (.int 3)))))
 (sRet (sDat (sC (.bool false))))
 sSkip)
 (sSeq (sAsg (gTup' (gCons' (gN 1) (gCons' (gN 2) (gCons' (gN 3) gNil'))) 3) (sName 0))
 (sSeq (sCond (sOr (sNot (sTst (callS m_are_pairs [none] (sCons (sName 1) sNil)))) (sOr (sNot (sTst (callS m_is_integer [none] (sCons (sName 2) sNil)))) (sOr (sTst (sBin ltG (sName 2) (sC (.int 0)))) (sNot (sTst (callS m_is_stack [none] (sCons (sName 3) sNil)))))))
 (sRet (sDat (sC (.bool false))))
 sSkip)
 (sSeq (sCond (sTst (sBin eqS (sName 1) (sPub (sTup sNil))))
 (sRet (sBin eqS (sName 3) (sPub (sTup sNil))))
 sSkip)
 (sRet (sVal (sAnd (sTst (sBin leG (sPub (sBin ixG (sPub (sBin ixG (sName 1) (sC (.int 0)))) (sC (.int 1)))) (sName 2))) (sTst (sVal (sOr (sTst (sBin eqS (sName 3) (sPub (sTup sNil)))) (sTst (sBin leG (sPub (sBin ixG (sPub (sBin ixG (sName 3) (sC (.int 0)))) (sC (.int 0)))) (sPub (sBin ixG (sPub (sBin ixG (sName 1) (sPub (sUn negG (sC (.int 1)))))) (sC (.int 0))))))))))))))))
noncomputable def m_is_effect : Ga → Res (Ga × R) := defS 1 3 b_is_effect
noncomputable def l1c__law_effect_k06 : Ga → Res (Ga × Bool) :=
 (sAnd (sTst (sBinN neS 1 (sPub (sLst sNil)))) (sTst (sBin ltG (sPub (sBinN ixG 1 (sPub (sUn negG (sC (.int 1)))))) (sPub (sBin ixG (sName 4) (sC (.int 1)))))))
noncomputable def l1b__law_effect_k06 : Ga → Res (Ga × Fl) :=
 (sDrop (sDat (sPop 1)))
noncomputable def l1__law_effect_k06 : Ga → Res (Ga × Fl) := sWhile l1c__law_effect_k06 l1b__law_effect_k06
noncomputable def l2b__law_effect_k06 : Ga → Res (Ga × Fl) :=
 (sCond (sTst (sBin eqS (sPub (sBin ixG (sName 4) (sC (.int 0)))) (sC (.str ("push" : Str)))))
 (sSeq l1__law_effect_k06
 (sSeq (sCond (sTst (sBinN eqS 1 (sPub (sLst sNil))))
 (sDrop (sAppend 2 (sPub (sTup (sCons (sPub (sBin ixG (sName 4) (sC (.int 1)))) (sCons (sName 3) sNil))))))
 sSkip)
 (sDrop (sAppend 1 (sPub (sBin ixG (sName 4) (sC (.int 1))))))))
 (sCond (sTst (sBinN neS 1 (sPub (sLst sNil))))
 (sDrop (sDat (sPop 1)))
 (sSet 3 (sBin addG (sName 3) (sC (.int 1))))))
noncomputable def l2__law_effect_k06 : Ga → Res (Ga × Fl) := sFor (sItA rng1 (sCons (sPub (sBin ixG (sName 4) (sPub (sUn negG (sC (.int 1)))))) sNil)) (gN 5) l2b__law_effect_k06
noncomputable def l3b__law_effect_k06 : Ga → Res (Ga × Fl) :=
 l2__law_effect_k06
noncomputable def l3__law_effect_k06 : Ga → Res (Ga × Fl) := sFor (sIt iterA (sName 0)) (gN 4) l3b__law_effect_k06
noncomputable def l4__law_effect_k06 : Ga → Res (Ga × R) := sLc (sIt iterA (sName 2)) (gTup' (gCons' (gN 9) (gCons' (gN 10) gNil')) 2) sYes (sPub (sTup (sCons (sName 9) (sCons (sPub (sBin subG (sName 3) (sName 10))) sNil)))) [9, 10]
noncomputable def l5b__law_effect_k06 : Ga → Res (Ga × Fl) :=
 (sCond (sOr (sTst (sBinN eqS 6 (sPub (sLst sNil)))) (sTst (sBin gtG (sName 8) (sPub (sBin ixG (sPub (sBinN ixG 6 (sPub (sUn negG (sC (.int 1)))))) (sC (.int 1)))))))
 (sDrop (sAppend 6 (sPub (sTup (sCons (sName 7) (sCons (sName 8) sNil))))))
 sSkip)
noncomputable def l5__law_effect_k06 : Ga → Res (Ga × Fl) := sFor (sIt iterA (sPub (sRev (sPub (sUn sortedA (sPub l4__law_effect_k06)))))) (gTup' (gCons' (gN 7) (gCons' (gN 8) gNil')) 2) l5b__law_effect_k06
noncomputable def b__law_effect_k06 : Ga → Res (Ga × Fl) :=
 (sSeq (sPar3 1 2 3 (sRCons (sLst sNil) (sRCons (sLst sNil) (sRCons (sDat (sC (.int 0))) sRNil))))
 (sSeq l3__law_effect_k06
 (sSeq (sSet 6 (sLst sNil))
 (sSeq l5__law_effect_k06
 (sRet (sTup (sCons (sPub (sUn tupleG (sPub (sRev (sBor 6))))) (sCons (sName 3) (sCons (sPub (callS m__law_runs [none] (sCons (sName 1) sNil))) sNil)))))))))
noncomputable def m__law_effect_k06 : Ga → Res (Ga × R) := defS 1 10 b__law_effect_k06
noncomputable def b_check_effect : Ga → Res (Ga × Fl) :=
 (sCond (sNot (sTst (callS m_is_effect [none] (sCons (sName 0) sNil))))
 (sRaise ("InvalidEffect" : Str) (sName 0))
 sSkip)
noncomputable def m_check_effect : Ga → Res (Ga × R) := defS 1 0 b_check_effect
noncomputable def l1_shortest_of : Ga → Res (Ga × R) := sLc (sIt iterA (sPub (sSl (sName 1) (sSomeO (sC (.int 1))) sNoO))) (gTup' (gCons' (gN 7) (gCons' (gN 8) gNil')) 2) sYes (sName 8) [7, 8]
noncomputable def l2b_shortest_of : Ga → Res (Ga × Fl) :=
 (sCond (sOr (sTst (sBin eqS (sName 3) (sPub (sTup sNil)))) (sTst (sBin neS (sPub (sTup (sCons (sName 7) (sCons (sName 8) sNil)))) (sPub (sTup (sCons (sPub (sBin ixG (sPub (sBin ixG (sName 3) (sC (.int 0)))) (sC (.int 0)))) (sCons (sC (.int 0)) sNil)))))))
 (sExt 4 (sPub (sLst (sCons (sPub (sTup (sCons (sC (.str ("push" : Str))) (sCons (sName 7) (sCons (sC (.int 1)) sNil))))) (sCons (sPub (sTup (sCons (sC (.str ("pop" : Str))) (sCons (sPub (sBin subG (sPub (sBin addG (sC (.int 1)) (sName 8))) (sName 9))) sNil)))) sNil)))))
 sSkip)
noncomputable def l2_shortest_of : Ga → Res (Ga × Fl) := sFor (sItA zipML (sCons (sName 1) (sCons (sName 6) sNil))) (gTup' (gCons' (gTup' (gCons' (gN 7) (gCons' (gN 8) gNil')) 2) (gCons' (gN 9) gNil')) 2) l2b_shortest_of
noncomputable def l3_shortest_of : Ga → Res (Ga × R) := sLc (sIt iterA (sName 3)) (gTup' (gCons' (gN 10) (gCons' (gN 11) gNil')) 2) sYes (sPub (sTup (sCons (sC (.str ("push" : Str))) (sCons (sName 10) (sCons (sName 11) sNil))))) [10, 11]
noncomputable def b_shortest_of : Ga → Res (Ga × Fl) :=
 (sSeq (sAsg (gTup' (gCons' (gN 1) (gCons' (gN 2) (gCons' (gN 3) gNil'))) 3) (sName 0))
 (sSeq (sSet 4 (sLst sNil))
 (sSeq (sSet 5 (sIf (sTst (sBin neS (sName 1) (sPub (sTup sNil)))) (sBin ixG (sPub (sBin ixG (sName 1) (sC (.int 0)))) (sC (.int 1))) (sDat (sC (.int 0)))))
 (sSeq (sCond (sTst (sBin gtG (sName 2) (sName 5)))
 (sDrop (sAppend 4 (sPub (sTup (sCons (sC (.str ("pop" : Str))) (sCons (sPub (sBin subG (sName 2) (sName 5))) sNil))))))
 sSkip)
 (sSeq (sSet 6 (sBin addG (sPub l1_shortest_of) (sPub (sLst (sCons (sC (.int 0)) sNil)))))
 (sSeq l2_shortest_of
 (sRet (sBinN addG 4 (sPub l3_shortest_of)))))))))
noncomputable def m_shortest_of : Ga → Res (Ga × R) := defS 1 11 b_shortest_of
noncomputable def b_shortest : Ga → Res (Ga × Fl) :=
 (sSeq (sDrop (callS m_check_effect [none] (sCons (sName 0) sNil)))
 (sRet (callS m_shortest_of [none] (sCons (sName 0) sNil))))
noncomputable def m_shortest : Ga → Res (Ga × R) := defS 1 0 b_shortest
noncomputable def b_steps_in : Ga → Res (Ga × Fl) :=
 (sSeq (sDrop (callS m_check_effect [none] (sCons (sName 0) sNil)))
 (sRet (callS m_length_of [none] (sCons (sPub (callS m_shortest_of [none] (sCons (sName 0) sNil))) sNil))))
noncomputable def m_steps_in : Ga → Res (Ga × R) := defS 1 0 b_steps_in
noncomputable def l1c__law_shuffled : Ga → Res (Ga × Bool) :=
 (sTst (sBinN neS 2 (sPub (sLst sNil))))
noncomputable def l1b__law_shuffled : Ga → Res (Ga × Fl) :=
 (sDrop (sAppend 3 (sPopAt 2 (sPub (callS m__law_take [some 0, none] (sRef 0 (sCons (sPub (sUn lenG (sBor 2))) sNil)))))))
noncomputable def l1__law_shuffled : Ga → Res (Ga × Fl) := sWhile l1c__law_shuffled l1b__law_shuffled
noncomputable def b__law_shuffled : Ga → Res (Ga × Fl) :=
 (sSeq (sSet 2 (sUn listG (sName 1)))
 (sSeq (sSet 3 (sLst sNil))
 (sSeq l1__law_shuffled
 (sRetN 3))))
noncomputable def m__law_shuffled : Ga → Res (Ga × R) := defS 2 2 b__law_shuffled
noncomputable def l1b__law_joined_k11 : Ga → Res (Ga × Fl) :=
 (sCond (sAnd (sTst (sBinN neS 1 (sPub (sLst sNil)))) (sTst (sBin eqS (sPub (sSl (sPub (sBinN ixG 1 (sPub (sUn negG (sC (.int 1)))))) sNoO (sSomeO (sPub (sUn negG (sC (.int 1))))))) (sPub (sSl (sName 2) sNoO (sSomeO (sPub (sUn negG (sC (.int 1))))))))))
 (sPut 1 (sPub (sUn negG (sC (.int 1)))) (sPub (sBin addG (sPub (sSl (sName 2) sNoO (sSomeO (sPub (sUn negG (sC (.int 1))))))) (sPub (sTup (sCons (sPub (sBin addG (sPub (sBin ixG (sPub (sBinN ixG 1 (sPub (sUn negG (sC (.int 1)))))) (sPub (sUn negG (sC (.int 1)))))) (sC (.int 1)))) sNil))))))
 (sDrop (sAppend 1 (sName 2))))
noncomputable def l1__law_joined_k11 : Ga → Res (Ga × Fl) := sFor (sIt iterA (sName 0)) (gN 2) l1b__law_joined_k11
noncomputable def b__law_joined_k11 : Ga → Res (Ga × Fl) :=
 (sSeq (sSet 1 (sLst sNil))
 (sSeq l1__law_joined_k11
 (sRetN 1)))
noncomputable def m__law_joined_k11 : Ga → Res (Ga × R) := defS 1 2 b__law_joined_k11
noncomputable def l1_law_k11 : Ga → Res (Ga × R) := sLc (sIt iterA (sName 2)) (gN 12) sYes (sPub (sTup (sCons (sC (.str ("push" : Str))) (sCons (sName 12) (sCons (sC (.int 1)) sNil))))) [12]
noncomputable def l2_law_k11 : Ga → Res (Ga × R) := sLc (sIt iterA (sName 3)) (gN 13) sYes (sPub (sBin addG (sName 9) (sPub (sLst (sCons (sName 13) sNil))))) [13]
noncomputable def l3b_law_k11 : Ga → Res (Ga × Fl) :=
 (sSeq (sSet 10 (callS m__law_effect_k06 [none] (sCons (sName 9) sNil)))
 (sCond (sTst (sDHas true 5 (sName 10)))
 (sSeq (sDSet 8 (sName 10) (sPub (sBin addG (sDGet 8 (sName 10) (sC (.int 0))) (sC (.int 1)))))
 (sSeq (sCond (sTst (sBin eqS (sDIdx 8 (sName 10)) (sC (.int 1))))
 (sCond (sOr (sTst (sBin neS (sPub (callS m_shortest [none] (sCons (sName 10) sNil))) (sPub (callS m__law_joined_k11 [none] (sCons (sName 9) sNil))))) (sTst (sBin neS (sPub (callS m_steps_in [none] (sCons (sName 10) sNil))) (sPub (sUn lenG (sName 9))))))
 (sRet (sDat (sC (.bool false))))
 sSkip)
 sSkip)
 (sSet 7 (sBin addG (sName 7) (sPub l2_law_k11)))))
 sSkip))
noncomputable def l3_law_k11 : Ga → Res (Ga × Fl) := sFor (sIt iterA (sName 4)) (gN 9) l3b_law_k11
noncomputable def l4b_law_k11 : Ga → Res (Ga × Fl) :=
 (sSeq (sCond (sTst (sBin neS (sName 11) (sC (.int 1))))
 (sRet (sDat (sC (.bool false))))
 sSkip)
 (sDSet 5 (sName 10) (sC (.bool true))))
noncomputable def l4_law_k11 : Ga → Res (Ga × Fl) := sFor (sItems 8) (gTup' (gCons' (gN 10) (gCons' (gN 11) gNil')) 2) l4b_law_k11
noncomputable def l5b_law_k11 : Ga → Res (Ga × Fl) :=
 (sSeq (sParD 7 8 (sLst sNil))
 (sSeq l3_law_k11
 (sSeq l4_law_k11
 (sSet 4 (sDat (sName 7))))))
noncomputable def l5_law_k11 : Ga → Res (Ga × Fl) := sFor (sItA rng1 (sCons (sC (.int 6)) sNil)) (gN 6) l5b_law_k11
noncomputable def b_law_k11 : Ga → Res (Ga × Fl) :=
 (sSeq (sSet 1 (callS m__law_pool_k01 [some 0, none] (sRef 0 (sCons (sC (.int 0)) sNil))))
 (sSeq (sSet 2 (sUn sortedA (sPub (sSl (sPub (callS m__law_shuffled [some 1, none] (sRef 1 (sCons (sPub (sLst (sCons (sPub (sUn negG (sC (.int 9)))) (sCons (sPub (sUn negG (sC (.int 2)))) (sCons (sC (.int 0)) (sCons (sC (.int 1)) (sCons (sC (.int 2)) (sCons (sC (.int 7)) (sCons (sPub (sBin powG (sC (.int 10)) (sC (.int 30)))) sNil))))))))) sNil)))) sNoO (sSomeO (sC (.int 3)))))))
 (sSeq (sSet 3 (sBin addG (sPub l1_law_k11) (sPub (sLst (sCons (sPub (sTup (sCons (sC (.str ("pop" : Str))) (sCons (sC (.int 1)) sNil)))) sNil)))))
 (sSeq (sParD 4 5 (sLst (sCons (sPub (sLst sNil)) sNil)))
 (sSeq l5_law_k11
 (sRet (sDat (sC (.bool true)))))))))
noncomputable def m_law_k11 : Ga → Res (Ga × R) := defS 1 13 b_law_k11
end Pg
namespace Pu
abbrev PP := Int × Int
def dom (p q : PP) : Prop := p.1 ≤ q.1 ∧ p.2 ≤ q.2
structure Top (S l : List PP) : Prop where
  chain : l.Pairwise fun p q => p.1 < q.1 ∧ q.2 < p.2
  sub : ∀ p ∈ l, p ∈ S
  dom : ∀ p ∈ S, ∃ q ∈ l, dom p q
theorem sorted_ext : ∀ {l l' : List PP}, l.Pairwise (fun p q => p.1 < q.1) → l'.Pairwise (fun p q => p.1 < q.1) → (∀ p, p ∈ l ↔ p ∈ l') → l = l'
  | [], [], _, _, _ => rfl
  | [], q :: _, _, _, h => absurd ((h q).mpr List.mem_cons_self) (fun h => nomatch h)
  | p :: _, [], _, _, h => absurd ((h p).mp List.mem_cons_self) (fun h => nomatch h)
  | p :: l, q :: l', s, s', h => by
    rw [List.pairwise_cons] at s s'
    have e : p = q := by
      rcases List.mem_cons.mp ((h p).mp List.mem_cons_self) with e | h1
      · exact e
      · rcases List.mem_cons.mp ((h q).mpr List.mem_cons_self) with e | h2
        · exact e.symm
        · have := s'.1 p h1
          have := s.1 q h2
          omega
    subst e
    rw [sorted_ext s.2 s'.2 fun r => ?_]
    constructor
    · intro hr
      rcases List.mem_cons.mp ((h r).mp (List.mem_cons_of_mem _ hr)) with e | h1
      · have := s.1 r hr; rw [e] at this; omega
      · exact h1
    · intro hr
      rcases List.mem_cons.mp ((h r).mpr (List.mem_cons_of_mem _ hr)) with e | h1
      · have := s'.1 r hr; rw [e] at this; omega
      · exact h1
theorem chain_eq : ∀ {l : List PP} {p q : PP}, l.Pairwise (fun p q => p.1 < q.1 ∧ q.2 < p.2) → p ∈ l → q ∈ l → dom p q → p = q
  | a :: l, p, q, s, hp, hq, d => by
    rw [List.pairwise_cons] at s
    rcases List.mem_cons.mp hp with e | h1
    · rcases List.mem_cons.mp hq with e' | h2
      · rw [e, e']
      · have := s.1 q h2; have := d.2; rw [e] at this; omega
    · rcases List.mem_cons.mp hq with e' | h2
      · have := s.1 p h1; have := d.1; rw [e'] at this; omega
      · exact chain_eq s.2 h1 h2 d
theorem dom.trans {p q r : PP} (a : dom p q) (b : dom q r) : dom p r := ⟨Int.le_trans a.1 b.1, Int.le_trans a.2 b.2⟩
theorem dom.refl (p : PP) : dom p p := ⟨Int.le_refl _, Int.le_refl _⟩
theorem dom.eq {p q : PP} (a : dom p q) (b : dom q p) : p = q := by
  have h1 : p.1 = q.1 := Int.le_antisymm a.1 b.1
  have h2 : p.2 = q.2 := Int.le_antisymm a.2 b.2
  exact Prod.ext h1 h2
theorem Top.le {S l l' : List PP} (a : Top S l) (b : Top S l') : ∀ p ∈ l, p ∈ l' := fun p hp => by
  obtain ⟨q, hq, d⟩ := b.dom p (a.sub p hp)
  obtain ⟨r, hr, d'⟩ := a.dom q (b.sub q hq)
  have e := chain_eq a.chain hp hr (d.trans d')
  subst e
  rw [d.eq d']; exact hq
theorem Top.unique {S l l' : List PP} (a : Top S l) (b : Top S l') : l = l' :=
  sorted_ext (a.chain.imp fun h => h.1) (b.chain.imp fun h => h.1) fun p => ⟨a.le b p, b.le a p⟩
theorem Top.join {S T l m : List PP} (a : Top S l) (b : Top (l ++ T) m) : Top (S ++ T) m where
  chain := b.chain
  sub := fun p hp => by
    rcases List.mem_append.mp (b.sub p hp) with h | h
    · exact List.mem_append_left _ (a.sub p h)
    · exact List.mem_append_right _ h
  dom := fun p hp => by
    rcases List.mem_append.mp hp with h | h
    · obtain ⟨q, hq, d⟩ := a.dom p h
      obtain ⟨r, hr, d'⟩ := b.dom q (List.mem_append_left _ hq)
      exact ⟨r, hr, d.trans d'⟩
    · exact b.dom p (List.mem_append_right _ h)
def shift (by_ : Int) (p : PP) : PP := (p.1, p.2 + by_)
theorem Top.shift {S l : List PP} (k : Int) (a : Top S l) : Top (S.map (shift k)) (l.map (shift k)) where
  chain := by
    rw [List.pairwise_map]
    exact a.chain.imp fun h => ⟨h.1, by have := h.2; simp only [Pu.shift]; omega⟩
  sub := fun p hp => by
    obtain ⟨q, hq, rfl⟩ := List.mem_map.mp hp
    exact List.mem_map_of_mem (a.sub q hq)
  dom := fun p hp => by
    obtain ⟨q, hq, rfl⟩ := List.mem_map.mp hp
    obtain ⟨r, hr, d⟩ := a.dom q hq
    exact ⟨Pu.shift k r, List.mem_map_of_mem hr, d.1, by have := d.2; simp only [Pu.shift]; omega⟩
def put (p : PP) : List PP → List PP
  | [] => [p]
  | q :: acc => if q.2 < p.2 then p :: q :: acc else q :: acc
def scan : List PP → List PP → List PP
  | acc, [] => acc
  | acc, p :: r => scan (put p acc) r
theorem scan_top : ∀ (r acc S : List PP), Top S acc → (∀ p ∈ r, ∀ q ∈ S, p.1 < q.1 ∨ (p.1 = q.1 ∧ p.2 ≤ q.2)) → r.Pairwise (fun p q => q.1 < p.1 ∨ (q.1 = p.1 ∧ q.2 ≤ p.2)) → Top (S ++ r) (scan acc r)
  | [], acc, S, h, _, _ => by simpa [scan] using h
  | p :: r, acc, S, h, hs, hp => by
    rw [List.pairwise_cons] at hp
    have step : Top (S ++ [p]) (put p acc) := by
      cases acc with
      | nil =>
        have e : S = [] := by
          cases S with
          | nil => rfl
          | cons s S => obtain ⟨q, hq, _⟩ := h.dom s List.mem_cons_self; cases hq
        subst e
        exact ⟨List.pairwise_cons.mpr ⟨(fun _ h => nomatch h), .nil⟩, fun q hq => hq, fun q hq => ⟨q, hq, dom.refl _⟩⟩
      | cons q acc =>
        show Top (S ++ [p]) (if q.2 < p.2 then p :: q :: acc else q :: acc)
        have hq := hs p List.mem_cons_self q (h.sub q List.mem_cons_self)
        have hc := List.pairwise_cons.mp h.chain
        split
        · rename_i lt
          have lt1 : p.1 < q.1 := by rcases hq with h | h <;> omega
          refine ⟨List.pairwise_cons.mpr ⟨fun r hr => ?_, h.chain⟩, fun r hr => ?_, fun r hr => ?_⟩
          · rcases List.mem_cons.mp hr with rfl | hr
            · exact ⟨lt1, lt⟩
            · have := hc.1 r hr; exact ⟨by omega, by omega⟩
          · rcases List.mem_cons.mp hr with rfl | hr
            · exact List.mem_append_right _ List.mem_cons_self
            · exact List.mem_append_left _ (h.sub r hr)
          · rcases List.mem_append.mp hr with hr | hr
            · obtain ⟨t, ht, d⟩ := h.dom r hr
              exact ⟨t, List.mem_cons_of_mem _ ht, d⟩
            · rw [List.mem_singleton] at hr; subst hr
              exact ⟨r, List.mem_cons_self, dom.refl _⟩
        · rename_i nl
          refine ⟨h.chain, fun r hr => List.mem_append_left _ (h.sub r hr), fun r hr => ?_⟩
          rcases List.mem_append.mp hr with hr | hr
          · exact h.dom r hr
          · rw [List.mem_singleton] at hr; subst hr
            exact ⟨q, List.mem_cons_self, by rcases hq with h | h <;> omega, by omega⟩
    have := scan_top r _ (S ++ [p]) step (fun a ha b hb => ?_) hp.2
    · simpa [scan] using this
    · rcases List.mem_append.mp hb with hb | hb
      · exact hs a (List.mem_cons_of_mem _ ha) b hb
      · rw [List.mem_singleton] at hb; subst hb
        exact hp.1 a ha
theorem Top.perm {S T l : List PP} (h : Top S l) (e : ∀ p, p ∈ S ↔ p ∈ T) : Top T l := ⟨h.chain, fun p hp => (e p).mp (h.sub p hp), fun p hp => h.dom p ((e p).mpr hp)⟩
theorem Top.nil : Top [] [] := ⟨.nil, (fun _ h => nomatch h), (fun _ h => nomatch h)⟩
end Pu
namespace Pu
def addR (n : Int) : List PP → List PP
  | [] => [(n, 1)]
  | (m, c) :: r => if m = n then (m, c + 1) :: r else (n, 1) :: (m, c) :: r
def runsT : List Int → List PP
  | [] => []
  | n :: r => addR n (runsT r)
def pop1 : List PP → List PP
  | [] => []
  | (m, c) :: r => if 1 < c then (m, c - 1) :: r else r
def popN : Nat → List PP → List PP
  | 0, r => r
  | k + 1, r => popN k (pop1 r)
def Pos (R : List PP) : Prop := ∀ p ∈ R, 1 ≤ p.2
theorem addR_pos {n : Int} {R : List PP} (h : Pos R) : Pos (addR n R) := by
  cases R with
  | nil => intro p hp; rw [addR, List.mem_singleton] at hp; subst hp; exact Int.le_refl _
  | cons q r =>
    obtain ⟨m, c⟩ := q
    have hc : 1 ≤ c := h (m, c) List.mem_cons_self
    intro p hp
    simp only [addR] at hp
    split at hp
    · rcases List.mem_cons.mp hp with e | hp
      · rw [e]; show 1 ≤ c + 1; omega
      · exact h p (List.mem_cons_of_mem _ hp)
    · rcases List.mem_cons.mp hp with e | hp
      · rw [e]; exact Int.le_refl _
      · exact h p hp
theorem runsT_pos : ∀ T : List Int, Pos (runsT T)
  | [] => fun _ h => nomatch h
  | _ :: r => addR_pos (runsT_pos r)
theorem pop1_addR {n : Int} {R : List PP} (h : Pos R) : pop1 (addR n R) = R := by
  cases R with
  | nil => simp [addR, pop1]
  | cons q r =>
    obtain ⟨m, c⟩ := q
    have hc : 1 ≤ c := h (m, c) List.mem_cons_self
    simp only [addR]
    split
    · simp only [pop1]; rw [if_pos (by omega)]; simp
    · simp only [pop1]; rw [if_neg (by omega)]
theorem pop1_runs (n : Int) (T : List Int) : pop1 (runsT (n :: T)) = runsT T := pop1_addR (runsT_pos T)
theorem popN_runs : ∀ (k : Nat) (T : List Int), popN k (runsT T) = runsT (T.drop k)
  | 0, _ => rfl
  | k + 1, [] => by
    show popN k [] = []
    have := popN_runs k []
    simpa [runsT] using this
  | k + 1, n :: T => by
    show popN k (pop1 (runsT (n :: T))) = _
    rw [pop1_runs]; exact popN_runs k T
def size (R : List PP) : Int := (R.map (·.2)).sum
theorem size_addR (n : Int) (R : List PP) : size (addR n R) = size R + 1 := by
  cases R with
  | nil => simp [addR, size]
  | cons q r =>
    obtain ⟨m, c⟩ := q
    simp only [addR]
    split <;> simp [size] <;> omega
theorem size_runs : ∀ T : List Int, size (runsT T) = T.length
  | [] => rfl
  | n :: T => by
    show size (addR n (runsT T)) = _
    rw [size_addR, size_runs T]; simp
def Never (T : List Int) : Prop := T.Pairwise fun a b => a ≤ b
theorem drop_below (n : Int) : ∀ T : List Int, Never T → T.drop (T.filter fun m => decide (m < n)).length = T.dropWhile fun m => decide (m < n)
  | [], _ => rfl
  | m :: T, h => by
    have hp := List.pairwise_cons.mp h
    by_cases hm : m < n
    · simp [hm, drop_below n T hp.2]
    · have e : T.filter (fun m => decide (m < n)) = [] := by
        rw [List.filter_eq_nil_iff]
        intro a ha
        have := hp.1 a ha
        simp; omega
      simp [hm, e]
end Pu
namespace Pu
def joinR : List PP → List PP → List PP
  | [], R => R
  | [p], [] => [p]
  | [p], q :: R => if p.1 = q.1 then (q.1, q.2 + p.2) :: R else p :: q :: R
  | p :: q :: r, R => p :: joinR (q :: r) R
theorem addR_ne {n : Int} {R : List PP} : addR n R ≠ [] := by
  cases R with
  | nil => simp [addR]
  | cons q r => obtain ⟨m, c⟩ := q; simp only [addR]; split <;> simp
theorem addR_join (n : Int) : ∀ (U R : List PP), U ≠ [] → addR n (joinR U R) = joinR (addR n U) R
  | [], _, h => absurd rfl h
  | [(m, c)], [], _ => by
    simp only [joinR, addR]
    split <;> simp [joinR]
  | [(m, c)], (k, d) :: R, _ => by
    by_cases h1 : m = k
    · subst h1
      by_cases h2 : m = n
      · subst h2; simp [joinR, addR]; omega
      · have h3 : ¬ n = m := fun e => h2 e.symm
        simp [joinR, addR, h2, h3]
    · by_cases h2 : m = n
      · subst h2; simp [joinR, addR, h1]
      · simp [joinR, addR, h1, h2]
  | (m, c) :: q :: r, R, _ => by
    by_cases h2 : m = n
    · subst h2; simp [joinR, addR]
    · simp [joinR, addR, h2]
theorem runsT_ne {T : List Int} (h : T ≠ []) : runsT T ≠ [] := by
  cases T with
  | nil => exact absurd rfl h
  | cons n T => exact addR_ne
theorem runsT_app : ∀ U T : List Int, runsT (U ++ T) = joinR (runsT U) (runsT T)
  | [], T => rfl
  | [n], T => by
    show addR n (runsT T) = joinR (addR n []) (runsT T)
    generalize runsT T = R
    cases R with
    | nil => rfl
    | cons q r =>
      obtain ⟨m, c⟩ := q
      simp only [addR, joinR]
      by_cases h : m = n
      · subst h; simp
      · have : ¬ n = m := fun e => h e.symm
        simp [h, this]
  | n :: m :: U, T => by
    show addR n (runsT (m :: U ++ T)) = joinR (addR n (runsT (m :: U))) (runsT T)
    rw [runsT_app (m :: U) T]
    exact addR_join n _ _ (runsT_ne (by simp))
def flatT : List PP → List Int
  | [] => []
  | (n, c) :: r => List.replicate c.toNat n ++ flatT r
theorem flat_addR (n : Int) (R : List PP) (h : Pos R) : flatT (addR n R) = n :: flatT R := by
  cases R with
  | nil => simp [addR, flatT]
  | cons q r =>
    obtain ⟨m, c⟩ := q
    have hc : 1 ≤ c := h (m, c) List.mem_cons_self
    simp only [addR]
    split
    · rename_i e; subst e
      have : (c + 1).toNat = c.toNat + 1 := by omega
      simp [flatT, this, List.replicate_succ]
    · simp [flatT]
theorem flat_runs : ∀ T : List Int, flatT (runsT T) = T
  | [] => rfl
  | n :: T => by rw [runsT, flat_addR n _ (runsT_pos T), flat_runs T]
theorem runsT_inj {T U : List Int} (h : runsT T = runsT U) : T = U := by rw [← flat_runs T, h, flat_runs]
def Apart : List PP → Prop
  | [] => True
  | [_] => True
  | p :: q :: r => p.1 ≠ q.1 ∧ Apart (q :: r)
theorem runs_rep (n : Int) : ∀ (k : Nat) (T : List Int), 0 < k → (∀ c r, runsT T = (n, c) :: r → False) → runsT (List.replicate k n ++ T) = (n, (k : Int)) :: runsT T
  | 0, _, h, _ => absurd h (by omega)
  | 1, T, _, h => by
    show addR n (runsT T) = _
    generalize e : runsT T = R
    cases R with
    | nil => rfl
    | cons q r =>
      obtain ⟨m, c⟩ := q
      have : ¬ m = n := fun z => h c r (by rw [e, z])
      simp [addR, this]
  | k + 2, T, _, h => by
    show addR n (runsT (List.replicate (k + 1) n ++ T)) = _
    rw [runs_rep n (k + 1) T (by omega) h]
    simp [addR]; omega
theorem runs_one (n : Int) (k : Nat) (h : 0 < k) : runsT (List.replicate k n) = [(n, (k : Int))] := by
  have := runs_rep n k [] h (fun c r e => by cases e)
  simpa [runsT] using this
def RiseR (R : List PP) : Prop := R.Pairwise fun p q => p.1 < q.1
theorem RiseR.apart : ∀ {R : List PP}, RiseR R → Apart R
  | [], _ => trivial
  | [_], _ => trivial
  | p :: q :: r, h => by
    have h' := List.pairwise_cons.mp h
    exact ⟨by have := h'.1 q List.mem_cons_self; omega, RiseR.apart h'.2⟩
theorem mem_flat : ∀ {R : List PP} {x : Int}, x ∈ flatT R → ∃ p ∈ R, p.1 = x
  | [], x, h => by cases h
  | (n, c) :: r, x, h => by
    rcases List.mem_append.mp h with h | h
    · exact ⟨(n, c), List.mem_cons_self, (List.eq_of_mem_replicate h).symm⟩
    · obtain ⟨p, hp, e⟩ := mem_flat h
      exact ⟨p, List.mem_cons_of_mem _ hp, e⟩
theorem never_flat : ∀ {R : List PP}, RiseR R → Never (flatT R)
  | [], _ => .nil
  | (n, c) :: r, h => by
    have h' := List.pairwise_cons.mp h
    refine List.pairwise_append.mpr ⟨?_, never_flat h'.2, fun a ha b hb => ?_⟩
    · exact List.pairwise_replicate.mpr (.inr (Int.le_refl _))
    · obtain ⟨p, hp, rfl⟩ := mem_flat hb
      rw [List.eq_of_mem_replicate ha]
      have := h'.1 p hp
      show n ≤ p.1
      have : n < p.1 := this
      omega
theorem mem_addR {n : Int} {R : List PP} {p : PP} (h : p ∈ addR n R) : p.1 = n ∨ ∃ q ∈ R, q.1 = p.1 := by
  cases R with
  | nil => simp [addR] at h; subst h; exact .inl rfl
  | cons q r =>
    obtain ⟨m, c⟩ := q
    simp only [addR] at h
    split at h
    · rename_i e
      rcases List.mem_cons.mp h with h | h
      · subst h; exact .inl e
      · exact .inr ⟨p, List.mem_cons_of_mem _ h, rfl⟩
    · rcases List.mem_cons.mp h with h | h
      · subst h; exact .inl rfl
      · exact .inr ⟨p, h, rfl⟩
theorem mem_runs : ∀ {T : List Int} {p : PP}, p ∈ runsT T → p.1 ∈ T
  | [], p, h => by cases h
  | n :: T, p, h => by
    rcases mem_addR h with e | ⟨q, hq, e⟩
    · rw [e]; exact List.mem_cons_self
    · rw [← e]; exact List.mem_cons_of_mem _ (mem_runs hq)
theorem runs_head {n : Int} {T : List Int} : ∃ c r, runsT (n :: T) = (n, c) :: r := by
  show ∃ c r, addR n (runsT T) = _
  cases runsT T with
  | nil => exact ⟨1, [], rfl⟩
  | cons q r =>
    obtain ⟨m, c⟩ := q
    simp only [addR]
    split
    · rename_i e; subst e; exact ⟨_, _, rfl⟩
    · exact ⟨_, _, rfl⟩
theorem never_rise : ∀ {T : List Int}, Never T → RiseR (runsT T)
  | [], _ => .nil
  | [n], _ => List.pairwise_singleton _ _
  | n :: m :: T, h => by
    have h' := List.pairwise_cons.mp h
    have ih := never_rise h'.2
    obtain ⟨c, r, e⟩ := runs_head (n := m) (T := T)
    have lt : ∀ p ∈ runsT (m :: T), n ≤ p.1 := fun p hp => h'.1 _ (mem_runs hp)
    show RiseR (addR n (runsT (m :: T)))
    rw [e] at ih lt ⊢
    simp only [addR]
    have ih' := List.pairwise_cons.mp ih
    split
    · rename_i e; subst e
      exact List.pairwise_cons.mpr ⟨fun p hp => ih'.1 p hp, ih'.2⟩
    · rename_i ne
      refine List.pairwise_cons.mpr ⟨fun p hp => ?_, ih⟩
      have : n ≤ m := lt (m, c) List.mem_cons_self
      rcases List.mem_cons.mp hp with e | hp
      · rw [e]; show n < m; omega
      · have : m < p.1 := ih'.1 p hp
        show n < p.1; omega
theorem rise_never {T : List Int} (h : RiseR (runsT T)) : Never T := by rw [← flat_runs T]; exact never_flat h
theorem runs_last : ∀ {T : List Int} {n : Int}, T.getLast? = some n → ∃ c Q, runsT T = Q ++ [(n, c)]
  | [], n, h => by cases h
  | [m], n, h => by simp at h; subst h; exact ⟨1, [], rfl⟩
  | m :: k :: T, n, h => by
    obtain ⟨c, Q, e⟩ := runs_last (T := k :: T) (n := n) (by simpa [List.getLast?_cons_cons] using h)
    show ∃ c Q, addR m (runsT (k :: T)) = _
    rw [e]
    cases Q with
    | nil =>
      simp only [List.nil_append, addR]
      split
      · exact ⟨_, [], rfl⟩
      · exact ⟨c, [(m, 1)], rfl⟩
    | cons q Q =>
      obtain ⟨a, b⟩ := q
      simp only [List.cons_append, addR]
      split
      · exact ⟨c, (a, b + 1) :: Q, rfl⟩
      · exact ⟨c, (m, 1) :: (a, b) :: Q, rfl⟩
theorem runs_len_le : ∀ T : List Int, (runsT T).length ≤ T.length
  | [] => Nat.le_refl _
  | n :: T => by
    have ih := runs_len_le T
    show (addR n (runsT T)).length ≤ _
    cases e : runsT T with
    | nil => simp [addR]
    | cons q r =>
      obtain ⟨m, c⟩ := q
      rw [e] at ih
      simp only [addR]
      split <;> simp at * <;> omega
end Pu
namespace Qa
open PySem PySem.Spec PyProof.Rows L2 Evl Mi Pg Pu
@[simp] theorem put_n1 {Γ : Ga} {a : Sl} : putBack Γ [none] [a] = Γ := putBack1
@[simp] theorem put_n2 {Γ : Ga} {a b : Sl} : putBack Γ [none, none] [a, b] = Γ := putBack0
theorem putB_none3 {a b c s : Sl} {i : Nat} : putB [none, none, none] [a, b, c] i s = s := by cases s <;> rfl
@[simp] theorem put_n3 {Γ : Ga} {a b c : Sl} : putBack Γ [none, none, none] [a, b, c] = Γ := by
  unfold putBack
  apply List.ext_getElem (by simp)
  intro i h1 h2
  simp [putB_none3]
@[simp] theorem put_n0 {Γ : Ga} : putBack Γ [] [] = Γ := by
  unfold putBack
  apply List.ext_getElem (by simp)
  intro i h1 h2
  have : ∀ s, putB [] [] i s = s := fun s => by cases s <;> rfl
  simp [this]
def owned : Nat → List D → Ga → Ga
  | _, _, [] => []
  | 0, ys, .own b _ :: r => .own b ys :: r
  | 0, _, s :: r => s :: r
  | i + 1, ys, s :: r => s :: owned i ys r
@[simp] theorem owned_nil {i : Nat} {ys : List D} : owned i ys [] = [] := by cases i <;> rfl
@[simp] theorem owned_0 {b : Ow} {xs ys : List D} {r : Ga} : owned 0 ys (.own b xs :: r) = .own b ys :: r := rfl
@[simp] theorem owned_s {i : Nat} {ys : List D} {s : Sl} {r : Ga} : owned (i + 1) ys (s :: r) = s :: owned i ys r := by cases s <;> rfl
theorem owned_get : ∀ (i j : Nat) (ys : List D) (Γ : Ga), (owned i ys Γ)[j]? = (Γ[j]?).map fun s => match s with | .own b xs => if i = j then .own b ys else .own b xs | s => s
  | 0, 0, ys, [] => rfl
  | 0, j + 1, ys, [] => rfl
  | i + 1, j, ys, [] => by simp
  | 0, 0, ys, s :: r => by cases s <;> simp [owned]
  | 0, j + 1, ys, s :: r => by
    cases s <;> simp only [owned, List.getElem?_cons_succ] <;> (cases r[j]? with
      | none => rfl
      | some s => cases s <;> simp)
  | i + 1, 0, ys, s :: r => by cases s <;> simp
  | i + 1, j + 1, ys, s :: r => by
    rw [owned_s, List.getElem?_cons_succ, owned_get i j ys r, List.getElem?_cons_succ]
    simp
theorem put_own {Γ : Ga} {i : Nat} {ks : List (Option Nat)} {ys : List D} {os : Ga} (h : ∀ (j : Nat) s, putB (some i :: ks) (.own true ys :: os) j s = match s with | .own b xs => if i = j then .own b ys else .own b xs | s => s) : putBack Γ (some i :: ks) (.own true ys :: os) = owned i ys Γ := by
  unfold putBack
  apply List.ext_getElem?
  intro j
  rw [owned_get, List.getElem?_mapIdx]
  congr 1
  funext s
  exact h j s
@[simp] theorem put_o1 {Γ : Ga} {i : Nat} {ys : List D} : putBack Γ [some i] [.own true ys] = owned i ys Γ := put_own fun j s => by
  cases s <;> simp [putB, refAt]
  split <;> rfl
@[simp] theorem put_o2 {Γ : Ga} {i : Nat} {ys : List D} {a : Sl} : putBack Γ [some i, none] [.own true ys, a] = owned i ys Γ := put_own fun j s => by
  cases s <;> simp [putB, refAt]
  split <;> rfl
@[simp] theorem put_o3 {Γ : Ga} {i : Nat} {ys : List D} {a b : Sl} : putBack Γ [some i, none, none] [.own true ys, a, b] = owned i ys Γ := put_own fun j s => by
  cases s <;> simp [putB, refAt]
  split <;> rfl
@[simp] theorem put_o4 {Γ : Ga} {i : Nat} {ys : List D} {a b c : Sl} : putBack Γ [some i, none, none, none] [.own true ys, a, b, c] = owned i ys Γ := put_own fun j s => by
  cases s <;> simp [putB, refAt]
  split <;> rfl
@[simp] theorem put_s2 {Γ : Ga} {i : Nat} {ns : List Int} {a : Sl} : putBack Γ [some i, none] [.scr ns, a] = Γ := by
  have hb : ∀ (j : Nat) (s : Sl), putB [some i, none] [.scr ns, a] j s = s := fun j s => by cases s <;> rfl
  unfold putBack
  apply List.ext_getElem (by simp)
  intro j h1 h2
  simp [hb]
theorem forL_fold {σ α τ : Type} (st : σ → τ → Ga) (f : α → D) (step : σ → α → σ) (P : Nat → σ → Prop) {g : D → Ga → Option Ga} {b : Ga → Res (Ga × Fl)} (N : Nat) : ∀ (xs : List α) (i : Nat) (s : σ) (t : τ), i + xs.length = N → P i s →
    (∀ i s t x, x ∈ xs → i < N → P i s → (∃ Γ1 t', g (f x) (st s t) = some Γ1 ∧ b Γ1 = .ok (st (step s x) t', .nx)) ∧ P (i + 1) (step s x)) → ∃ t', forL g b (xs.map f) (st s t) = .ok (st (xs.foldl step s) t', .nx) ∧ P N (xs.foldl step s)
  | [], i, s, t, hN, hp, _ => ⟨t, rfl, by rw [← hN]; exact hp⟩
  | x :: xs, i, s, t, hN, hp, h => by
    rw [List.length_cons] at hN
    obtain ⟨⟨Γ1, t1, e1, e2⟩, hp'⟩ := h i s t x List.mem_cons_self (by omega) hp
    obtain ⟨t2, e3, hp2⟩ := forL_fold st f step P N xs (i + 1) (step s x) t1 (by omega) hp' fun i s t y hy => h i s t y (List.mem_cons_of_mem _ hy)
    exact ⟨t2, by rw [List.map_cons, forL_nx e1 e2, e3]; rfl, hp2⟩
theorem sFor_fold {σ α τ : Type} (st : σ → τ → Ga) (f : α → D) (step : σ → α → σ) (P : Nat → σ → Prop) {it : Ga → Res (Ga × List D)} {g : D → Ga → Option Ga} {b : Ga → Res (Ga × Fl)} {Γ : Ga} {xs : List α} {s : σ} (t : τ) (hit : it Γ = .ok (st s t, xs.map f)) (hp : P 0 s)
    (h : ∀ i s t x, x ∈ xs → i < xs.length → P i s → (∃ Γ1 t', g (f x) (st s t) = some Γ1 ∧ b Γ1 = .ok (st (step s x) t', .nx)) ∧ P (i + 1) (step s x)) : ∃ t', sFor it g b Γ = .ok (st (xs.foldl step s) t', .nx) ∧ P xs.length (xs.foldl step s) := by
  obtain ⟨t', e, p⟩ := forL_fold st f step P xs.length xs 0 s t (by omega) hp h
  refine ⟨t', ?_, p⟩
  unfold sFor
  rw [hit]
  exact e
theorem sLc_map {α : Type} (f F : α → D) {it : Ga → Res (Ga × List D)} {g : D → Ga → Option Ga} {te : Ga → Res (Ga × D)} {vs : List Nat} {Γ : Ga} {xs : List α} (hit : it Γ = .ok (Γ, xs.map f)) (hw : wipeG Γ vs = Γ)
    (h : ∀ x ∈ xs, ∃ Γ1, g (f x) Γ = some Γ1 ∧ te Γ1 = .ok (Γ1, F x) ∧ wipeG Γ1 vs = Γ) (hl : xs.length ≤ 16777216) : sLc it g sYes te vs Γ = .ok (Γ, .f (xs.map F)) := by
  unfold sLc
  rw [hit]
  simp only [bind_ok, hw, lcL_mapM xs h, List.length_map, z_szle, if_pos hl, unwipe_same]
mutual
def fl : Nat → D → Bool
  | _, .none => true
  | _, .int _ => true
  | _, .str s => PyData.strOk s
  | n + 1, .list xs => flAll n xs
  | n + 1, .tuple xs => flAll n xs
  | _, _ => false
def flAll : Nat → List D → Bool
  | _, [] => true
  | n, x :: xs => fl n x && flAll n xs
end
@[simp] theorem fl_int {n : Nat} {i : Int} : fl n (.int i) = true := by cases n <;> simp [fl]
@[simp] theorem fl_none {n : Nat} : fl n .none = true := by cases n <;> simp [fl]
@[simp] theorem fl_tup {n : Nat} {xs : List D} : fl (n + 1) (.tuple xs) = flAll n xs := by simp [fl]
@[simp] theorem fl_lst {n : Nat} {xs : List D} : fl (n + 1) (.list xs) = flAll n xs := by simp [fl]
@[simp] theorem flAll_nil {n : Nat} : flAll n [] = true := by simp [flAll]
@[simp] theorem flAll_cons {n : Nat} {x : D} {xs : List D} : flAll n (x :: xs) = (fl n x && flAll n xs) := by simp [flAll]
theorem flAll_iff {n : Nat} : ∀ {xs : List D}, flAll n xs = true ↔ ∀ x ∈ xs, fl n x = true
  | [] => by simp
  | x :: xs => by simp [flAll_iff (xs := xs)]
theorem flAll_map {α : Type} {n : Nat} {f : α → D} {xs : List α} (h : ∀ x ∈ xs, fl n (f x) = true) : flAll n (xs.map f) = true := flAll_iff.mpr fun y hy => by
  obtain ⟨x, hx, rfl⟩ := List.mem_map.mp hy
  exact h x hx
mutual
theorem fl_lay : ∀ (n : Nat) (x : D), fl n x = true → PyData.canLay0 x = true ∧ x.depth ≤ n
  | n, .none, _ => by simp [PyData.canLay0, PyData.depth]
  | n, .int i, _ => by simp [PyData.canLay0, PyData.depth]
  | n, .str s, h => by
    have : PyData.strOk s = true := by cases n <;> simpa [fl] using h
    simp [PyData.canLay0, PyData.depth, this]
  | n, .bool b, h => by cases n <;> simp [fl] at h
  | n, .dict b, h => by cases n <;> simp [fl] at h
  | 0, .list xs, h => by simp [fl] at h
  | 0, .tuple xs, h => by simp [fl] at h
  | n + 1, .list xs, h => by
    obtain ⟨h1, h2⟩ := fl_layAll n xs (by simpa using h)
    simp only [PyData.canLay0, PyData.depth, h1]
    exact ⟨trivial, by omega⟩
  | n + 1, .tuple xs, h => by
    obtain ⟨h1, h2⟩ := fl_layAll n xs (by simpa using h)
    simp only [PyData.canLay0, PyData.depth, h1]
    exact ⟨trivial, by omega⟩
theorem fl_layAll : ∀ (n : Nat) (xs : List D), flAll n xs = true → PyData.canLayAll0 xs = true ∧ PyData.depthAll xs ≤ n
  | n, [], _ => by simp [PyData.canLayAll0, PyData.depthAll]
  | n, x :: xs, h => by
    rw [flAll_cons, Bool.and_eq_true] at h
    obtain ⟨h1, h2⟩ := fl_lay n x h.1
    obtain ⟨h3, h4⟩ := fl_layAll n xs h.2
    simp only [PyData.canLayAll0, PyData.depthAll, h1, h3]
    exact ⟨rfl, by omega⟩
end
theorem fl_shaped {x : D} (h : fl 60 x = true) : SeqAt.shaped x = true := by
  obtain ⟨h1, h2⟩ := fl_lay 60 x h
  unfold SeqAt.shaped
  simp only [h1, Bool.true_and, decide_eq_true_eq]
  omega
mutual
theorem eqv_fl : ∀ (n m : Nat) (x y : D), fl n x = true → fl m y = true → (PyData.eqv x y = true ↔ x = y)
  | n, m, .none, y, _, h => by cases y <;> simp [PyData.eqv]
  | n, m, .int i, y, _, h => by cases y <;> cases m <;> simp [PyData.eqv, fl] at h ⊢
  | n, m, .str s, y, _, h => by cases y <;> simp [PyData.eqv]
  | n, m, .bool b, y, h, _ => by cases n <;> simp [fl] at h
  | n, m, .dict b, y, h, _ => by cases n <;> simp [fl] at h
  | 0, m, .list xs, y, h, _ => by simp [fl] at h
  | 0, m, .tuple xs, y, h, _ => by simp [fl] at h
  | n + 1, m, .list xs, y, h, h' => by
    cases y with
    | list ys =>
      cases m with
      | zero => simp [fl] at h'
      | succ m =>
        have := eqv_flAll n m xs ys (by simpa using h) (by simpa using h')
        simp [PyData.eqv, this]
    | _ => simp [PyData.eqv]
  | n + 1, m, .tuple xs, y, h, h' => by
    cases y with
    | tuple ys =>
      cases m with
      | zero => simp [fl] at h'
      | succ m =>
        have := eqv_flAll n m xs ys (by simpa using h) (by simpa using h')
        simp [PyData.eqv, this]
    | _ => simp [PyData.eqv]
theorem eqv_flAll : ∀ (n m : Nat) (x y : List D), flAll n x = true → flAll m y = true → (PyData.eqvAll x y = true ↔ x = y)
  | n, m, [], [], _, _ => by simp [PyData.eqvAll]
  | n, m, [], y :: ys, _, _ => by simp [PyData.eqvAll]
  | n, m, x :: xs, [], _, _ => by simp [PyData.eqvAll]
  | n, m, x :: xs, y :: ys, h, h' => by
    rw [flAll_cons, Bool.and_eq_true] at h h'
    simp [PyData.eqvAll, eqv_fl n m x y h.1 h'.1, eqv_flAll n m xs ys h.2 h'.2]
end
theorem eqG_fl {x y : D} {p : Prop} [Decidable p] (hx : fl 60 x = true) (hy : fl 60 y = true) (h : x = y ↔ p) : eqG x y = .ok (.d (.bool (decide p))) := by
  unfold eqG
  rw [fl_shaped hx, fl_shaped hy]
  simp only [Bool.and_self, if_true]
  congr 3
  have := eqv_fl 60 60 x y hx hy
  rw [h] at this
  by_cases q : p <;> simp [q] at this ⊢ <;> exact this
theorem neG_fl {x y : D} {p : Prop} [Decidable p] (hx : fl 60 x = true) (hy : fl 60 y = true) (h : x = y ↔ p) : neG x y = .ok (.d (.bool (!decide p))) := by
  unfold neG
  rw [fl_shaped hx, fl_shaped hy]
  simp only [Bool.and_self, if_true]
  congr 4
  have := eqv_fl 60 60 x y hx hy
  rw [h] at this
  by_cases q : p <;> simp [q] at this ⊢ <;> exact this
theorem eqS_fl {x y : D} {p : Prop} [Decidable p] (hx : fl 60 x = true) (hy : fl 60 y = true) (h : x = y ↔ p) : eqS x y = .ok (.d (.bool (decide p))) := by
  unfold eqS
  split
  · rename_i a b
    have h' : a = b ↔ p := by rw [← h]; simp
    rw [decide_eq_decide.mpr h']
  · exact eqG_fl hx hy h
theorem neS_fl {x y : D} {p : Prop} [Decidable p] (hx : fl 60 x = true) (hy : fl 60 y = true) (h : x = y ↔ p) : neS x y = .ok (.d (.bool (!decide p))) := by
  unfold neS
  split
  · rename_i a b
    have h' : a = b ↔ p := by rw [← h]; simp
    rw [decide_eq_decide.mpr h']
  · exact neG_fl hx hy h
@[simp] theorem eqS_int {a b : Int} : eqS (.int a) (.int b) = .ok (.d (.bool (decide (a = b)))) := eqS_fl (by simp) (by simp) (by simp)
@[simp] theorem neS_int {a b : Int} : neS (.int a) (.int b) = .ok (.d (.bool (!decide (a = b)))) := neS_fl (by simp) (by simp) (by simp)
@[simp] theorem eqS_str {a b : Str} : eqS (.str a) (.str b) = .ok (.d (.bool (decide (a = b)))) := rfl
@[simp] theorem neS_str {a b : Str} : neS (.str a) (.str b) = .ok (.d (.bool (!decide (a = b)))) := rfl
theorem eqS_same {x : D} (hx : fl 60 x = true) : eqS x x = .ok (.d (.bool true)) := by
  have := eqS_fl (x := x) (y := x) (p := True) hx hx (by simp)
  simpa using this
theorem neS_same {x : D} (hx : fl 60 x = true) : neS x x = .ok (.d (.bool false)) := by
  have := neS_fl (x := x) (y := x) (p := True) hx hx (by simp)
  simpa using this
end Qa
namespace Qa
open PySem PySem.Spec PyProof.Rows L2 Evl Mi Pg Pu
@[simp] theorem isi_def {T : String} {x : D} : isiG T x = match tyD x with | some t => .ok (.d (.bool (isiB t T))) | none => .stuck := rfl
@[simp] theorem isi2_def {S T : String} {x : D} : isiG2 S T x = match tyD x with | some t => .ok (.d (.bool (isiB t S || isiB t T))) | none => .stuck := rfl
@[simp] theorem tyD_none : tyD .none = some "NoneType" := rfl
@[simp] theorem tyD_bool {b : Bool} : tyD (.bool b) = some "bool" := rfl
@[simp] theorem tyD_int {b : Int} : tyD (.int b) = some "int" := rfl
@[simp] theorem tyD_str {b : Str} : tyD (.str b) = some "str" := rfl
@[simp] theorem tyD_list {b : List D} : tyD (.list b) = some "list" := rfl
@[simp] theorem tyD_tuple {b : List D} : tyD (.tuple b) = some "tuple" := rfl
@[simp] theorem isiB_def {a b : String} : isiB a b = (a == b || (a == "bool" && b == "int")) := rfl
theorem is_integer_int (n : Int) : m_is_integer [.d (.int n)] = .ok ([.d (.int n)], .d (.bool true)) := by simp [m_is_integer, b_is_integer]
theorem is_count_int (n : Int) : m_is_count [.d (.int n)] = .ok ([.d (.int n)], .d (.bool (decide (1 ≤ n)))) := by simp [m_is_count, b_is_count, is_integer_int]
def tw (p : PP) : D := .tuple [.int p.1, .int p.2]
def rt (L : List PP) : D := .tuple (L.map tw)
def stk (T : List Int) : D := rt (runsT T).reverse
theorem tw_inj {p q : PP} : tw p = tw q ↔ p = q := by
  simp [tw, Prod.ext_iff]
theorem rt_inj {L M : List PP} : rt L = rt M ↔ L = M := by
  simp only [rt, PyData.tuple.injEq]
  exact List.map_inj_right fun p q => by exact tw_inj.mp
theorem stk_inj {T U : List Int} : stk T = stk U ↔ T = U := by
  unfold stk
  rw [rt_inj, List.reverse_inj]
  exact ⟨runsT_inj, fun h => by rw [h]⟩
@[simp] theorem fl_tw {n : Nat} {p : PP} : fl (n + 1) (tw p) = true := by simp [tw]
@[simp] theorem fl_rt {n : Nat} {L : List PP} : fl (n + 2) (rt L) = true := by
  rw [rt, fl_tup]
  exact flAll_map fun p _ => fl_tw
@[simp] theorem fl_stk {n : Nat} {T : List Int} : fl (n + 2) (stk T) = true := fl_rt
theorem stk_nil : stk [] = .tuple [] := rfl
theorem is_run_tw (p : PP) : m_is_run [.d (tw p)] = .ok ([.d (tw p)], .d (.bool (decide (1 ≤ p.2)))) := by
  simp [m_is_run, b_is_run, tw, is_integer_int, is_count_int]
theorem boolsOf_map : ∀ bs : List Bool, boolsOf (bs.map PyData.bool) = some bs
  | [] => rfl
  | b :: r => by
    rw [List.map_cons]
    unfold boolsOf
    rw [boolsOf_map r]
    rfl
theorem allG_map {α : Type} (P : α → Bool) (xs : List α) : allG (.list (xs.map fun x => .bool (P x))) = .ok (.d (.bool (xs.all P))) := by
  have : xs.map (fun x => PyData.bool (P x)) = (xs.map P).map .bool := by simp
  rw [this]
  unfold allG
  simp only [boolsOf_map]
  rw [List.all_map]
  rfl
theorem cut_drop1 (xs : List D) : Mi.cutD xs (some 1) none = xs.tail := by
  unfold Mi.cutD
  have e : HT.sIx xs.length 0 (some 1) = min 1 xs.length := HT.sIx_nat xs.length 0 1
  rw [e, HT.sIx_none]
  cases xs with
  | nil => rfl
  | cons x r =>
    rw [show min 1 (x :: r).length = 1 by simp]
    simp
theorem pairUp_map {α : Type} (f : α → D) (xs ys : List α) : pairUp (xs.map f) (ys.map f) = (xs.zip ys).map fun p => .tuple [f p.1, f p.2] := by
  unfold pairUp
  rw [List.zip_map, List.map_map]
  rfl
theorem all_adj : ∀ L : List PP, ((L.zip L.tail).all fun z => decide (z.2.1 < z.1.1)) = true ↔ L.Pairwise fun p q => q.1 < p.1
  | [] => by simp
  | [p] => by simp
  | p :: q :: r => by
    have ih := all_adj (q :: r)
    simp only [List.tail_cons, List.zip_cons_cons, List.all_cons, Bool.and_eq_true, decide_eq_true_eq] at ih ⊢
    rw [ih]
    constructor
    · rintro ⟨h1, h2⟩
      refine List.pairwise_cons.mpr ⟨fun a ha => ?_, h2⟩
      rcases List.mem_cons.mp ha with rfl | ha
      · exact h1
      · have := (List.pairwise_cons.mp h2).1 a ha
        omega
    · intro h
      obtain ⟨h1, h2⟩ := List.pairwise_cons.mp h
      exact ⟨h1 q List.mem_cons_self, h2⟩
def IsSt (L : List PP) : Prop := (∀ p ∈ L, 1 ≤ p.2) ∧ L.Pairwise fun p q => q.1 < p.1
instance (L : List PP) : Decidable (IsSt L) := by unfold IsSt; infer_instance
theorem l1_is_stack_ok (L : List PP) (hl : L.length ≤ 100000) : l1_is_stack [.d (rt L), .un, .un, .un] = .ok ([.d (rt L), .un, .un, .un], .f (L.map fun p => .bool (decide (1 ≤ p.2)))) :=
  sLc_map tw _ (by simp [rt]) rfl (fun p _ => ⟨[.d (rt L), .d (tw p), .un, .un], rfl, by simp [is_run_tw], rfl⟩) (by omega)
theorem l2_is_stack_ok (L : List PP) (hl : L.length ≤ 100000) : l2_is_stack [.d (rt L), .un, .un, .un] = .ok ([.d (rt L), .un, .un, .un], .f ((L.zip L.tail).map fun z => .bool (decide (z.2.1 < z.1.1)))) :=
  sLc_map (fun z : PP × PP => .tuple [tw z.1, tw z.2]) _ (by simp [rt, cut_drop1, ← List.map_tail, pairUp_map]) rfl (fun p _ => ⟨[.d (rt L), .un, .d (tw p.1), .d (tw p.2)], by simp, by simp [tw], rfl⟩)
    (by simp; omega)
theorem is_stack_rt (L : List PP) (hl : L.length ≤ 100000) : m_is_stack [.d (rt L)] = .ok ([.d (rt L)], .d (.bool (decide (IsSt L)))) := by
  have h1 := l1_is_stack_ok L hl
  have h2 := l2_is_stack_ok L hl
  have t : tyD (rt L) = some "tuple" := rfl
  by_cases a : (∀ p ∈ L, 1 ≤ p.2)
  · have a1 : (L.all fun p => decide (1 ≤ p.2)) = true := by simpa using a
    have a2 : decide (IsSt L) = ((L.zip L.tail).all fun z => decide (z.2.1 < z.1.1)) := by
      rw [Bool.eq_iff_iff, all_adj, decide_eq_true_eq]
      exact ⟨fun h => h.2, fun h => ⟨a, h⟩⟩
    simp only [m_is_stack, b_is_stack, a2]
    simp [h1, h2, t, allG_map, a1]
  · have a1 : (L.all fun p => decide (1 ≤ p.2)) = false := by
      rw [Bool.eq_false_iff]
      intro h
      exact a (by simpa using h)
    have a2 : decide (IsSt L) = false := decide_eq_false fun h => a h.1
    simp only [m_is_stack, b_is_stack, a2]
    simp [h1, h2, t, allG_map, a1]
theorem st_runs {T : List Int} : IsSt (runsT T).reverse ↔ Never T := by
  constructor
  · intro h
    exact rise_never (List.pairwise_reverse.mp h.2)
  · intro h
    exact ⟨fun p hp => runsT_pos T p (List.mem_reverse.mp hp), List.pairwise_reverse.mpr (never_rise h)⟩
def Few (T : List Int) : Prop := (runsT T).length ≤ 1000
theorem is_stack_stk {T : List Int} (hf : Few T) (h : Never T) : m_is_stack [.d (stk T)] = .ok ([.d (stk T)], .d (.bool true)) := by
  unfold stk
  rw [is_stack_rt _ (by unfold Few at hf; simp; omega), decide_eq_true (st_runs.mpr h)]
theorem intsOf_map {α : Type} (f : α → Int) : ∀ R : List α, intsOf (R.map fun p => PyData.int (f p)) = some (R.map f)
  | [] => rfl
  | p :: R => by
    have := intsOf_map f R
    simp [intsOf, this]
theorem sum_rev (L : List Int) : L.reverse.sum = L.sum := by
  induction L with
  | nil => rfl
  | cons a L ih => rw [List.reverse_cons, List.sum_append, ih, List.sum_cons]; simp; omega
def cb (T : List Int) (n : Int) : Int := ((T.filter fun m => decide (m < n)).length : Int)
end Qa
namespace Qa
open PySem PySem.Spec PyProof.Rows L2 Evl Mi Pg Pu
def jn (L M : List PP) : List PP := match L.getLast?, M with
  | some l, m :: r => if l.1 = m.1 then L.dropLast ++ (l.1, l.2 + m.2) :: r else L ++ m :: r
  | _, _ => L ++ M
theorem at_last {α : Type} {xs : List α} {x : α} (h : xs.getLast? = some x) : atI xs (-1) = some x := by
  have hn : 0 < xs.length := by cases xs <;> simp at h ⊢
  have e : xs[xs.length - 1]? = some x := by rw [← h, List.getLast?_eq_getElem?]
  unfold atI ixN
  have h1 : ¬ ((0 : Int) ≤ -1) := by omega
  rw [if_neg h1, if_pos (by omega)]
  show xs[((-1 : Int) + xs.length).toNat]? = _
  rw [← e]
  congr 1
  omega
theorem cut_init (xs : List D) (h : 0 < xs.length) : Mi.cutD xs none (some (-1)) = xs.dropLast := by
  unfold Mi.cutD
  have e1 : HT.sIx xs.length 0 none = 0 := by simp [HT.sIx]
  have e2 : HT.sIx xs.length xs.length (some (-1)) = xs.length - 1 := by
    simp [HT.sIx]
    omega
  rw [e1, e2, List.dropLast_eq_take]
  simp
theorem cb_le (T : List Int) (n : Int) : 0 ≤ cb T n ∧ cb T n ≤ T.length := by
  unfold cb
  have := List.length_filter_le (fun m => decide (m < n)) T
  omega
theorem cb_drop {T : List Int} (n : Int) (h : Never T) : T.drop (cb T n).toNat = T.dropWhile fun m => decide (m < n) := by
  unfold cb
  rw [Int.toNat_natCast]
  exact drop_below n T h
theorem joinR_len : ∀ U R : List PP, (joinR U R).length ≤ U.length + R.length
  | [], R => by simp [joinR]
  | [p], [] => by simp [joinR]
  | [p], q :: R => by simp only [joinR]; split <;> simp <;> omega
  | p :: q :: r, R => by
    have := joinR_len (q :: r) R
    simp [joinR] at this ⊢
    omega
theorem runs_app_len (U T : List Int) : (runsT (U ++ T)).length ≤ (runsT U).length + (runsT T).length := by
  rw [runsT_app]; exact joinR_len _ _
theorem popN_len : ∀ (k : Nat) (R : List PP), (popN k R).length ≤ R.length
  | 0, R => Nat.le_refl _
  | k + 1, R => by
    have := popN_len k (pop1 R)
    have h2 : (pop1 R).length ≤ R.length := by
      cases R with
      | nil => simp [pop1]
      | cons p r => obtain ⟨m, c⟩ := p; simp only [pop1]; split <;> simp
    show (popN k (pop1 R)).length ≤ _
    omega
theorem runs_drop_len (k : Nat) (T : List Int) : (runsT (T.drop k)).length ≤ (runsT T).length := by rw [← popN_runs]; exact popN_len _ _
theorem drop_while_eq (T : List Int) (p : Int → Bool) : ∃ k, T.dropWhile p = T.drop k := by
  induction T with
  | nil => exact ⟨0, rfl⟩
  | cons a T ih =>
    obtain ⟨k, e⟩ := ih
    by_cases h : p a = true
    · exact ⟨k + 1, by rw [List.dropWhile_cons_of_pos h, e]; rfl⟩
    · exact ⟨0, by rw [List.dropWhile_cons_of_neg h]; rfl⟩
def push (T : List Int) (n : Int) (c : Nat) : List Int := List.replicate c n ++ T.dropWhile fun m => decide (m < n)
end Qa
namespace Qa
open PySem PySem.Spec PyProof.Rows L2 Evl Mi Pg Pu
inductive Stp where
  | push (n c : Int)
  | pop (c : Int)
def Stp.cnt : Stp → Int
  | .push _ c => c
  | .pop c => c
def Stp.d : Stp → D
  | .push n c => .tuple [.str "push", .int n, .int c]
  | .pop c => .tuple [.str "pop", .int c]
theorem pp_ne : ¬ (("pop" : Str) = ("push" : Str)) := by decide
@[simp] theorem ok_push : PyData.strOk ("push" : Str) = true := by decide +kernel
@[simp] theorem ok_pop : PyData.strOk ("pop" : Str) = true := by decide +kernel
@[simp] theorem fl_str {n : Nat} {s : Str} : fl n (.str s) = PyData.strOk s := by cases n <;> simp [fl]
@[simp] theorem fl_stp {n : Nat} {s : Stp} : fl (n + 1) s.d = true := by cases s <;> simp [Stp.d]
@[simp] theorem eqv_ii {a b : Int} : PyData.eqv (.int a) (.int b) = decide (a = b) := by
  have h : PyData.eqv (.int a) (.int b) = (a == b) := by rw [PyData.eqv]
  rw [h]
  by_cases e : a = b <;> simp [e]
def Sq (x : D) (ds : List D) : Prop := x = .list ds ∨ x = .tuple ds
theorem Sq.it {x : D} {ds : List D} (h : Sq x ds) : iterA x = .ok ds := by rcases h with rfl | rfl <;> rfl
def eff (P : List PP) (d : Int) (N : List Int) : D := .tuple [rt P, .int d, stk N]
def lexB (p q : PP) : Bool := decide (p.1 < q.1 ∨ (p.1 = q.1 ∧ p.2 ≤ q.2))
theorem dataLe_tw (p q : PP) : PySem.W.dataLe false id (tw p) (tw q) = lexB p q := by
  obtain ⟨a, b⟩ := p
  obtain ⟨c, d⟩ := q
  simp only [PySem.W.dataLe, PySem.W.sortLe, cond_false, id, tw]
  simp [PySem.W.keyToks, PySem.W.keyToksAll, PyProof.Rows.lexLt, itemLt, lexB]
  by_cases h1 : a < c <;> by_cases h2 : c < a <;> by_cases h3 : b < d <;> by_cases h4 : d < b <;> simp [h1, h2, h3, h4] <;> omega
end Qa
namespace Qa
open PySem PySem.Spec PyProof.Rows L2 Evl Mi Pg Pu
theorem sort_tw (S : List PP) (h : S.length ≤ 100000) : ∀ {x : D}, Sq x (S.map tw) → sortedA x = .ok (.f ((S.mergeSort lexB).map tw)) := fun {x} hx => by
  have hs : sortP (S.map tw) := by
    refine ⟨fun a ha b hb => ?_, .inl fun a ha => ?_, fun a ha => ?_, ?_⟩
    · obtain ⟨p, _, rfl⟩ := List.mem_map.mp ha
      obtain ⟨q, _, rfl⟩ := List.mem_map.mp hb
      simp [tw, PySem.W.alike, PySem.W.alikeAll]
    · obtain ⟨p, _, rfl⟩ := List.mem_map.mp ha
      exact ⟨_, _, rfl⟩
    · obtain ⟨p, _, rfl⟩ := List.mem_map.mp ha
      simp [tw, PyData.depth, PyData.depthAll]
    · rw [List.length_map, z_szle]; omega
  have e : ((S.map tw).mergeSort fun a b => PySem.W.dataLe false id a b) = (S.mergeSort lexB).map tw :=
    (List.map_mergeSort (r := lexB) (f := tw) fun a _ b _ => (dataLe_tw a b).symm).symm
  rcases hx with rfl | rfl
  · simp [sortedA, hs, e]
  · simp [sortedA, hs, e]
def und (S : List PP) : List PP := scan [] (S.mergeSort lexB).reverse
theorem lexB_trans (a b c : PP) (h1 : lexB a b = true) (h2 : lexB b c = true) : lexB a c = true := by
  simp only [lexB, decide_eq_true_eq] at *
  omega
theorem lexB_total (a b : PP) : (lexB a b || lexB b a) = true := by
  simp only [lexB, Bool.or_eq_true, decide_eq_true_eq]
  omega
theorem und_top (S : List PP) : Top S (und S) := by
  have hp := List.pairwise_mergeSort lexB_trans lexB_total S
  have h := scan_top (S.mergeSort lexB).reverse [] [] Top.nil (fun p _ q hq => nomatch hq) (List.pairwise_reverse.mpr (hp.imp fun {a b} h => by
    simp only [lexB, decide_eq_true_eq] at h
    exact h))
  rw [List.nil_append] at h
  exact h.perm fun p => by rw [List.mem_reverse, List.mem_mergeSort]
theorem scan_fold : ∀ (r acc : List PP), scan acc r = r.foldl (fun a p => put p a) acc
  | [], _ => rfl
  | p :: r, acc => scan_fold r (put p acc)
theorem scan_len : ∀ (r acc : List PP), (scan acc r).length ≤ acc.length + r.length
  | [], acc => by simp [Pu.scan]
  | p :: r, acc => by
    have h := scan_len r (put p acc)
    have : (put p acc).length ≤ acc.length + 1 := by
      cases acc with
      | nil => simp [put]
      | cons q a => simp only [put]; split <;> simp
    simp [Pu.scan] at h ⊢
    omega
theorem und_len (S : List PP) : (und S).length ≤ S.length := by
  have := scan_len (S.mergeSort lexB).reverse []
  simpa [und] using this
theorem put_len (p : PP) (acc : List PP) : (put p acc).length ≤ acc.length + 1 := by
  cases acc with
  | nil => simp [put]
  | cons q a => simp only [put]; split <;> simp
def thr (N : List Int) (p : PP) : Bool := decide (∀ x ∈ N, x < p.1)
theorem bottom_stk {N : List Int} {n : Int} (h : N.getLast? = some n) : ∃ c, ixG (stk N) (.int 0) = .ok (.d (tw (n, c))) := by
  obtain ⟨c, Q, e⟩ := runs_last h
  refine ⟨c, ?_⟩
  simp [stk, rt, e]
theorem eqS_stk_nil {N : List Int} : eqS (stk N) (.tuple []) = .ok (.d (.bool (decide (N = [])))) := eqS_fl (by simp) (by simp) (by rw [← stk_nil, stk_inj])
def tk (P : List PP) (d : Int) (T : List Int) : Int := maxL d (P.map fun p => cb T p.1 + p.2)
def jo (e f : List PP × Int × List Int) : List PP × Int × List Int :=
  (und (e.1.map (shift (max 0 (tk f.1 f.2.1 e.2.2 - e.2.2.length))) ++ f.1.filter (thr e.2.2)), e.2.1 + max 0 (tk f.1 f.2.1 e.2.2 - e.2.2.length), f.2.2 ++ e.2.2.drop (min (e.2.2.length : Int) (tk f.1 f.2.1 e.2.2)).toNat)
abbrev effE (e : List PP × Int × List Int) : D := eff e.1 e.2.1 e.2.2
end Qa
namespace Qa
open PySem PySem.Spec PyProof.Rows L2 Evl Mi Pg Pu
abbrev Ef := List PP × Int × List Int
structure Valid (e : Ef) : Prop where
  chain : e.1.Pairwise fun p q => p.1 < q.1 ∧ q.2 < p.2
  nn : ∀ p ∈ e.1, 0 ≤ p.2
  le : ∀ p ∈ e.1, p.2 ≤ e.2.1
  d0 : 0 ≤ e.2.1
  nev : Never e.2.2
  cov : ∀ x ∈ e.2.2, ∃ p ∈ e.1, x ≤ p.1
theorem cb_nil (t : Int) : cb [] t = 0 := rfl
theorem cb_cons (x t : Int) (T : List Int) : cb (x :: T) t = cb T t + if x < t then 1 else 0 := by
  unfold cb
  by_cases h : x < t <;> simp [h]
theorem cb_app (U T : List Int) (t : Int) : cb (U ++ T) t = cb U t + cb T t := by
  induction U with
  | nil => simp [cb_nil]
  | cons x U ih => rw [List.cons_append, cb_cons, cb_cons, ih]; omega
theorem cb_all {T : List Int} {t : Int} (h : ∀ x ∈ T, x < t) : cb T t = T.length := by
  induction T with
  | nil => rfl
  | cons x T ih =>
    rw [cb_cons, ih fun y hy => h y (List.mem_cons_of_mem _ hy), if_pos (h x List.mem_cons_self)]
    simp
theorem cb_none {T : List Int} {t : Int} (h : ∀ x ∈ T, t ≤ x) : cb T t = 0 := by
  induction T with
  | nil => rfl
  | cons x T ih =>
    have := h x List.mem_cons_self
    rw [cb_cons, ih fun y hy => h y (List.mem_cons_of_mem _ hy), if_neg (by omega)]
    rfl
theorem never_drop {T : List Int} (k : Nat) (h : Never T) : Never (T.drop k) := List.Pairwise.sublist (List.drop_sublist k T) h
theorem drop_ge : ∀ {T : List Int} {t : Int} {k : Nat}, Never T → cb T t ≤ k → ∀ y ∈ T.drop k, t ≤ y
  | [], t, k, _, _, y, hy => by simp at hy
  | x :: T, t, 0, hN, h, y, hy => by
    have h' := List.pairwise_cons.mp hN
    rw [cb_cons] at h
    have := (cb_le T t).1
    have hx : t ≤ x := by
      by_cases q : x < t
      · rw [if_pos q] at h; omega
      · omega
    rcases List.mem_cons.mp hy with rfl | hy
    · exact hx
    · have := h'.1 y hy; omega
  | x :: T, t, k + 1, hN, h, y, hy => by
    have h' := List.pairwise_cons.mp hN
    rw [cb_cons] at h
    refine drop_ge (T := T) (k := k) h'.2 ?_ y hy
    by_cases q : x < t
    · rw [if_pos q] at h; omega
    · have : cb T t = 0 := cb_none fun y hy => by have := h'.1 y hy; omega
      omega
theorem cb_drop_sub : ∀ {T : List Int} {t : Int} {k : Nat}, Never T → cb (T.drop k) t = max 0 (cb T t - k)
  | T, t, 0, _ => by have := (cb_le T t).1; simp; omega
  | [], t, k + 1, _ => by simp [cb_nil]; omega
  | x :: T, t, k + 1, hN => by
    have h' := List.pairwise_cons.mp hN
    rw [List.drop_succ_cons, cb_drop_sub h'.2, cb_cons]
    by_cases q : x < t
    · rw [if_pos q]; omega
    · rw [if_neg q]
      have : cb T t = 0 := cb_none fun y hy => by have := h'.1 y hy; omega
      omega
theorem tk_ge (P : List PP) (d : Int) (T : List Int) : d ≤ tk P d T ∧ ∀ p ∈ P, cb T p.1 + p.2 ≤ tk P d T := by
  have h := maxL_ge (P.map fun p => cb T p.1 + p.2) d
  exact ⟨h.1, fun p hp => h.2 _ (List.mem_map_of_mem hp)⟩
theorem maxL_mem : ∀ (l : List Int) (m : Int), maxL m l = m ∨ maxL m l ∈ l
  | [], m => .inl rfl
  | x :: l, m => by
    show maxL (if m < x then x else m) l = m ∨ maxL (if m < x then x else m) l ∈ x :: l
    rcases maxL_mem l (if m < x then x else m) with h | h
    · split at h
      · right; rw [if_pos ‹_›, h]; exact List.mem_cons_self
      · left; rw [if_neg ‹_›, h]
    · right; exact List.mem_cons_of_mem _ h
theorem tk_mem (P : List PP) (d : Int) (T : List Int) : tk P d T = d ∨ ∃ p ∈ P, tk P d T = cb T p.1 + p.2 := by
  rcases maxL_mem (P.map fun p => cb T p.1 + p.2) d with h | h
  · exact .inl h
  · obtain ⟨p, hp, e⟩ := List.mem_map.mp h
    exact .inr ⟨p, hp, e.symm⟩
theorem tk_eq {P : List PP} {d : Int} {T : List Int} {v : Int} (h1 : d ≤ v) (h2 : ∀ p ∈ P, cb T p.1 + p.2 ≤ v) (h3 : v = d ∨ ∃ p ∈ P, v = cb T p.1 + p.2) : tk P d T = v := by
  obtain ⟨g1, g2⟩ := tk_ge P d T
  refine Int.le_antisymm ?_ ?_
  · rcases tk_mem P d T with e | ⟨p, hp, e⟩
    · omega
    · have := h2 p hp; omega
  · rcases h3 with e | ⟨p, hp, e⟩
    · omega
    · have := g2 p hp; omega
theorem never_app {U T : List Int} (h1 : Never U) (h2 : Never T) (h : ∀ x ∈ U, ∀ y ∈ T, x ≤ y) : Never (U ++ T) := List.pairwise_append.mpr ⟨h1, h2, h⟩
theorem mem_und {S : List PP} {p : PP} (h : p ∈ und S) : p ∈ S := (und_top S).sub p h
theorem jo_valid {e f : Ef} (he : Valid e) (hf : Valid f) : Valid (jo e f) := by
  obtain ⟨P, d, N⟩ := e
  obtain ⟨P2, d2, N2⟩ := f
  obtain ⟨t1, t2⟩ := tk_ge P2 d2 N
  have hd2 := hf.d0
  have hd := he.d0
  have hN := he.nev
  dsimp only at hd hd2 hN
  have top := und_top (P.map (shift (max 0 (tk P2 d2 N - N.length))) ++ P2.filter (thr N))
  have src : ∀ p ∈ P.map (shift (max 0 (tk P2 d2 N - N.length))) ++ P2.filter (thr N), 0 ≤ p.2 ∧ p.2 ≤ d + max 0 (tk P2 d2 N - N.length) := fun p hp => by
    rcases List.mem_append.mp hp with h | h
    · obtain ⟨q, hq, rfl⟩ := List.mem_map.mp h
      have a := he.nn q hq
      have b := he.le q hq
      dsimp only at b
      simp only [shift]
      omega
    · obtain ⟨h, ht⟩ := List.mem_filter.mp h
      have a := hf.nn p h
      have b := t2 p h
      rw [cb_all (of_decide_eq_true ht)] at b
      omega
  have dropge : ∀ p ∈ P2, ∀ y ∈ N.drop (min (N.length : Int) (tk P2 d2 N)).toNat, p.1 ≤ y := fun p hp y hy => by
    have b := t2 p hp
    have a := hf.nn p hp
    have c := cb_le N p.1
    refine drop_ge (k := (min (N.length : Int) (tk P2 d2 N)).toNat) hN ?_ y hy
    omega
  have back : ∀ y ∈ N, ∃ q ∈ und (P.map (shift (max 0 (tk P2 d2 N - N.length))) ++ P2.filter (thr N)), y ≤ q.1 := fun y hy => by
    obtain ⟨p, hp, h⟩ := he.cov y hy
    obtain ⟨q, hq, dm⟩ := top.dom (shift (max 0 (tk P2 d2 N - N.length)) p) (List.mem_append_left _ (List.mem_map_of_mem hp))
    exact ⟨q, hq, Int.le_trans h dm.1⟩
  refine ⟨top.chain, fun p hp => (src p (top.sub p hp)).1, fun p hp => (src p (top.sub p hp)).2, ?_, ?_, ?_⟩
  · show 0 ≤ d + max 0 (tk P2 d2 N - N.length)
    omega
  · refine never_app hf.nev (never_drop _ hN) fun x hx y hy => ?_
    obtain ⟨p, hp, h⟩ := hf.cov x hx
    exact Int.le_trans h (dropge p hp y hy)
  · intro x hx
    rcases List.mem_append.mp hx with hx | hx
    · obtain ⟨p, hp, h⟩ := hf.cov x hx
      by_cases ht : thr N p = true
      · obtain ⟨q, hq, dm⟩ := top.dom p (List.mem_append_right _ (List.mem_filter.mpr ⟨hp, ht⟩))
        exact ⟨q, hq, Int.le_trans h dm.1⟩
      · have : ∃ y ∈ N, p.1 ≤ y := by
          simp only [thr, decide_eq_true_eq] at ht
          simpa using ht
        obtain ⟨y, hy, hxy⟩ := this
        obtain ⟨q, hq, hyq⟩ := back y hy
        exact ⟨q, hq, by omega⟩
    · exact back x (List.mem_of_mem_drop hx)
def stepE : Stp → Ef
  | .push n c => ([(n, 0)], 0, List.replicate c.toNat n)
  | .pop c => ([], c, [])
theorem stepE_valid {s : Stp} (h : 1 ≤ s.cnt) : Valid (stepE s) := by
  cases s with
  | push n c =>
    refine ⟨List.pairwise_singleton _ _, fun p hp => ?_, fun p hp => ?_, Int.le_refl _, List.pairwise_replicate.mpr (.inr (Int.le_refl _)), fun x hx => ⟨(n, 0), List.mem_singleton.mpr rfl, ?_⟩⟩
    · rw [List.mem_singleton.mp hp]; exact Int.le_refl _
    · rw [List.mem_singleton.mp hp]; exact Int.le_refl _
    · rw [List.eq_of_mem_replicate hx]; exact Int.le_refl _
  | pop c =>
    have : 1 ≤ c := h
    refine ⟨.nil, (fun p hp => nomatch hp), (fun p hp => nomatch hp), ?_, .nil, fun x hx => nomatch hx⟩
    show 0 ≤ c
    omega
def effL (ss : List Stp) : Ef := ss.foldl (fun e s => jo e (stepE s)) ([], 0, [])
theorem id_valid : Valid ([], 0, []) := ⟨.nil, (fun p hp => nomatch hp), (fun p hp => nomatch hp), Int.le_refl _, .nil, fun x hx => nomatch hx⟩
theorem fold_valid : ∀ (ss : List Stp) (e : Ef), Valid e → (∀ s ∈ ss, 1 ≤ s.cnt) → Valid (ss.foldl (fun e s => jo e (stepE s)) e)
  | [], e, h, _ => h
  | s :: ss, e, h, hc => fold_valid ss _ (jo_valid h (stepE_valid (hc s List.mem_cons_self))) fun t ht => hc t (List.mem_cons_of_mem _ ht)
theorem effL_valid {ss : List Stp} (hc : ∀ s ∈ ss, 1 ≤ s.cnt) : Valid (effL ss) := fold_valid ss _ id_valid hc
theorem jo_len (e f : Ef) : (jo e f).1.length ≤ e.1.length + f.1.length := by
  refine Nat.le_trans (und_len _) ?_
  rw [List.length_append, List.length_map]
  have := List.length_filter_le (thr e.2.2) f.1
  omega
theorem jo_few (e f : Ef) : (runsT (jo e f).2.2).length ≤ (runsT e.2.2).length + (runsT f.2.2).length := by
  refine Nat.le_trans (runs_app_len _ _) ?_
  have := runs_drop_len (min (e.2.2.length : Int) (tk f.1 f.2.1 e.2.2)).toNat e.2.2
  omega
theorem stepE_len (s : Stp) (h : 1 ≤ s.cnt) : (stepE s).1.length ≤ 1 ∧ (runsT (stepE s).2.2).length ≤ 1 := by
  cases s with
  | push n c =>
    have : 1 ≤ c := h
    refine ⟨Nat.le_refl _, ?_⟩
    show (runsT (List.replicate c.toNat n)).length ≤ 1
    rw [runs_one n c.toNat (by omega)]
    simp
  | pop c => exact ⟨Nat.zero_le _, Nat.zero_le _⟩
end Qa
namespace Qa
open PySem PySem.Spec PyProof.Rows L2 Evl Mi Pg Pu
theorem is_pair_tw (p : PP) : m_is_pair [.d (tw p)] = .ok ([.d (tw p)], .d (.bool (decide (0 ≤ p.2)))) := by
  simp [m_is_pair, b_is_pair, tw, is_integer_int]
def IsPs (P : List PP) : Prop := (∀ p ∈ P, 0 ≤ p.2) ∧ P.Pairwise fun p q => p.1 < q.1 ∧ q.2 < p.2
instance (L : List PP) : Decidable (IsPs L) := by unfold IsPs; infer_instance
theorem all_adj2 : ∀ L : List PP, ((L.zip L.tail).all fun z => (decide (z.1.1 < z.2.1) && decide (z.2.2 < z.1.2))) = true ↔ L.Pairwise fun p q => p.1 < q.1 ∧ q.2 < p.2
  | [] => by simp
  | [p] => by simp
  | p :: q :: r => by
    have ih := all_adj2 (q :: r)
    simp only [List.tail_cons, List.zip_cons_cons, List.all_cons, Bool.and_eq_true, decide_eq_true_eq] at ih ⊢
    rw [ih]
    constructor
    · rintro ⟨h1, h2⟩
      refine List.pairwise_cons.mpr ⟨fun a ha => ?_, h2⟩
      rcases List.mem_cons.mp ha with rfl | ha
      · exact h1
      · have := (List.pairwise_cons.mp h2).1 a ha
        omega
    · intro h
      obtain ⟨h1, h2⟩ := List.pairwise_cons.mp h
      exact ⟨h1 q List.mem_cons_self, h2⟩
theorem are_pairs_rt (P : List PP) (hl : P.length ≤ 100000) : m_are_pairs [.d (rt P)] = .ok ([.d (rt P)], .d (.bool (decide (IsPs P)))) := by
  have h1 : l1_are_pairs [.d (rt P), .un, .un, .un, .un] = .ok ([.d (rt P), .un, .un, .un, .un], .f (P.map fun p => .bool (decide (0 ≤ p.2)))) :=
    sLc_map tw _ (by simp [rt]) rfl (fun p _ => ⟨[.d (rt P), .un, .d (tw p), .un, .un], rfl, by simp [is_pair_tw], rfl⟩) (by omega)
  have hz : listZipG [rt P, .tuple (P.map tw).tail] = .ok (.f ((P.zip P.tail).map fun z => .tuple [tw z.1, tw z.2])) := by
    rw [rt, z_listZip, ← List.map_tail, pairUp_map]
  have hs : slG (rt P) (some 1) none = .ok (.d (.tuple (P.map tw).tail)) := by rw [rt, q_slGt, cut_drop1]
  have t : tyD (rt P) = some "tuple" := rfl
  have h2 : ∀ Z : List (PP × PP), Z.length ≤ 100000 → l2_are_pairs [.d (rt P), .d (.list (Z.map fun z => .tuple [tw z.1, tw z.2])), .un, .un, .un] = .ok ([.d (rt P), .d (.list (Z.map fun z => .tuple [tw z.1, tw z.2])), .un, .un, .un], .f (Z.map fun z => .bool (decide (z.1.1 < z.2.1) && decide (z.2.2 < z.1.2)))) := fun Z hZ =>
    sLc_map (fun z : PP × PP => .tuple [tw z.1, tw z.2]) _ (by simp) rfl (fun z _ => ⟨[.d (rt P), .d (.list (Z.map fun z => .tuple [tw z.1, tw z.2])), .un, .d (tw z.1), .d (tw z.2)], by simp, by
      by_cases a : z.1.1 < z.2.1 <;> simp [tw, a], rfl⟩) (by omega)
  have h2' : ∀ Z : List (PP × PP), Z.length ≤ 100000 → l2_are_pairs [.d (rt P), .own false (Z.map fun z => .tuple [tw z.1, tw z.2]), .un, .un, .un] = .ok ([.d (rt P), .d (.list (Z.map fun z => .tuple [tw z.1, tw z.2])), .un, .un, .un], .f (Z.map fun z => .bool (decide (z.1.1 < z.2.1) && decide (z.2.2 < z.1.2)))) := fun Z hZ => by
    rw [← h2 Z hZ]
    unfold l2_are_pairs sLc
    simp
  have hZ : (P.zip P.tail).length ≤ 100000 := by simp; omega
  by_cases a : (∀ p ∈ P, 0 ≤ p.2)
  · have a1 : (P.all fun p => decide (0 ≤ p.2)) = true := by simpa using a
    have a2 : decide (IsPs P) = ((P.zip P.tail).all fun z => (decide (z.1.1 < z.2.1) && decide (z.2.2 < z.1.2))) := by
      rw [Bool.eq_iff_iff, all_adj2, decide_eq_true_eq]
      exact ⟨fun h => h.2, fun h => ⟨a, h⟩⟩
    simp only [m_are_pairs, b_are_pairs, a2]
    simp [h1, hz, hs, h2' _ hZ, t, allG_map, a1]
  · have a1 : (P.all fun p => decide (0 ≤ p.2)) = false := by
      rw [Bool.eq_false_iff]
      intro h
      exact a (by simpa using h)
    have a2 : decide (IsPs P) = false := decide_eq_false fun h => a h.1
    simp only [m_are_pairs, b_are_pairs, a2]
    simp [h1, t, allG_map, a1]
theorem eqS_rt_nil {P : List PP} : eqS (rt P) (.tuple []) = .ok (.d (.bool (decide (P = [])))) := eqS_fl (by simp) (by simp) (by cases P <;> simp [rt])
theorem is_effect_ok {e : Ef} (v : Valid e) (h1 : e.1.length ≤ 1000) (hf : Few e.2.2) : m_is_effect [.d (effE e)] = .ok ([.d (effE e)], .d (.bool true)) := by
  obtain ⟨P, d, N⟩ := e
  have hps : decide (IsPs P) = true := decide_eq_true ⟨v.nn, v.chain⟩
  have e1 := are_pairs_rt P (by dsimp only at h1; omega)
  rw [hps] at e1
  have e2 := is_stack_stk hf v.nev
  have hd := v.d0
  dsimp only at hd e2
  have a0 : gTup' (gCons' (gN 1) (gCons' (gN 2) (gCons' (gN 3) gNil'))) 3 (eff P d N) [.d (eff P d N), .un, .un, .un] = some [.d (eff P d N), .d (rt P), .d (.int d), .d (stk N)] := by simp [eff]
  have t : tyD (eff P d N) = some "tuple" := rfl
  have l : lenG (eff P d N) = .ok (.d (.int 3)) := rfl
  cases P with
  | nil =>
    have hN : N = [] := by
      cases N with
      | nil => rfl
      | cons x N => obtain ⟨p, hp, _⟩ := v.cov x List.mem_cons_self; cases hp
    subst hN
    have hd' : ¬ d < 0 := by omega
    simp [m_is_effect, b_is_effect, t, l, a0, e1, e2, is_integer_int, eqS_rt_nil, eqS_stk_nil, hd']
  | cons p P =>
    have i1 : ixG (rt (p :: P)) (.int 0) = .ok (.d (tw p)) := by simp [rt]
    have i2 : ixG (tw p) (.int 1) = .ok (.d (.int p.2)) := by simp [tw]
    have hd' : ¬ d < 0 := by omega
    have le : p.2 ≤ d := v.le p List.mem_cons_self
    obtain ⟨q, hq⟩ : ∃ q, (p :: P).getLast? = some q := by
      cases e : (p :: P).getLast? with
      | none => simp at e
      | some q => exact ⟨q, rfl⟩
    have i3 : ixG (rt (p :: P)) (.int (-1)) = .ok (.d (tw q)) := by
      have : atI ((p :: P).map tw) (-1) = some (tw q) := at_last (by rw [List.getLast?_map, hq]; rfl)
      rw [rt, z_ixt, this]
    have i4 : ∀ r : PP, ixG (tw r) (.int 0) = .ok (.d (.int r.1)) := fun r => by simp [tw]
    cases eN : N.getLast? with
    | none =>
      have hN := List.getLast?_eq_none_iff.mp eN
      subst hN
      simp [m_is_effect, b_is_effect, t, l, a0, e1, e2, is_integer_int, eqS_rt_nil, eqS_stk_nil, hd', i1, i2, le]
    | some n =>
      obtain ⟨c, hb⟩ := bottom_stk eN
      have ne : N ≠ [] := fun z => by rw [z] at eN; cases eN
      have nq : n ≤ q.1 := by
        obtain ⟨r, hr, h⟩ := v.cov n (List.mem_of_getLast? eN)
        have : r.1 ≤ q.1 := by
          have hc := v.chain
          dsimp only at hc hr
          rcases List.mem_iff_append.mp hr with ⟨A, B, eAB⟩
          have hq' : q ∈ r :: B := by
            rw [eAB, List.getLast?_append] at hq
            cases hB : (r :: B).getLast? with
            | none => simp at hB
            | some z =>
              rw [hB] at hq
              simp at hq
              subst hq
              exact List.mem_of_getLast? hB
          rw [eAB] at hc
          rcases List.mem_cons.mp hq' with e | hq'
          · rw [e]; exact Int.le_refl _
          · have := (List.pairwise_cons.mp (List.pairwise_append.mp hc).2.1).1 q hq'
            omega
        omega
      simp [m_is_effect, b_is_effect, t, l, a0, e1, e2, is_integer_int, eqS_rt_nil, eqS_stk_nil, hd', i1, i2, i3, i4, le, ne, hb, nq]
theorem check_effect_ok {e : Ef} (v : Valid e) (h1 : e.1.length ≤ 1000) (hf : Few e.2.2) : m_check_effect [.d (effE e)] = .ok ([.d (effE e)], .d .none) := by
  simp [m_check_effect, b_check_effect, is_effect_ok v h1 hf]
end Qa
namespace Qa
open PySem PySem.Spec PyProof.Rows L2 Evl Mi Pg Pu
@[simp] theorem z_rng1 {k : Int} (h1 : -4611686018427387904 ≤ k) (h2 : k < 4611686018427387904) : rng1 [.int k] = .ok (rangeD 0 k.toNat) := by
  have : fits62 k = true := okB_of ⟨by omega, by omega⟩
  simp [rng1, this]
@[simp] theorem z_rng2 {i j : Int} (h1 : -4611686018427387904 ≤ i) (h2 : i < 4611686018427387904) (h3 : -4611686018427387904 ≤ j) (h4 : j < 4611686018427387904) : rng2 [.int i, .int j] = .ok (rangeD i (j - i).toNat) := by
  have a : fits62 i = true := okB_of ⟨by omega, by omega⟩
  have b : fits62 j = true := okB_of ⟨by omega, by omega⟩
  simp [rng2, a, b]
abbrev Pool := Int × Int
def pl (p : Pool) : List D := [.int p.1, .int p.2]
def nextS (s : Int) : Int := (s * 48271 + 12345) % 2147483647
def tv (p : Pool) (n : Int) : Int := if 0 < p.1 then p.1 % n else nextS p.2 * nextS p.2 % 2147483629 / 64 % n
def nx (p : Pool) (n : Int) : Pool := if 0 < p.1 then (p.1 / n, p.2) else (p.1, nextS p.2)
theorem nextS_lt (s : Int) : 0 ≤ nextS s ∧ nextS s < 2147483647 := ⟨Int.emod_nonneg _ (by decide), Int.emod_lt_of_pos _ (by decide)⟩
theorem tv_lt (p : Pool) {n : Int} (hn : 0 < n) : 0 ≤ tv p n ∧ tv p n < n := by
  unfold tv
  split
  · exact ⟨Int.emod_nonneg _ (by omega), Int.emod_lt_of_pos _ hn⟩
  · exact ⟨Int.emod_nonneg _ (by omega), Int.emod_lt_of_pos _ hn⟩
theorem log2_lt {n : Int} (h0 : 0 < n) (h : n < 2 ^ 4000) : n.natAbs.log2 < 9000 := by
  have h2 : n.natAbs ≠ 0 := by omega
  have h1 : n.natAbs < 2 ^ 4000 := by
    have e : ((2 : Int) ^ 4000) = ((2 ^ 4000 : Nat) : Int) := by norm_cast
    rw [e] at h
    omega
  have := (Nat.log2_lt h2).mpr h1
  omega
theorem take_ok (p : Pool) {n : Int} (hn : 0 < n) (hn2 : n < 2 ^ 4000) : m__law_take [.own true (pl p), .d (.int n)] = .ok ([.own true (pl (nx p n)), .d (.int n)], .d (.int (tv p n))) := by
  have hl : n.natAbs.log2 < 9000 := log2_lt hn hn2
  have l64 : Nat.log2 64 < 9000 := by decide +kernel
  obtain ⟨h, s⟩ := p
  by_cases hh : 0 < h
  · simp [m__law_take, b__law_take, pl, nx, tv, hh, hn, hl]
  · have m2 : mulOk (nextS s) (nextS s) = true := by
      obtain ⟨a, b⟩ := nextS_lt s
      exact mul_small (by omega) (by omega)
    have e : (s * 48271 + 12345) % 2147483647 = nextS s := rfl
    simp [m__law_take, b__law_take, pl, nx, tv, hh, hn, l64, e, m2]
structure Drawn (ss : List Stp) (most : Nat) (lo hi c : Int) : Prop where
  len : ss.length ≤ most
  cnt : ∀ s ∈ ss, 1 ≤ s.cnt ∧ s.cnt ≤ c
  num : ∀ n k, Stp.push n k ∈ ss → lo ≤ n ∧ n < hi
theorem Drawn.snoc {ss : List Stp} {most : Nat} {lo hi c : Int} {s : Stp} (h : Drawn ss most lo hi c) (h1 : 1 ≤ s.cnt ∧ s.cnt ≤ c) (h2 : ∀ n k, s = Stp.push n k → lo ≤ n ∧ n < hi) : Drawn (ss ++ [s]) (most + 1) lo hi c where
  len := by rw [List.length_append]; exact Nat.succ_le_succ h.len
  cnt := fun t ht => by
    rcases List.mem_append.mp ht with ht | ht
    · exact h.cnt t ht
    · rw [List.mem_singleton.mp ht]; exact h1
  num := fun n k ht => by
    rcases List.mem_append.mp ht with ht | ht
    · exact h.num n k ht
    · exact h2 n k (List.mem_singleton.mp ht).symm
theorem Drawn.ok {ss : List Stp} {most : Nat} {lo hi c : Int} (h : Drawn ss most lo hi c) : ∀ s ∈ ss, 1 ≤ s.cnt := fun s hs => (h.cnt s hs).1
end Qa
namespace Qa
open PySem PySem.Spec PyProof.Rows L2 Evl Mi Pg Pu
@[simp] theorem z_p18 : powG (.int 10) (.int 18) = .ok (.d (.int 1000000000000000000)) := p18
@[simp] theorem z_p30 : powG (.int 10) (.int 30) = .ok (.d (.int 1000000000000000000000000000000)) := p30
theorem emod_b (a : Int) {n : Int} (h : 0 < n) : 0 ≤ a % n ∧ a % n < n := ⟨Int.emod_nonneg _ (by omega), Int.emod_lt_of_pos _ h⟩
theorem pool01_ok (ns : List Int) (k : Nat) (hk : k < 64) : ∃ p : Pool, m__law_pool_k01 [.scr ns, .d (.int k)] = .ok ([.scr ns, .d (.int k)], .f (pl p)) := by
  have mk := fun i => mul_small (i := i) (j := (k : Int) + 1) (by omega) (by omega)
  have mk7 := fun i => mul_small (i := i) (j := (k : Int) + 7) (by omega) (by omega)
  have mb := fun i : Int => by
    obtain ⟨a, b⟩ := emod_b i (n := 2147483629) (by decide)
    exact mul_small (i := i % 2147483629) (j := i % 2147483629) (by omega) (by omega)
  have m01 : ∀ (i : Int) (p : Prop) [Decidable p], mulOk i (if p then 1 else 0) = true := fun i p _ => by split <;> exact mul_small (by decide) (by decide)
  have key : ∀ c : Int, ∃ p : Pool, (sSeq (sSet 3 (sUn absG (sName 2)))
      (sSeq (sSet 4 (sBin modG (sPub (sBin mulG (sPub (sBin addG (sPub (sBin modG (sName 2) (sC (.int 2147483629)))) (sPub (sBin mulG (sC (.int 104729)) (sPub (sBin addG (sName 1) (sC (.int 1)))))))) (sPub (sBin addG (sName 1) (sC (.int 7)))))) (sC (.int 2147483629))))
      (sSeq (sSet 5 (sBin modG (sPub (sBin mulG (sPub (sBin modG (sPub (sBin mulG (sName 4) (sName 4))) (sC (.int 2147483629)))) (sC (.int 48271)))) (sC (.int 2147483647))))
      (sRet (sLst (sCons (sPub (sBin mulG (sName 3) (sPub (sUn intG (sPub (sBin geG (sName 3) (sPub (sBin powG (sC (.int 10)) (sC (.int 18)))))))))) (sCons (sName 5) sNil))))))) [.scr ns, .d (.int k), .d (.int c), .un, .un, .un]
      = .ok ([.scr ns, .d (.int k), .d (.int c), .d (.int (if c < 0 then -c else c)), .d (.int ((c % 2147483629 + 104729 * (k + 1)) * (k + 7) % 2147483629)), .d (.int p.2)], .rt (.f (pl p))) := fun c => by
    refine ⟨((if c < 0 then -c else c) * (if 1000000000000000000 ≤ (if c < 0 then -c else c) then 1 else 0), (c % 2147483629 + 104729 * (k + 1)) * (k + 7) % 2147483629 * ((c % 2147483629 + 104729 * (k + 1)) * (k + 7) % 2147483629) % 2147483629 * 48271 % 2147483647), ?_⟩
    generalize hm : (if c < 0 then -c else c) = m
    simp [mk, mk7, mb, hm, m01, pl]
  by_cases hl : k < ns.length
  · have hl' : (k : Int) < (ns.length : Int) := by omega
    have e : atI ns (k : Int) = some ns[k] := atI_nat (List.getElem?_eq_getElem hl)
    obtain ⟨p, e1⟩ := key ns[k]
    refine ⟨p, ?_⟩
    unfold m__law_pool_k01 b__law_pool_k01
    generalize (sSeq (sSet 3 (sUn absG (sName 2))) _) = T at e1 ⊢
    simp [sLenScr, sIxScr, hl', e, e1]
  · have hl' : ¬ (k : Int) < (ns.length : Int) := by omega
    obtain ⟨p, e1⟩ := key 0
    refine ⟨p, ?_⟩
    unfold m__law_pool_k01 b__law_pool_k01
    generalize (sSeq (sSet 3 (sUn absG (sName 2))) _) = T at e1 ⊢
    simp [sLenScr, sIxScr, hl', e1]
end Qa
namespace Qa
open PySem PySem.Spec PyProof.Rows L2 Evl Mi Pg Pu
def il (T : List Int) : List D := T.reverse.map .int
theorem il_len (T : List Int) : (il T).length = T.length := by simp [il]
theorem il_cons (n : Int) (T : List Int) : il (n :: T) = il T ++ [.int n] := by simp [il]
theorem il_last (n : Int) (T : List Int) : (il (n :: T)).getLast? = some (.int n) := by rw [il_cons]; simp
theorem il_drop (n : Int) (T : List Int) : (il (n :: T)).dropLast = il T := by rw [il_cons]; simp
theorem il_at (n : Int) (T : List Int) : atI (il (n :: T)) (-1) = some (.int n) := at_last (il_last n T)
theorem fl_il {k : Nat} (T : List Int) : fl (k + 1) (.list (il T)) = true := by
  rw [fl_lst]
  exact flAll_map fun p _ => fl_int
theorem il_nil {T : List Int} : PyData.list (il T) = .list [] ↔ T = [] := by
  cases T <;> simp [il]
theorem eq_il (T : List Int) : eqS (.list (il T)) (.list []) = .ok (.d (.bool (decide (T = [])))) := eqS_fl (fl_il T) (by simp) il_nil
theorem ne_il (T : List Int) : neS (.list (il T)) (.list []) = .ok (.d (.bool (!decide (T = [])))) := neS_fl (fl_il T) (by simp) il_nil
theorem runs_fold : ∀ (L : List Int) (T : List Int), L.foldl (fun R n => addR n R) (runsT T) = runsT (L.reverse ++ T)
  | [], T => rfl
  | n :: L, T => by
    rw [List.foldl_cons]
    have := runs_fold L (n :: T)
    rw [show addR n (runsT T) = runsT (n :: T) from rfl, this]
    simp
theorem addR_len (n : Int) (R : List PP) : (addR n R).length ≤ R.length + 1 := by
  cases R with
  | nil => simp [addR]
  | cons q r => obtain ⟨m, c⟩ := q; simp only [addR]; split <;> simp
theorem runs_turn (x : Sl) (R : List PP) (n : Int) (hl : R.length ≤ 100000) : l1b__law_runs [x, .own false (R.reverse.map tw), .d (.int n)] = .ok ([x, .own false ((addR n R).reverse.map tw), .d (.int n)], .nx) := by
  cases R with
  | nil =>
    have : neS (.list []) (.list []) = .ok (.d (.bool false)) := neS_same (by simp)
    simp [l1b__law_runs, addR, this, tw]
  | cons q r =>
    obtain ⟨m, c⟩ := q
    have e1 : neS (.list ((((m, c) :: r).reverse).map tw)) (.list []) = .ok (.d (.bool true)) := by
      refine (neS_fl (p := False) ?_ (by simp) (by simp)).trans (by simp)
      rw [fl_lst]
      exact flAll_map fun p _ => fl_tw
    have e2 : atI (((m, c) :: r).reverse.map tw) (-1) = some (tw (m, c)) := at_last (by simp)
    have e3 : ixG (tw (m, c)) (.int 0) = .ok (.d (.int m)) := by simp [tw]
    have e4 : ixG (tw (m, c)) (.int 1) = .ok (.d (.int c)) := by simp [tw]
    have hl' : (((m, c) :: r).reverse.map tw).length < 16777216 := by simp at hl ⊢; omega
    have e5 : ixN (((m, c) :: r).reverse.map tw).length (-1) = some r.length := by
      unfold ixN
      rw [if_neg (by omega), if_pos (by simp; omega)]
      simp
      omega
    have e6 : (((m, c) :: r).reverse.map tw).set r.length (.tuple [.int n, .int (c + 1)]) = r.reverse.map tw ++ [tw (n, c + 1)] := by
      rw [List.reverse_cons, List.map_append, List.set_append_right _ _ (by simp)]
      simp [tw]
    by_cases h : m = n
    · subst h
      have e7 : (addR m ((m, c) :: r)).reverse.map tw = r.reverse.map tw ++ [tw (m, c + 1)] := by simp [addR]
      rw [e7, ← e6]
      generalize ((m, c) :: r).reverse.map tw = L at e1 e2 hl' e5
      simp [l1b__law_runs, e1, e2, e3, e4, e5]
    · have e7 : (addR n ((m, c) :: r)).reverse.map tw = ((m, c) :: r).reverse.map tw ++ [tw (n, 1)] := by simp [addR, h]
      rw [e7]
      generalize ((m, c) :: r).reverse.map tw = L at e1 e2 hl' e5
      simp [l1b__law_runs, e1, e2, e3, e4, h, hl', tw]
theorem runs_ok {x : D} {L : List Int} (h : Sq x (L.map .int)) (hl : L.length ≤ 100000) : m__law_runs [.d x] = .ok ([.d x], .d (stk L.reverse)) := by
  obtain ⟨t, e, hp⟩ := sFor_fold (g := gN 2) (b := l1b__law_runs) (it := sIt iterA (sName 0)) (Γ := [.d x, .own false [], .un]) (fun (R : List PP) (t : Sl) => [.d x, .own false (R.reverse.map tw), t]) PyData.int (fun R n => addR n R)
    (fun i R => R.length ≤ i) (xs := L) (s := []) .un (by simp [h.it]) (Nat.le_refl _) (fun i R t n hn hi hp => ⟨⟨[.d x, .own false (R.reverse.map tw), .d (.int n)], .d (.int n), rfl, runs_turn _ R n (by omega)⟩, Nat.le_trans (addR_len n R) (by omega)⟩)
  have e : l1__law_runs [.d x, .own false [], .un] = _ := e
  have e1 := runs_fold L []
  rw [List.append_nil] at e1
  rw [show runsT [] = [] from rfl] at e1
  rw [e1] at e
  have e2 : PyData.tuple ((runsT L.reverse).reverse.map tw) = stk L.reverse := rfl
  generalize (runsT L.reverse).reverse.map tw = M at e e2
  simp [m__law_runs, b__law_runs, e, e2]
structure Ls where
  T : List Int
  C : List PP
  d : Int
abbrev lsl (x : D) (s : Ls) (y : D) (t : Sl) : Ga := [.d x, .own false (il s.T), .own false (s.C.map tw), .d (.int s.d), .d y, t, .un, .un, .un, .un, .un]
def Ls.one (s : Ls) : Stp → Ls
  | .push n _ => ⟨n :: s.T.dropWhile (fun m => decide (m < n)), if s.T.dropWhile (fun m => decide (m < n)) = [] then s.C ++ [(n, s.d)] else s.C, s.d⟩
  | .pop _ => if s.T = [] then ⟨[], s.C, s.d + 1⟩ else ⟨s.T.tail, s.C, s.d⟩
theorem while_pop (x : D) (C : List D) (d n c : Int) (t : Sl) : ∀ T : List Int, l1__law_effect_k06 [.d x, .own false (il T), .own false C, .d (.int d), .d (Stp.push n c).d, t, .un, .un, .un, .un, .un] = .ok ([.d x, .own false (il (T.dropWhile fun m => decide (m < n))), .own false C, .d (.int d), .d (Stp.push n c).d, t, .un, .un, .un, .un, .un], .nx)
  | [] => by
    have := ne_il []
    exact sWhile_end (by simp [l1c__law_effect_k06, this])
  | m :: T => by
    have e1 := ne_il (m :: T)
    have e2 := il_at m T
    have e3 := il_last m T
    have e4 := il_drop m T
    have ix : ixG (Stp.push n c).d (.int 1) = .ok (.d (.int n)) := by simp [Stp.d]
    by_cases h : m < n
    · rw [List.dropWhile_cons_of_pos (by simpa using h)]
      refine sWhile_go (fl := .nx) (Γ1 := [.d x, .own false (il (m :: T)), .own false C, .d (.int d), .d (Stp.push n c).d, t, .un, .un, .un, .un, .un]) ?_ ?_ (.inl rfl) (while_pop x C d n c t T) (by simp)
      · simp [l1c__law_effect_k06, e1, e2, ix, h]
      · simp [l1b__law_effect_k06, e3, e4]
    · rw [List.dropWhile_cons_of_neg (by simpa using h)]
      exact sWhile_end (by simp [l1c__law_effect_k06, e1, e2, ix, h])
theorem ls_one_ok (x : D) (s : Ls) (st : Stp) (t : Sl) (h1 : s.T.length ≤ 100000) (h2 : s.C.length ≤ 100000) : l2b__law_effect_k06 (lsl x s st.d t) = .ok (lsl x (s.one st) st.d t, .nx) := by
  obtain ⟨T, C, d⟩ := s
  dsimp only at h1 h2
  cases st with
  | push n c =>
    have e0 := while_pop x (C.map tw) d n c t T
    have i0 : ixG (Stp.push n c).d (.int 0) = .ok (.d (.str "push")) := by simp [Stp.d]
    have i1 : ixG (Stp.push n c).d (.int 1) = .ok (.d (.int n)) := by simp [Stp.d]
    have hl : (T.dropWhile fun m => decide (m < n)).length ≤ T.length := by
      obtain ⟨k, ek⟩ := drop_while_eq T fun m => decide (m < n)
      rw [ek, List.length_drop]; omega
    show _ = Res.ok (lsl x ⟨_, _, _⟩ _ t, _)
    generalize T.dropWhile (fun m => decide (m < n)) = U at e0 hl
    have e1 := eq_il U
    have e2 : (il U).length < 16777216 := by rw [il_len]; omega
    have e3 : C.length < 16777216 := by omega
    have e4 := il_cons n U
    by_cases h : U = []
    · subst h
      simp [lsl, l2b__law_effect_k06, e0, i0, i1, e1, e2, e3, e4, tw]
    · simp [lsl, l2b__law_effect_k06, e0, i0, i1, e1, e2, e3, e4, h]
  | pop c =>
    have i0 : ixG (Stp.pop c).d (.int 0) = .ok (.d (.str "pop")) := by simp [Stp.d]
    cases T with
    | nil =>
      have e1 := ne_il []
      simp [lsl, l2b__law_effect_k06, i0, e1, pp_ne, Ls.one]
    | cons m T =>
      have e1 := ne_il (m :: T)
      have e3 := il_last m T
      have e4 := il_drop m T
      simp [lsl, l2b__law_effect_k06, i0, e1, e3, e4, pp_ne, Ls.one]
def Ls.rep (st : Stp) : Nat → Ls → Ls
  | 0, s => s
  | k + 1, s => Ls.rep st k (s.one st)
theorem fold_rep {α : Type} (st : Stp) : ∀ (xs : List α) (s : Ls), xs.foldl (fun s _ => s.one st) s = Ls.rep st xs.length s
  | [], s => rfl
  | _ :: xs, s => fold_rep st xs (s.one st)
theorem one_len (s : Ls) (st : Stp) : (s.one st).T.length ≤ s.T.length + 1 ∧ (s.one st).C.length ≤ s.C.length + 1 := by
  cases st with
  | push n c =>
    obtain ⟨k, ek⟩ := drop_while_eq s.T fun m => decide (m < n)
    refine ⟨?_, ?_⟩
    · show (n :: s.T.dropWhile _).length ≤ _
      rw [List.length_cons, ek, List.length_drop]; omega
    · show (if s.T.dropWhile (fun m => decide (m < n)) = [] then s.C ++ [(n, s.d)] else s.C).length ≤ _
      split <;> simp
  | pop c =>
    simp only [Ls.one]
    split <;> simp <;> omega
theorem turns_ok (x : D) (s : Ls) (st : Stp) (t : Sl) (hc0 : 0 ≤ st.cnt) (hc : st.cnt ≤ 1000) (h1 : s.T.length ≤ 10000) (h2 : s.C.length ≤ 10000) : ∃ t', l3b__law_effect_k06 (lsl x s st.d t) = .ok (lsl x (Ls.rep st st.cnt.toNat s) st.d t', .nx) := by
  obtain ⟨t', e, hp⟩ := sFor_fold (g := gN 5) (b := l2b__law_effect_k06) (it := sItA rng1 (sCons (sPub (sBin ixG (sName 4) (sPub (sUn negG (sC (.int 1)))))) sNil)) (Γ := lsl x s st.d t) (fun (s : Ls) (t : Sl) => lsl x s st.d t) (fun i : Nat => PyData.int (0 + i)) (fun s _ => s.one st)
    (fun i s => s.T.length ≤ 10000 + i ∧ s.C.length ≤ 10000 + i) (xs := List.range st.cnt.toNat) (s := s) t (by
      have i0 : ixG st.d (.int (-1)) = .ok (.d (.int st.cnt)) := by
        have : atI (match st with | .push n c => [.str "push", .int n, .int c] | .pop c => [.str "pop", .int c] : List D) (-1) = some (.int st.cnt) := at_last (by cases st <;> rfl)
        cases st <;> simp only [Stp.d, z_ixt] <;> simp only [this]
      have r := z_rng1 (k := st.cnt)
      simp [lsl, i0, show -4611686018427387904 ≤ st.cnt by omega, show st.cnt < 4611686018427387904 by omega, rangeD]) ⟨by omega, by omega⟩ (fun i s t k hk hi hp => by
      rw [List.length_range] at hi
      obtain ⟨a, b⟩ := one_len s st
      exact ⟨⟨lsl x s st.d (.d (.int (0 + k))), .d (.int (0 + k)), rfl, ls_one_ok x s st _ (by omega) (by omega)⟩, by omega, by omega⟩)
  refine ⟨t', ?_⟩
  rw [fold_rep, List.length_range] at e
  exact e
theorem rep_push (n c : Int) : ∀ (k : Nat) (T : List Int) (C : List PP) (d : Int), Ls.rep (.push n c) k ⟨n :: T, C, d⟩ = ⟨List.replicate k n ++ n :: T, C, d⟩
  | 0, T, C, d => rfl
  | k + 1, T, C, d => by
    rw [Ls.rep]
    have e : (⟨n :: T, C, d⟩ : Ls).one (.push n c) = ⟨n :: n :: T, C, d⟩ := by
      have : ¬ n < n := by omega
      simp [Ls.one, this]
    rw [e, rep_push n c k (n :: T) C d]
    congr 1
    rw [List.replicate_succ']
    simp
theorem many_push (n c : Int) (s : Ls) (h : 1 ≤ c) : Ls.rep (.push n c) c.toNat s = ⟨push s.T n c.toNat, if s.T.dropWhile (fun m => decide (m < n)) = [] then s.C ++ [(n, s.d)] else s.C, s.d⟩ := by
  obtain ⟨k, hk⟩ : ∃ k, c.toNat = k + 1 := ⟨c.toNat - 1, by omega⟩
  rw [hk, Ls.rep]
  show Ls.rep _ k ⟨n :: _, _, _⟩ = _
  rw [rep_push]
  congr 1
  unfold push
  rw [List.replicate_succ']
  simp
theorem many_pop (c : Int) : ∀ (k : Nat) (s : Ls), Ls.rep (.pop c) k s = ⟨s.T.drop k, s.C, s.d + max 0 ((k : Int) - s.T.length)⟩
  | 0, ⟨T, C, d⟩ => by
    have : max (0 : Int) (-(T.length : Int)) = 0 := by omega
    simp [Ls.rep, this]
  | k + 1, ⟨[], C, d⟩ => by
    rw [Ls.rep]
    have e : (⟨[], C, d⟩ : Ls).one (.pop c) = ⟨[], C, d + 1⟩ := rfl
    rw [e, many_pop c k]
    simp
    omega
  | k + 1, ⟨m :: T, C, d⟩ => by
    rw [Ls.rep]
    have e : (⟨m :: T, C, d⟩ : Ls).one (.pop c) = ⟨T, C, d⟩ := rfl
    rw [e, many_pop c k]
    simp
    omega
def lsAll (ss : List Stp) (s : Ls) : Ls := ss.foldl (fun s st => Ls.rep st st.cnt.toNat s) s
def Ls.pairs (s : Ls) : List PP := s.C.map fun p => (p.1, s.d - p.2)
theorem shift_zero (P : List PP) : P.map (shift 0) = P := by
  have : shift 0 = id := by
    funext p
    simp [shift]
  rw [this, List.map_id]
theorem drop_all : ∀ (N : List Int) (n : Int), N.dropWhile (fun m => decide (m < n)) = [] ↔ ∀ x ∈ N, x < n
  | [], n => by simp
  | m :: N, n => by
    by_cases h : m < n
    · rw [List.dropWhile_cons_of_pos (by simpa using h), drop_all N n]
      simp [h]
    · rw [List.dropWhile_cons_of_neg (by simpa using h)]
      simp [h]
theorem ls_step {e : Ef} {s : Ls} {st : Stp} (hc : 1 ≤ st.cnt) (hN : Never s.T) (h : Top s.pairs e.1 ∧ e.2.1 = s.d ∧ e.2.2 = s.T) :
    Top (Ls.rep st st.cnt.toNat s).pairs (jo e (stepE st)).1 ∧ (jo e (stepE st)).2.1 = (Ls.rep st st.cnt.toNat s).d ∧ (jo e (stepE st)).2.2 = (Ls.rep st st.cnt.toNat s).T := by
  obtain ⟨P, d, N⟩ := e
  obtain ⟨T, C, d'⟩ := s
  obtain ⟨h1, h2, h3⟩ := h
  dsimp only at h1 h2 h3 hN
  subst h2 h3
  cases st with
  | push n c =>
    have hc : 1 ≤ c := hc
    obtain ⟨c0, c1⟩ := cb_le N n
    have ht : tk [(n, 0)] 0 N = cb N n := tk_eq c0 (fun p hp => by rw [List.mem_singleton.mp hp]; simp) (.inr ⟨(n, 0), List.mem_singleton.mpr rfl, by simp⟩)
    have hb : max 0 (cb N n - N.length) = 0 := by omega
    have hm : (min (N.length : Int) (cb N n)).toNat = (cb N n).toNat := by omega
    rw [show (Stp.push n c).cnt = c from rfl, many_push n c _ hc]
    show Top (Ls.pairs _) (und _) ∧ _ ∧ _
    simp only [jo, stepE, ht, hb, hm, shift_zero, cb_drop n hN]
    refine ⟨?_, by simp, rfl⟩
    have all : N.dropWhile (fun m => decide (m < n)) = [] ↔ ∀ x ∈ N, x < n := by
      exact drop_all N n
    by_cases q : ∀ x ∈ N, x < n
    · have tt : thr N (n, 0) = true := decide_eq_true q
      have f : [(n, (0 : Int))].filter (thr N) = [(n, 0)] := by simp [tt]
      rw [f, if_pos (all.mpr q)]
      have := Top.join h1 (und_top (P ++ [(n, 0)]))
      simpa [Ls.pairs] using this
    · have tt : thr N (n, 0) = false := decide_eq_false q
      have f : [(n, (0 : Int))].filter (thr N) = [] := by simp [tt]
      rw [f, if_neg fun z => q (all.mp z)]
      have := Top.join h1 (und_top (P ++ []))
      simpa [Ls.pairs] using this
  | pop c =>
    have hc : 1 ≤ c := hc
    have ht : tk [] c N = c := rfl
    rw [show (Stp.pop c).cnt = c from rfl, many_pop]
    simp only [jo, stepE, ht, List.filter_nil, List.append_nil, List.nil_append]
    have e1 : ((c.toNat : Nat) : Int) = c := by omega
    have e2 : N.drop (min (N.length : Int) c).toNat = N.drop c.toNat := by
      by_cases q : c ≤ N.length
      · rw [show (min (N.length : Int) c) = c by omega]
      · rw [List.drop_eq_nil_of_le (by omega), List.drop_eq_nil_of_le (by omega)]
    refine ⟨?_, by rw [e1], e2⟩
    have hs := Top.shift (max 0 (c - N.length)) h1
    have := Top.join hs (und_top (P.map (shift (max 0 (c - N.length))) ++ []))
    simp only [List.append_nil] at this
    refine this.perm fun p => ?_
    unfold Ls.pairs
    rw [e1]
    simp only [List.map_map]
    have : (shift (max 0 (c - (N.length : Int))) ∘ fun p : PP => (p.1, d - p.2)) = fun p : PP => (p.1, d + max 0 (c - (N.length : Int)) - p.2) := by
      funext p
      simp [shift]
      omega
    rw [this]
theorem lsAll_top : ∀ (ss : List Stp) (e : Ef) (s : Ls), (∀ t ∈ ss, 1 ≤ t.cnt) → Valid e → Top s.pairs e.1 ∧ e.2.1 = s.d ∧ e.2.2 = s.T →
    Top (lsAll ss s).pairs (ss.foldl (fun e s => jo e (stepE s)) e).1 ∧ (ss.foldl (fun e s => jo e (stepE s)) e).2.1 = (lsAll ss s).d ∧ (ss.foldl (fun e s => jo e (stepE s)) e).2.2 = (lsAll ss s).T
  | [], e, s, _, _, h => h
  | t :: ss, e, s, hc, v, h => by
    have h1 := hc t List.mem_cons_self
    exact lsAll_top ss (jo e (stepE t)) (Ls.rep t t.cnt.toNat s) (fun u hu => hc u (List.mem_cons_of_mem _ hu)) (jo_valid v (stepE_valid h1)) (ls_step h1 (h.2.2 ▸ v.nev) h)
theorem effL_ls {ss : List Stp} (hc : ∀ t ∈ ss, 1 ≤ t.cnt) : effL ss = (und (lsAll ss ⟨[], [], 0⟩).pairs, (lsAll ss ⟨[], [], 0⟩).d, (lsAll ss ⟨[], [], 0⟩).T) := by
  obtain ⟨h1, h2, h3⟩ := lsAll_top ss ([], 0, []) ⟨[], [], 0⟩ hc id_valid ⟨Top.nil, rfl, rfl⟩
  have e : und (lsAll ss ⟨[], [], 0⟩).pairs = (effL ss).1 := (und_top _).unique h1
  rw [e, ← h2, ← h3]
  rfl
theorem und_turn6 (a b c d e f g h : Sl) (acc : List PP) (p : PP) (hl : acc.length ≤ 100000) : l5b__law_effect_k06 [a, b, c, d, e, f, .own false (acc.reverse.map tw), .d (.int p.1), .d (.int p.2), g, h] = .ok ([a, b, c, d, e, f, .own false ((put p acc).reverse.map tw), .d (.int p.1), .d (.int p.2), g, h], .nx) := by
  cases acc with
  | nil =>
    have : eqS (.list []) (.list []) = .ok (.d (.bool true)) := eqS_same (by simp)
    simp [l5b__law_effect_k06, put, this, tw]
  | cons q r =>
    have e1 : eqS (.list (((q :: r).reverse).map tw)) (.list []) = .ok (.d (.bool false)) := by
      refine (eqS_fl (p := False) ?_ (by simp) (by simp)).trans (by simp)
      rw [fl_lst]
      exact flAll_map fun p _ => fl_tw
    have e2 : atI ((q :: r).reverse.map tw) (-1) = some (tw q) := at_last (by simp)
    have e3 : ixG (tw q) (.int 1) = .ok (.d (.int q.2)) := by simp [tw]
    have hl' : ((q :: r).reverse.map tw).length < 16777216 := by simp at hl ⊢; omega
    have e4 : (put p (q :: r)).reverse.map tw = if q.2 < p.2 then (q :: r).reverse.map tw ++ [tw p] else (q :: r).reverse.map tw := by
      simp only [put]
      split <;> simp
    rw [e4]
    generalize (q :: r).reverse.map tw = L at e1 e2 hl'
    by_cases h : q.2 < p.2 <;> simp [l5b__law_effect_k06, e1, e2, e3, h, hl', tw]
theorem lsAll_len : ∀ (ss : List Stp) (s : Ls), (∀ t ∈ ss, t.cnt ≤ 100) → (lsAll ss s).T.length ≤ s.T.length + 100 * ss.length ∧ (lsAll ss s).C.length ≤ s.C.length + 100 * ss.length
  | [], s, _ => ⟨Nat.le_refl _, Nat.le_refl _⟩
  | t :: ss, s, hc => by
    have rl : ∀ (k : Nat) (s : Ls), (Ls.rep t k s).T.length ≤ s.T.length + k ∧ (Ls.rep t k s).C.length ≤ s.C.length + k := fun k => by
      induction k with
      | zero => intro s; exact ⟨Nat.le_refl _, Nat.le_refl _⟩
      | succ k ih =>
        intro s
        obtain ⟨a, b⟩ := ih (s.one t)
        obtain ⟨c, d⟩ := one_len s t
        rw [Ls.rep]
        omega
    obtain ⟨a, b⟩ := rl t.cnt.toNat s
    obtain ⟨c, d⟩ := lsAll_len ss (Ls.rep t t.cnt.toNat s) fun u hu => hc u (List.mem_cons_of_mem _ hu)
    have := hc t List.mem_cons_self
    show (lsAll ss (Ls.rep t t.cnt.toNat s)).T.length ≤ _ ∧ (lsAll ss (Ls.rep t t.cnt.toNat s)).C.length ≤ _
    rw [List.length_cons]
    omega
theorem law_effect_ok {x : D} {ss : List Stp} (h : Sq x (ss.map Stp.d)) (hc : ∀ t ∈ ss, 1 ≤ t.cnt ∧ t.cnt ≤ 100) (hl : ss.length ≤ 90) : m__law_effect_k06 [.d x] = .ok ([.d x], .d (effE (effL ss))) := by
  obtain ⟨t, e, hp⟩ := sFor_fold (g := gN 4) (b := l3b__law_effect_k06) (it := sIt iterA (sName 0)) (Γ := [.d x, .own false (il []), .own false ([].map tw), .d (.int 0), .un, .un, .un, .un, .un, .un, .un])
    (fun (s : Ls) (t : Sl × Sl) => [.d x, .own false (il s.T), .own false (s.C.map tw), .d (.int s.d), t.1, t.2, .un, .un, .un, .un, .un]) Stp.d (fun s st => Ls.rep st st.cnt.toNat s) (fun i s => s.T.length ≤ 100 * i ∧ s.C.length ≤ 100 * i) (xs := ss) (s := ⟨[], [], 0⟩) (.un, .un)
    (by simp [h.it]) ⟨Nat.zero_le _, Nat.zero_le _⟩ (fun i s t st hs hi hp => by
      obtain ⟨c1, c2⟩ := hc st hs
      obtain ⟨t', e⟩ := turns_ok x s st t.2 (by omega) (by omega) (by omega) (by omega)
      have := lsAll_len [st] s (fun u hu => by rw [List.mem_singleton.mp hu]; exact c2)
      rw [show lsAll [st] s = Ls.rep st st.cnt.toNat s from rfl] at this
      simp only [List.length_singleton] at this
      exact ⟨⟨lsl x s st.d t.2, (.d st.d, t'), rfl, e⟩, by omega, by omega⟩)
  have e : l3__law_effect_k06 [.d x, .own false (il []), .own false ([].map tw), .d (.int 0), .un, .un, .un, .un, .un, .un, .un] = _ := e
  have e0 : ss.foldl (fun s st => Ls.rep st st.cnt.toNat s) ⟨[], [], 0⟩ = lsAll ss ⟨[], [], 0⟩ := rfl
  rw [e0] at e hp
  rw [effL_ls fun t ht => (hc t ht).1]
  generalize lsAll ss ⟨[], [], 0⟩ = s at e hp
  obtain ⟨T, C, d⟩ := s
  obtain ⟨t1, t2⟩ := t
  dsimp only at e hp
  have hpl : (Ls.pairs ⟨T, C, d⟩).length ≤ 10000 := by simp [Ls.pairs]; omega
  -- the pairs
  have k4 : l4__law_effect_k06 [.d x, .own false (il T), .own false (C.map tw), .d (.int d), t1, t2, .own false [], .un, .un, .un, .un] = .ok ([.d x, .own false (il T), .d (.list (C.map tw)), .d (.int d), t1, t2, .own false [], .un, .un, .un, .un], .f ((Ls.pairs ⟨T, C, d⟩).map tw)) := by
    have := sLc_map (it := sIt iterA (sName 2)) (g := gTup' (gCons' (gN 9) (gCons' (gN 10) gNil')) 2) (te := sPub (sTup (sCons (sName 9) (sCons (sPub (sBin subG (sName 3) (sName 10))) sNil)))) (vs := [9, 10]) tw (fun p => tw (p.1, d - p.2)) (Γ := [.d x, .own false (il T), .d (.list (C.map tw)), .d (.int d), t1, t2, .own false [], .un, .un, .un, .un]) (xs := C) (by simp) rfl
      (fun p _ => ⟨[.d x, .own false (il T), .d (.list (C.map tw)), .d (.int d), t1, t2, .own false [], .un, .un, .d (.int p.1), .d (.int p.2)], by simp [tw], by simp [tw], rfl⟩) (by omega)
    have e2 : C.map (fun p => tw (p.1, d - p.2)) = (Ls.pairs ⟨T, C, d⟩).map tw := by simp [Ls.pairs]
    rw [e2] at this
    rw [← this]
    unfold l4__law_effect_k06 sLc
    simp
  have hs := sort_tw (Ls.pairs ⟨T, C, d⟩) (by omega) (x := .list ((Ls.pairs ⟨T, C, d⟩).map tw)) (.inl rfl)
  have hsl : ((Ls.pairs ⟨T, C, d⟩).mergeSort lexB).reverse.length ≤ 10000 := by simpa using hpl
  obtain ⟨u, e5, _⟩ := sFor_fold (g := gTup' (gCons' (gN 7) (gCons' (gN 8) gNil')) 2) (b := l5b__law_effect_k06) (it := sIt iterA (sPub (sRev (sPub (sUn sortedA (sPub l4__law_effect_k06)))))) (Γ := [.d x, .own false (il T), .own false (C.map tw), .d (.int d), t1, t2, .own false [], .un, .un, .un, .un])
    (fun (acc : List PP) (t : Sl × Sl) => [.d x, .own false (il T), .d (.list (C.map tw)), .d (.int d), t1, t2, .own false (acc.reverse.map tw), t.1, t.2, .un, .un]) tw (fun a p => put p a)
    (fun i acc => acc.length ≤ i) (xs := ((Ls.pairs ⟨T, C, d⟩).mergeSort lexB).reverse) (s := []) (.un, .un) (by simp [k4, hs]) (Nat.le_refl _) (fun i acc t p hm hi hp => ⟨⟨[.d x, .own false (il T), .d (.list (C.map tw)), .d (.int d), t1, t2, .own false (acc.reverse.map tw), .d (.int p.1), .d (.int p.2), .un, .un], (.d (.int p.1), .d (.int p.2)), by simp [tw], und_turn6 _ _ _ _ _ _ _ _ acc p (by omega)⟩,
      Nat.le_trans (put_len p acc) (by omega)⟩)
  rw [← scan_fold] at e5
  have e5 : l5__law_effect_k06 [.d x, .own false (il T), .own false (C.map tw), .d (.int d), t1, t2, .own false [], .un, .un, .un, .un] = _ := e5
  rw [show Pu.scan [] ((Ls.pairs ⟨T, C, d⟩).mergeSort lexB).reverse = und (Ls.pairs ⟨T, C, d⟩) from rfl] at e5
  obtain ⟨u1, u2⟩ := u
  dsimp only at e5
  have hr := runs_ok (x := .list (il T)) (L := T.reverse) (.inl rfl) (by simp; omega)
  rw [List.reverse_reverse] at hr
  have n0 : il [] = [] := rfl
  rw [n0] at e
  have e6 : PyData.tuple ((und (Ls.pairs ⟨T, C, d⟩)).map tw) = rt (und (Ls.pairs ⟨T, C, d⟩)) := rfl
  have e7 : ((und (Ls.pairs ⟨T, C, d⟩)).reverse.map tw).reverse = (und (Ls.pairs ⟨T, C, d⟩)).map tw := by simp
  show _ = Res.ok (_, R.d (.tuple [rt _, .int d, stk T]))
  generalize (und (Ls.pairs ⟨T, C, d⟩)).reverse.map tw = A at e5 e7
  generalize (und (Ls.pairs ⟨T, C, d⟩)).map tw = A' at e6 e7
  generalize C.map tw = C' at e e5
  simp only [List.map_nil] at e
  simp [m__law_effect_k06, b__law_effect_k06, e, e5, e6, e7, hr]
end Qa
namespace Qa
open PySem PySem.Spec PyProof.Rows L2 Evl Mi Pg Pu
mutual
def sm : D → Bool
  | .none => true
  | .bool _ => true
  | .int i => decide (i.natAbs < 10 ^ 60)
  | .str s => PyData.strOk s
  | .list xs => smAll xs
  | .tuple xs => smAll xs
  | .dict _ => false
def smAll : List D → Bool
  | [] => true
  | x :: xs => sm x && smAll xs
end
mutual
def nodes : D → Nat
  | .none => 0
  | .bool _ => 0
  | .int _ => 210
  | .str s => s.cps.size
  | .list xs => nodesAll xs
  | .tuple xs => nodesAll xs
  | .dict _ => 0
def nodesAll : List D → Nat
  | [] => 0
  | x :: xs => nodes x + 1 + nodesAll xs
end
@[simp] theorem sm_none : sm .none = true := rfl
@[simp] theorem sm_bool {b : Bool} : sm (.bool b) = true := rfl
@[simp] theorem sm_int {i : Int} : sm (.int i) = decide (i.natAbs < 10 ^ 60) := by simp [sm]
@[simp] theorem sm_str {s : Str} : sm (.str s) = PyData.strOk s := by simp [sm]
@[simp] theorem sm_list {xs : List D} : sm (.list xs) = smAll xs := by simp [sm]
@[simp] theorem sm_tuple {xs : List D} : sm (.tuple xs) = smAll xs := by simp [sm]
@[simp] theorem smAll_nil : smAll [] = true := by simp [smAll]
@[simp] theorem smAll_cons {x : D} {xs : List D} : smAll (x :: xs) = (sm x && smAll xs) := by simp [smAll]
@[simp] theorem nodes_none : nodes .none = 0 := by simp [nodes]
@[simp] theorem nodes_bool {b : Bool} : nodes (.bool b) = 0 := by simp [nodes]
@[simp] theorem nodes_int {i : Int} : nodes (.int i) = 210 := by simp [nodes]
@[simp] theorem nodes_str {s : Str} : nodes (.str s) = s.cps.size := by simp [nodes]
@[simp] theorem nodes_list {xs : List D} : nodes (.list xs) = nodesAll xs := by simp [nodes]
@[simp] theorem nodes_tuple {xs : List D} : nodes (.tuple xs) = nodesAll xs := by simp [nodes]
@[simp] theorem nodesAll_nil : nodesAll [] = 0 := by simp [nodesAll]
@[simp] theorem nodesAll_cons {x : D} {xs : List D} : nodesAll (x :: xs) = nodes x + 1 + nodesAll xs := by simp [nodesAll]
theorem log2_60 {i : Int} (h : i.natAbs < 10 ^ 60) : i.natAbs.log2 < 209 := by
  by_cases h0 : i.natAbs = 0
  · rw [h0]; decide +kernel
  · refine (Nat.log2_lt h0).mpr (Nat.lt_trans h ?_)
    decide +kernel
theorem str_sm {s : Str} (h : PyData.strOk s = true) : (s.cps.toList.all fun c => decide (c < 16 ^ 8)) = true := by
  have h0 : s.cps.all (· < 0x110000) = true := h
  rw [List.all_eq_true]
  intro c hc
  rw [Array.all_eq_true'] at h0
  have h1 := h0 c (Array.mem_def.mpr hc)
  rw [decide_eq_true_eq] at h1 ⊢
  have e : (16 : Nat) ^ 8 = 4294967296 := by decide
  omega
mutual
theorem sm_ok : ∀ x : D, sm x = true → x.showable = true ∧ x.hasDict = false ∧ x.leavesShort 62 = true ∧ x.weight ≤ nodes x
  | .none, _ => ⟨rfl, rfl, rfl, by simp [PyData.weight]⟩
  | .bool b, _ => ⟨rfl, rfl, rfl, by simp [PyData.weight]⟩
  | .int i, h => by
    rw [sm_int, decide_eq_true_eq] at h
    have hl := log2_60 h
    refine ⟨?_, rfl, ?_, ?_⟩
    · simp only [PyData.showable, decide_eq_true_eq]; omega
    · have e := int_text_length_le10 (k := 60) (by decide) h
      simp only [PyData.leavesShort, decide_eq_true_eq]
      show (Str.ofString (toString i)).length ≤ 62
      rw [PySem.ofString_length]
      omega
    · rw [nodes_int]
      simp only [PyData.weight]
      split <;> omega
  | .str s, h => by
    rw [sm_str] at h
    exact ⟨rfl, rfl, by simpa only [PyData.leavesShort] using str_sm h, by simp [PyData.weight]⟩
  | .list xs, h => by
    obtain ⟨h1, h2, h3, h4⟩ := smAll_ok xs (by simpa using h)
    simp only [PyData.showable, PyData.hasDict, PyData.leavesShort, PyData.weight, nodes_list]
    exact ⟨h1, h2, h3, h4⟩
  | .tuple xs, h => by
    obtain ⟨h1, h2, h3, h4⟩ := smAll_ok xs (by simpa using h)
    simp only [PyData.showable, PyData.hasDict, PyData.leavesShort, PyData.weight, nodes_tuple]
    exact ⟨h1, h2, h3, h4⟩
  | .dict _, h => by simp [sm] at h
theorem smAll_ok : ∀ xs : List D, smAll xs = true → PyData.showableAll xs = true ∧ PyData.hasDictAll xs = false ∧ PyData.leavesShortAll 62 xs = true ∧ PyData.weightAll xs ≤ nodesAll xs
  | [], _ => ⟨rfl, rfl, rfl, by simp [PyData.weightAll]⟩
  | x :: xs, h => by
    rw [smAll_cons, Bool.and_eq_true] at h
    obtain ⟨h1, h2, h3, h4⟩ := sm_ok x h.1
    obtain ⟨g1, g2, g3, g4⟩ := smAll_ok xs h.2
    simp only [PyData.showableAll, PyData.hasDictAll, PyData.leavesShortAll, PyData.weightAll, nodesAll_cons, h1, h2, h3, g1, g2, g3]
    exact ⟨rfl, rfl, rfl, by omega⟩
end
structure LsB (Q : Int → Prop) (k : Nat) (s : Ls) : Prop where
  c : ∀ p ∈ s.C, Q p.1 ∧ 0 ≤ p.2 ∧ p.2 ≤ s.d
  t : ∀ x ∈ s.T, Q x
  d0 : 0 ≤ s.d
  dk : s.d ≤ k
  tk : s.T.length ≤ k
  ck : s.C.length ≤ k
theorem LsB.one {Q : Int → Prop} {k : Nat} {s : Ls} {st : Stp} (h : LsB Q k s) (hq : ∀ n c, st = .push n c → Q n) : LsB Q (k + 1) (s.one st) := by
  obtain ⟨T, C, d⟩ := s
  obtain ⟨h1, h2, h3, h4, h5, h6⟩ := h
  dsimp only at h1 h2 h3 h4 h5 h6
  cases st with
  | push n c =>
    obtain ⟨j, ej⟩ := drop_while_eq T fun m => decide (m < n)
    refine ⟨fun p hp => ?_, fun x hx => ?_, h3, ?_, ?_, ?_⟩
    · simp only [Ls.one] at hp ⊢
      split at hp
      · rcases List.mem_append.mp hp with hp | hp
        · exact h1 p hp
        · rw [List.mem_singleton.mp hp]; exact ⟨hq n c rfl, h3, Int.le_refl _⟩
      · exact h1 p hp
    · simp only [Ls.one] at hx
      rcases List.mem_cons.mp hx with rfl | hx
      · exact hq _ c rfl
      · rw [ej] at hx; exact h2 x (List.mem_of_mem_drop hx)
    · simp only [Ls.one]; omega
    · simp only [Ls.one]; rw [List.length_cons, ej, List.length_drop]; omega
    · simp only [Ls.one]
      split
      · rw [List.length_append]; simp; omega
      · omega
  | pop c =>
    cases T with
    | nil =>
      refine ⟨fun p hp => ?_, (fun x hx => nomatch hx), ?_, ?_, ?_, ?_⟩
      · have := h1 p hp
        exact ⟨this.1, this.2.1, by show p.2 ≤ d + 1; omega⟩
      · show 0 ≤ d + 1; omega
      · show d + 1 ≤ _; omega
      · exact Nat.zero_le _
      · show C.length ≤ _; omega
    | cons m T =>
      refine ⟨h1, fun x hx => h2 x (List.mem_cons_of_mem _ hx), h3, ?_, ?_, ?_⟩
      · show d ≤ _; omega
      · show T.length ≤ _; simp at h5; omega
      · show C.length ≤ _; omega
theorem LsB.rep {Q : Int → Prop} {st : Stp} (hq : ∀ n c, st = .push n c → Q n) : ∀ (j k : Nat) (s : Ls), LsB Q k s → LsB Q (k + j) (Ls.rep st j s)
  | 0, k, s, h => h
  | j + 1, k, s, h => by
    have := LsB.rep hq j (k + 1) (s.one st) (h.one hq)
    rw [show k + (j + 1) = k + 1 + j by omega]
    exact this
theorem LsB.up {Q : Int → Prop} {k j : Nat} {s : Ls} (h : LsB Q k s) (hk : k ≤ j) : LsB Q j s := ⟨h.c, h.t, h.d0, Int.le_trans h.dk (by omega), Nat.le_trans h.tk hk, Nat.le_trans h.ck hk⟩
theorem LsB.all {Q : Int → Prop} {m : Nat} : ∀ (ss : List Stp) (k : Nat) (s : Ls), (∀ n c, .push n c ∈ ss → Q n) → (∀ t ∈ ss, t.cnt ≤ m) → LsB Q k s → LsB Q (k + m * ss.length) (lsAll ss s)
  | [], k, s, _, _, h => h
  | t :: ss, k, s, hq, hm, h => by
    have h1 := LsB.rep (st := t) (fun n c e => hq n c (by rw [e]; exact List.mem_cons_self)) t.cnt.toNat k s h
    have hc := hm t List.mem_cons_self
    have h2 := h1.up (j := k + m) (by omega)
    have h3 := LsB.all ss (k + m) (Ls.rep t t.cnt.toNat s) (fun n c hn => hq n c (List.mem_cons_of_mem _ hn)) (fun u hu => hm u (List.mem_cons_of_mem _ hu)) h2
    rw [List.length_cons, Nat.mul_succ, show k + (m * ss.length + m) = k + m + m * ss.length by omega]
    exact h3
structure EfB (Q : Int → Prop) (k : Nat) (e : Ef) : Prop where
  p : ∀ p ∈ e.1, Q p.1 ∧ 0 ≤ p.2 ∧ p.2 ≤ k
  d : 0 ≤ e.2.1 ∧ e.2.1 ≤ k
  n : ∀ x ∈ e.2.2, Q x
  l : e.2.2.length ≤ k
  pl : e.1.length ≤ k
theorem effL_small {Q : Int → Prop} {m : Nat} {ss : List Stp} (hq : ∀ n c, Stp.push n c ∈ ss → Q n) (hc : ∀ t ∈ ss, 1 ≤ t.cnt ∧ t.cnt ≤ m) : EfB Q (m * ss.length) (effL ss) := by
  have h := LsB.all (Q := Q) (m := m) ss 0 ⟨[], [], 0⟩ hq (fun t ht => (hc t ht).2) ⟨(fun p hp => nomatch hp), (fun x hx => nomatch hx), Int.le_refl _, by simp, Nat.le_refl _, Nat.le_refl _⟩
  rw [Nat.zero_add] at h
  rw [effL_ls fun t ht => (hc t ht).1]
  refine ⟨fun p hp => ?_, ⟨h.d0, h.dk⟩, h.t, h.tk, ?_⟩
  · have := mem_und hp
    obtain ⟨q, hq, rfl⟩ := List.mem_map.mp this
    have := h.c q hq
    have := h.dk
    exact ⟨(h.c q hq).1, by show 0 ≤ _ - _; omega, by show _ - q.2 ≤ _; omega⟩
  · refine Nat.le_trans (und_len _) ?_
    simp only [Ls.pairs, List.length_map]
    exact h.ck
theorem Drawn.small {ss : List Stp} {most : Nat} {lo hi c : Int} (h : Drawn ss most lo hi c) (hc : 0 ≤ c) : EfB (fun n => lo ≤ n ∧ n < hi) (c.toNat * most) (effL ss) := by
  have := effL_small (m := c.toNat) h.num fun t ht => ⟨(h.cnt t ht).1, by have := (h.cnt t ht).2; omega⟩
  have hl := Nat.mul_le_mul_left c.toNat h.len
  exact ⟨fun p hp => ⟨(this.p p hp).1, (this.p p hp).2.1, Int.le_trans (this.p p hp).2.2 (by omega)⟩, ⟨this.d.1, Int.le_trans this.d.2 (by omega)⟩, this.n, Nat.le_trans this.l hl, Nat.le_trans this.pl hl⟩
end Qa
namespace Qa
open PySem PySem.Spec PyProof.Rows L2 Evl Mi Pg Pu
def act (e : Ef) (S : List Int) : Option (List Int) := if tk e.1 e.2.1 S ≤ S.length then some (e.2.2 ++ S.drop (tk e.1 e.2.1 S).toNat) else none
theorem cb_mono {T : List Int} {t u : Int} (h : t ≤ u) : cb T t ≤ cb T u := by
  induction T with
  | nil => exact Int.le_refl _
  | cons x T ih =>
    rw [cb_cons, cb_cons]
    split <;> split <;> omega
theorem tk_und (L : List PP) (d : Int) (S : List Int) : tk (und L) d S = tk L d S := by
  have top := und_top L
  obtain ⟨h1, h2⟩ := tk_ge L d S
  refine tk_eq h1 (fun p hp => h2 p (top.sub p hp)) ?_
  rcases tk_mem L d S with e | ⟨p, hp, e⟩
  · exact .inl e
  · obtain ⟨q, hq, dm⟩ := top.dom p hp
    have a := h2 q (top.sub q hq)
    have b := cb_mono (T := S) dm.1
    have c := dm.2
    exact .inr ⟨q, hq, by omega⟩
theorem act_never {e : Ef} (he : Valid e) {S S1 : List Int} (hS : Never S) (h : act e S = some S1) : Never S1 := by
  unfold act at h
  split at h
  · cases h
    refine never_app he.nev (never_drop _ hS) fun x hx y hy => ?_
    obtain ⟨p, hp, hx'⟩ := he.cov x hx
    have := (tk_ge e.1 e.2.1 S).2 p hp
    have := he.nn p hp
    have c := cb_le S p.1
    have := drop_ge (t := p.1) (k := (tk e.1 e.2.1 S).toNat) hS (by omega) y hy
    omega
  · cases h
theorem act_jo {e f : Ef} (he : Valid e) (hf : Valid f) {S : List Int} (hS : Never S) : act (jo e f) S = (act e S).bind (act f) := by
  have hcov : ∀ S1, act e S = some S1 → Never S1 := fun S1 h => act_never he hS h
  obtain ⟨P, d, N⟩ := e
  obtain ⟨P2, d2, N2⟩ := f
  obtain ⟨o1, o2⟩ := tk_ge P2 d2 N
  have o3 := tk_mem P2 d2 N
  obtain ⟨r1, r2⟩ := tk_ge P d S
  have r3 := tk_mem P d S
  have hd := he.d0
  have hd2 := hf.d0
  dsimp only at hd hd2
  -- the sum's pairs
  have R : tk (jo (P, d, N) (P2, d2, N2)).1 (jo (P, d, N) (P2, d2, N2)).2.1 S = tk (P.map (shift (max 0 (tk P2 d2 N - N.length))) ++ P2.filter (thr N)) (d + max 0 (tk P2 d2 N - N.length)) S := tk_und _ _ _
  obtain ⟨a1, a2⟩ := tk_ge (P.map (shift (max 0 (tk P2 d2 N - N.length))) ++ P2.filter (thr N)) (d + max 0 (tk P2 d2 N - N.length)) S
  have a3 := tk_mem (P.map (shift (max 0 (tk P2 d2 N - N.length))) ++ P2.filter (thr N)) (d + max 0 (tk P2 d2 N - N.length)) S
  have b1 : tk P d S + max 0 (tk P2 d2 N - N.length) ≤ tk (P.map (shift (max 0 (tk P2 d2 N - N.length))) ++ P2.filter (thr N)) (d + max 0 (tk P2 d2 N - N.length)) S := by
    rcases r3 with e | ⟨p, hp, e⟩
    · rw [e]; exact a1
    · have := a2 (shift (max 0 (tk P2 d2 N - N.length)) p) (List.mem_append_left _ (List.mem_map_of_mem hp))
      simp only [shift] at this
      rw [e]; omega
  have b2 : ∀ p ∈ P2, thr N p = true → cb S p.1 + p.2 ≤ tk (P.map (shift (max 0 (tk P2 d2 N - N.length))) ++ P2.filter (thr N)) (d + max 0 (tk P2 d2 N - N.length)) S := fun p hp ht => a2 p (List.mem_append_right _ (List.mem_filter.mpr ⟨hp, ht⟩))
  have b3 : tk (P.map (shift (max 0 (tk P2 d2 N - N.length))) ++ P2.filter (thr N)) (d + max 0 (tk P2 d2 N - N.length)) S ≤ tk P d S + max 0 (tk P2 d2 N - N.length) ∨ ∃ p ∈ P2, thr N p = true ∧ tk (P.map (shift (max 0 (tk P2 d2 N - N.length))) ++ P2.filter (thr N)) (d + max 0 (tk P2 d2 N - N.length)) S = cb S p.1 + p.2 := by
    rcases a3 with e | ⟨p, hp, e⟩
    · left; rw [e]; omega
    · rcases List.mem_append.mp hp with hp | hp
      · obtain ⟨q, hq, rfl⟩ := List.mem_map.mp hp
        have := r2 q hq
        simp only [shift] at e
        left; rw [e]; omega
      · obtain ⟨hp, ht⟩ := List.mem_filter.mp hp
        exact .inr ⟨p, hp, ht, e⟩
  clear a3 a2 a1
  have len : ∀ T : List Int, act (jo (P, d, N) (P2, d2, N2)) T = if tk (jo (P, d, N) (P2, d2, N2)).1 (jo (P, d, N) (P2, d2, N2)).2.1 T ≤ T.length then some ((N2 ++ N.drop (min (N.length : Int) (tk P2 d2 N)).toNat) ++ T.drop (tk (jo (P, d, N) (P2, d2, N2)).1 (jo (P, d, N) (P2, d2, N2)).2.1 T).toNat) else none := fun T => rfl
  rw [len S, R]
  generalize tk (P.map (shift (max 0 (tk P2 d2 N - N.length))) ++ P2.filter (thr N)) (d + max 0 (tk P2 d2 N - N.length)) S = W at *
  have hact : act (P, d, N) S = if tk P d S ≤ S.length then some (N ++ S.drop (tk P d S).toNat) else none := rfl
  rw [hact] at hcov ⊢
  generalize hv : tk P d S = v at *
  clear r3
  have v0 : 0 ≤ v := by clear b3 o3; omega
  by_cases hs : v ≤ S.length
  · rw [if_pos hs] at hcov ⊢
    rw [Option.bind_some]
    have nev := hcov _ rfl
    have ev : ((v.toNat : Nat) : Int) = v := by omega
    have cbS : ∀ p ∈ P2, (thr N p = true → cb (N ++ S.drop v.toNat) p.1 = N.length + max 0 (cb S p.1 - v)) ∧ (thr N p = false → cb (N ++ S.drop v.toNat) p.1 = cb N p.1) := fun p hp => by
      refine ⟨fun ht => ?_, fun ht => ?_⟩
      · rw [cb_app, cb_all (of_decide_eq_true ht), cb_drop_sub hS, ev]
      · have : ∃ y ∈ N, p.1 ≤ y := by
          simp only [thr, decide_eq_false_iff_not] at ht
          simpa using ht
        obtain ⟨y, hy, hpy⟩ := this
        rw [cb_app, cb_none (T := S.drop v.toNat) fun z hz => Int.le_trans hpy ((List.pairwise_append.mp nev).2.2 y hy z hz)]
        omega
    have hact2 : act (P2, d2, N2) (N ++ S.drop v.toNat) = if tk P2 d2 (N ++ S.drop v.toNat) ≤ (N ++ S.drop v.toNat).length then some (N2 ++ (N ++ S.drop v.toNat).drop (tk P2 d2 (N ++ S.drop v.toNat)).toNat) else none := rfl
    rw [hact2]
    obtain ⟨u1, u2⟩ := tk_ge P2 d2 (N ++ S.drop v.toNat)
    have u3 := tk_mem P2 d2 (N ++ S.drop v.toNat)
    generalize tk P2 d2 (N ++ S.drop v.toNat) = r at *
    generalize hover : tk P2 d2 N = over at *
    have sz : ((N ++ S.drop v.toNat).length : Int) = N.length + S.length - v := by
      rw [List.length_append, List.length_drop]; omega
    have over_r : over ≤ r := by
      clear u3 b3
      rcases o3 with e | ⟨p, hp, e⟩
      · omega
      · have := u2 p hp
        have c := cbS p hp
        cases ht : thr N p with
        | true =>
          have c1 := c.1 ht
          have c2 := cb_all (of_decide_eq_true ht)
          omega
        | false => have := c.2 ht; omega
    clear o3
    have hW : W = v + max 0 (r - N.length) := by
      refine Int.le_antisymm ?_ ?_
      · clear u3
        rcases b3 with e | ⟨p, hp, ht, e⟩
        · omega
        · have := u2 p hp
          have := (cbS p hp).1 ht
          omega
      · clear b3
        rcases u3 with e | ⟨p, hp, e⟩
        · omega
        · have c := cbS p hp
          cases ht : thr N p with
          | true =>
            have c1 := c.1 ht
            have c2 := cb_all (of_decide_eq_true ht)
            have := b2 p hp ht
            have := o2 p hp
            omega
          | false =>
            have := c.2 ht
            have := o2 p hp
            omega
    clear b3
    have hmin : min (N.length : Int) over = min (N.length : Int) r := by
      rcases u3 with e | ⟨p, hp, e⟩
      · omega
      · have c := cbS p hp
        cases ht : thr N p with
        | true =>
          have c2 := cb_all (of_decide_eq_true ht)
          have := o2 p hp
          have := hf.nn p hp
          omega
        | false =>
          have := c.2 ht
          have := o2 p hp
          omega
    clear u3
    by_cases hr : r ≤ N.length + S.length - v
    · rw [if_pos (by omega), if_pos (by rw [sz]; exact hr)]
      congr 1
      rw [List.append_assoc]
      congr 1
      rw [hmin, List.drop_append, List.drop_drop]
      have e1 : N.drop (min (N.length : Int) r).toNat = N.drop r.toNat := by
        by_cases q : r ≤ N.length
        · rw [show min (N.length : Int) r = r by omega]
        · rw [List.drop_eq_nil_of_le (by omega), List.drop_eq_nil_of_le (by omega)]
      rw [e1]
      congr 2
      omega
    · rw [if_neg (by omega), if_neg (by rw [sz]; exact hr)]
  · clear b3 o3
    rw [if_neg hs, if_neg (by omega)]
    rfl
theorem act_some {e : Ef} {S : List Int} (h : tk e.1 e.2.1 S ≤ S.length) : act e S = some (e.2.2 ++ S.drop (tk e.1 e.2.1 S).toNat) := if_pos h
theorem cb_rep (n : Nat) (x t : Int) : cb (List.replicate n x) t = if x < t then (n : Int) else 0 := by
  split
  · rw [cb_all fun y hy => by rw [List.eq_of_mem_replicate hy]; assumption, List.length_replicate]
  · rw [cb_none fun y hy => by rw [List.eq_of_mem_replicate hy]; omega]
def Above (G : Int) (e : Ef) : Prop := ∀ p ∈ e.1, p.1 ≤ G
theorem tk_great {e : Ef} (he : Valid e) {G : Int} (hG : Above G e) (n : Nat) : tk e.1 e.2.1 (List.replicate n G) = e.2.1 :=
  tk_eq (Int.le_refl _) (fun p hp => by
    have := hG p hp
    have := he.le p hp
    rw [cb_rep, if_neg (by omega)]
    omega) (.inl rfl)
theorem same_drops {e f : Ef} (he : Valid e) (hf : Valid f) {G : Int} (h1 : Above G e) (h2 : Above G f) (h : ∀ S, Never S → act e S = act f S) : e.2.1 = f.2.1 ∧ e.2.2 = f.2.2 := by
  have le : ∀ {e f : Ef}, Valid e → Valid f → Above G e → Above G f → (∀ S, Never S → act e S = act f S) → f.2.1 ≤ e.2.1 := fun {e f} he hf h1 h2 h => by
    have := h (List.replicate e.2.1.toNat G) (List.pairwise_replicate.mpr (.inr (Int.le_refl _)))
    have d0 := he.d0
    rw [act_some (by rw [tk_great he h1, List.length_replicate]; omega)] at this
    unfold act at this
    rw [tk_great hf h2, List.length_replicate] at this
    split at this
    · omega
    · cases this
  have e1 : e.2.1 = f.2.1 := Int.le_antisymm (le hf he h2 h1 fun S hS => (h S hS).symm) (le he hf h1 h2 h)
  refine ⟨e1, ?_⟩
  have := h (List.replicate e.2.1.toNat G) (List.pairwise_replicate.mpr (.inr (Int.le_refl _)))
  have d0 := he.d0
  rw [act_some (by rw [tk_great he h1, List.length_replicate]; omega), act_some (by rw [tk_great hf h2, List.length_replicate]; omega), tk_great he h1, tk_great hf h2] at this
  simp only [List.drop_replicate, ← e1, Nat.sub_self, List.replicate_zero, List.append_nil, Option.some.injEq] at this
  exact this
theorem act_inj {e f : Ef} (he : Valid e) (hf : Valid f) (h : ∀ S, Never S → act e S = act f S) : e = f := by
  obtain ⟨G, g1, g2⟩ : ∃ G : Int, Above G e ∧ Above G f := by
    refine ⟨max (maxL 0 (e.1.map (·.1))) (maxL 0 (f.1.map (·.1))), fun p hp => ?_, fun p hp => ?_⟩
    · have := (maxL_ge (e.1.map (·.1)) 0).2 p.1 (List.mem_map_of_mem hp)
      omega
    · have := (maxL_ge (f.1.map (·.1)) 0).2 p.1 (List.mem_map_of_mem hp)
      omega
  obtain ⟨hd, hn⟩ := same_drops he hf g1 g2 h
  have key : ∀ {e f : Ef}, Valid e → Valid f → Above G e → Above G f → e.2.1 = f.2.1 → e.2.2 = f.2.2 → (∀ S, Never S → act e S = act f S) → ∀ p ∈ e.1, ∃ q ∈ f.1, p.1 ≤ q.1 ∧ q.2 = p.2 := fun {e f} he hf g1 g2 hd hn h p hp => by
    have d0 := he.d0
    have nn := he.nn p hp
    have le := he.le p hp
    have pG := g1 p hp
    have nev : Never (List.replicate (e.2.1.toNat + 1) (p.1 - 1) ++ List.replicate e.2.1.toNat G) := never_app (List.pairwise_replicate.mpr (.inr (Int.le_refl _))) (List.pairwise_replicate.mpr (.inr (Int.le_refl _))) fun x hx y hy => by
      rw [List.eq_of_mem_replicate hx, List.eq_of_mem_replicate hy]; omega
    have cbS : ∀ t, t ≤ G → cb (List.replicate (e.2.1.toNat + 1) (p.1 - 1) ++ List.replicate e.2.1.toNat G) t = if p.1 - 1 < t then e.2.1 + 1 else 0 := fun t ht => by
      rw [cb_app, cb_rep, cb_rep, if_neg (show ¬ G < t by omega)]
      split <;> omega
    have te : tk e.1 e.2.1 (List.replicate (e.2.1.toNat + 1) (p.1 - 1) ++ List.replicate e.2.1.toNat G) = e.2.1 + 1 + p.2 := by
      refine tk_eq (by omega) (fun q hq => ?_) (.inr ⟨p, hp, ?_⟩)
      · rw [cbS q.1 (g1 q hq)]
        have := he.le q hq
        split
        · rename_i hlt
          have : q.2 ≤ p.2 := by
            by_cases e : p = q
            · rw [e]; exact Int.le_refl _
            · have hc := he.chain
              obtain ⟨A, B, eAB⟩ := List.mem_iff_append.mp hp
              rw [eAB] at hc hq
              obtain ⟨_, hB, hAB⟩ := List.pairwise_append.mp hc
              rcases List.mem_append.mp hq with hq | hq
              · have := hAB q hq p List.mem_cons_self
                omega
              · rcases List.mem_cons.mp hq with hq | hq
                · exact absurd hq.symm e
                · have := (List.pairwise_cons.mp hB).1 q hq
                  omega
          omega
        · omega
      · rw [cbS p.1 pG, if_pos (by omega)]
    have sz : ((List.replicate (e.2.1.toNat + 1) (p.1 - 1) ++ List.replicate e.2.1.toNat G).length : Int) = 2 * e.2.1 + 1 := by
      rw [List.length_append, List.length_replicate, List.length_replicate]; omega
    have := h _ nev
    rw [act_some (by rw [te, sz]; omega)] at this
    unfold act at this
    split at this
    · rename_i hle
      have hlen := congrArg List.length (Option.some.inj this)
      rw [List.length_append, List.length_append, List.length_drop, List.length_drop, hn, te] at hlen
      have t0 := (tk_ge f.1 f.2.1 (List.replicate (e.2.1.toNat + 1) (p.1 - 1) ++ List.replicate e.2.1.toNat G)).1
      have heq : tk f.1 f.2.1 (List.replicate (e.2.1.toNat + 1) (p.1 - 1) ++ List.replicate e.2.1.toNat G) = e.2.1 + 1 + p.2 := by
        generalize tk f.1 f.2.1 (List.replicate (e.2.1.toNat + 1) (p.1 - 1) ++ List.replicate e.2.1.toNat G) = z at *
        omega
      rcases tk_mem f.1 f.2.1 (List.replicate (e.2.1.toNat + 1) (p.1 - 1) ++ List.replicate e.2.1.toNat G) with e1 | ⟨q, hq, e1⟩
      · omega
      · rw [heq, cbS q.1 (g2 q hq)] at e1
        have := hf.le q hq
        split at e1
        · exact ⟨q, hq, by omega, by omega⟩
        · omega
    · cases this
  have sub : ∀ {e f : Ef}, Valid e → Valid f → Above G e → Above G f → e.2.1 = f.2.1 → e.2.2 = f.2.2 → (∀ S, Never S → act e S = act f S) → ∀ p ∈ e.1, p ∈ f.1 := fun {e f} he hf g1 g2 hd hn h p hp => by
    obtain ⟨q, hq, a, b⟩ := key he hf g1 g2 hd hn h p hp
    obtain ⟨r, hr, c, d⟩ := key hf he g2 g1 hd.symm hn.symm (fun S hS => (h S hS).symm) q hq
    have e1 : p = r := chain_eq he.chain hp hr ⟨by omega, by omega⟩
    have : q = p := Prod.ext (by rw [← e1] at c; omega) b
    rw [← this]; exact hq
  have hp : e.1 = f.1 := sorted_ext (he.chain.imp fun h => h.1) (hf.chain.imp fun h => h.1) fun p => ⟨sub he hf g1 g2 hd hn h p, sub hf he g2 g1 hd.symm hn.symm (fun S hS => (h S hS).symm) p⟩
  exact Prod.ext hp (Prod.ext hd hn)
theorem act_id (S : List Int) : act ([], 0, []) S = some S := by
  have : tk [] 0 S = 0 := rfl
  unfold act
  simp only [this]
  rw [if_pos (by omega)]
  simp
end Qa
namespace Qa
open PySem PySem.Spec PyProof.Rows L2 Evl Mi Pg Pu
@[simp] theorem z_callV {m : Ga → Res (Ga × R)} {n : Nat} {s : Ga → Res (Ga × List D)} {Γ : Ga} : callV m n s Γ = callS m (List.replicate (n + 1) none) (packS n s) Γ := rfl
@[simp] theorem z_packS {n : Nat} {s : Ga → Res (Ga × List D)} {Γ : Ga} : packS n s Γ = (s Γ).bind fun p => if n ≤ p.2.length ∧ p.2.length ≤ sizeLine then .ok (p.1, p.2.take n ++ [.tuple (p.2.drop n)]) else .stuck := rfl
@[simp] theorem fl_eff {n : Nat} {P : List PP} {d : Int} {N : List Int} : fl (n + 3) (eff P d N) = true := by simp [eff]
theorem eff_inj {e f : Ef} : effE e = effE f ↔ e = f := by
  obtain ⟨P, d, N⟩ := e
  obtain ⟨P2, d2, N2⟩ := f
  simp [eff, rt_inj, stk_inj]
structure Small (k : Nat) (e : Ef) : Prop where
  v : Valid e
  p : e.1.length ≤ k
  r : (runsT e.2.2).length ≤ k
theorem Small.up {k j : Nat} {e : Ef} (h : Small k e) (hk : k ≤ j) : Small j e := ⟨h.v, Nat.le_trans h.p hk, Nat.le_trans h.r hk⟩
theorem Small.jo {k j : Nat} {e f : Ef} (he : Small k e) (hf : Small j f) : Small (k + j) (jo e f) := ⟨jo_valid he.v hf.v, Nat.le_trans (jo_len _ _) (Nat.add_le_add he.p hf.p), Nat.le_trans (jo_few _ _) (Nat.add_le_add he.r hf.r)⟩
theorem small_id : Small 0 ([], 0, []) := ⟨id_valid, Nat.le_refl _, Nat.le_refl _⟩
theorem check_small {k : Nat} {e : Ef} (he : Small k e) (hk : k ≤ 1000) : m_check_effect [.d (effE e)] = .ok ([.d (effE e)], .d .none) := check_effect_ok he.v (Nat.le_trans he.p hk) (Nat.le_trans he.r hk)
theorem Drawn.sm {ss : List Stp} {most : Nat} {lo hi c : Int} (h : Drawn ss most lo hi c) (hc : 0 ≤ c) : Small (c.toNat * most) (effL ss) := by
  have b := h.small hc
  exact ⟨effL_valid h.ok, b.pl, Nat.le_trans (runs_len_le _) b.l⟩
end Qa
namespace Qa
open PySem PySem.Spec PyProof.Rows L2 Evl Mi Pg Pu
theorem und_app {P M : List PP} (hP : P.Pairwise fun p q => p.1 < q.1 ∧ q.2 < p.2) (h : ∀ p ∈ M, ∃ q ∈ P, dom p q) : und (P ++ M) = P :=
  (und_top _).unique ⟨hP, fun p hp => List.mem_append_left _ hp, fun p hp => by
    rcases List.mem_append.mp hp with h1 | h1
    · exact ⟨p, h1, dom.refl p⟩
    · exact h p h1⟩
theorem shift_chain {P : List PP} (k : Int) (hP : P.Pairwise fun p q => p.1 < q.1 ∧ q.2 < p.2) : (P.map (shift k)).Pairwise fun p q => p.1 < q.1 ∧ q.2 < p.2 := by
  rw [List.pairwise_map]
  exact hP.imp fun h => ⟨h.1, by have := h.2; simp only [Pu.shift]; omega⟩
structure Numb (e : Ef) (k : Int) : Prop where
  d : e.2.1 ≤ k
  l : (e.2.2.length : Int) ≤ k
end Qa
namespace Qa
open PySem PySem.Spec PyProof.Rows L2 Evl Mi Pg Pu
end Qa
namespace Qa
open PySem PySem.Spec PyProof.Rows L2 Evl Mi Pg Pu
def leI (a b : Int) : Bool := PySem.W.dataLe false id (.int a) (.int b)
theorem sort_ints (L : List Int) (h : L.length ≤ 100000) : sortedA (.list (L.map .int)) = .ok (.f ((L.mergeSort leI).map .int)) := by
  have hs : sortP (L.map PyData.int) := by
    refine ⟨fun a ha b hb => ?_, .inr fun a ha => ?_, fun a ha => ?_, ?_⟩
    · obtain ⟨p, _, rfl⟩ := List.mem_map.mp ha
      obtain ⟨q, _, rfl⟩ := List.mem_map.mp hb
      simp [PySem.W.alike]
    · obtain ⟨p, _, rfl⟩ := List.mem_map.mp ha
      refine ⟨?_, ?_⟩
      · intro h; cases h
      · intro xs h; cases h
    · obtain ⟨p, _, rfl⟩ := List.mem_map.mp ha
      simp [PyData.depth]
    · rw [List.length_map, z_szle]; omega
  have e : ((L.map PyData.int).mergeSort fun a b => PySem.W.dataLe false id a b) = (L.mergeSort leI).map .int :=
    (List.map_mergeSort (r := leI) (f := PyData.int) fun a _ b _ => rfl).symm
  simp [sortedA, hs, e]
noncomputable def f63 (k : Int) : Bool := okB (-(2 ^ 63) ≤ k ∧ k < 2 ^ 63)
@[simp] theorem z_popAt {i : Nat} {s : Ga → Res (Ga × D)} {Γ : Ga} : sPopAt i s Γ = match ownAt Γ i with
  | some _ => (s Γ).bind fun p => match ownAt p.1 i, p.2 with
    | some (b, xs), .int k => if f63 k = true then (match ixN xs.length k with
      | some j => (match xs[j]? with | some x => .ok (p.1.set i (.own b (xs.eraseIdx j)), x) | none => .stuck)
      | none => .stuck) else .stuck
    | _, _ => .stuck
  | none => .stuck := rfl
theorem erase_perm {α : Type} {L : List α} {j : Nat} (hj : j < L.length) : (L[j] :: L.eraseIdx j).Perm L := by
  rw [List.eraseIdx_eq_take_drop_succ]
  refine List.perm_middle.symm.trans ?_
  rw [← List.drop_eq_getElem_cons hj, List.take_append_drop]
theorem erase_map {α β : Type} (f : α → β) (L : List α) (j : Nat) : (L.map f).eraseIdx j = (L.eraseIdx j).map f := by
  rw [List.eraseIdx_eq_take_drop_succ, List.eraseIdx_eq_take_drop_succ, List.map_append, List.map_take, List.map_drop]
theorem shuffled_loop (s1 : Sl) : ∀ (n : Nat) (L A : List Int) (p : Pool), L.length = n → L.length + A.length ≤ 1000 → ∃ (q : Pool) (B : List Int), B.Perm L ∧ l1__law_shuffled [.own true (pl p), s1, .own false (L.map .int), .own false (A.map .int)] = .ok ([.own true (pl q), s1, .own false [], .own false ((A ++ B).map .int)], .nx) := by
  intro n
  induction n with
  | zero =>
    intro L A p hn _
    have hL := List.eq_nil_of_length_eq_zero hn
    subst hL
    have e1 : neS (.list []) (.list []) = .ok (.d (.bool false)) := neS_same (by simp)
    exact ⟨p, [], .nil, by
      rw [List.append_nil]
      exact sWhile_end (by simp [l1c__law_shuffled, e1])⟩
  | succ n ih =>
    intro L A p hn hs
    have hlen : (0 : Int) < (L.length : Int) := by omega
    have t1 := take_ok p (n := (L.length : Int)) hlen (by
      have h4000 : (1000 : Int) < 2 ^ 4000 := by decide +kernel
      omega)
    obtain ⟨a0, a1⟩ := tv_lt p (n := (L.length : Int)) hlen
    generalize tv p (L.length : Int) = v at *
    generalize nx p (L.length : Int) = q at *
    obtain ⟨j, rfl⟩ := Int.eq_ofNat_of_zero_le a0
    have hj : j < L.length := by omega
    obtain ⟨r, B, hp, e⟩ := ih (L.eraseIdx j) (A ++ [L[j]]) q (by rw [List.length_eraseIdx]; simp [hj]; omega) (by rw [List.length_eraseIdx, List.length_append]; simp [hj]; omega)
    have e1 : neS (.list (L.map .int)) (.list []) = .ok (.d (.bool true)) := by
      have := neS_fl (x := .list (L.map .int)) (y := .list []) (p := L = []) (by rw [fl_lst]; exact flAll_map fun e _ => by simp) (by simp) (by simp)
      have hne : L ≠ [] := fun h => by rw [h] at hn; cases hn
      simpa [hne] using this
    refine ⟨r, L[j] :: B, ?_, ?_⟩
    · exact (List.Perm.cons _ hp).trans (erase_perm hj)
    · have hk : f63 (j : Int) = true := okB_of ⟨by omega, by omega⟩
      have hi : ixN L.length (j : Int) = some j := by
        unfold ixN
        simp
        omega
      have hA : A.length < 16777216 := by omega
      rw [List.append_assoc] at e
      have e2 : (L.map PyData.int).eraseIdx j = (L.eraseIdx j).map .int := erase_map _ _ _
      have t1 : m__law_take [.own true (pl p), .d (.int (L.length : Int))] = .ok ([.own true (pl q), .d (.int (L.length : Int))], .d (.int (j : Int))) := t1
      refine sWhile_go (fl := .nx) (Γ1 := [.own true (pl p), s1, .own false (L.map .int), .own false (A.map .int)]) (Γ2 := [.own true (pl q), s1, .own false ((L.eraseIdx j).map .int), .own false ((A ++ [L[j]]).map .int)]) ?_ ?_ (.inl rfl) e (by simp)
      · simp [l1c__law_shuffled, e1]
      · simp [l1b__law_shuffled, t1, hi, hj, e2, hA, hk]
theorem shuffled_ok (L : List Int) (p : Pool) (h : L.length ≤ 1000) : ∃ (q : Pool) (B : List Int), B.Perm L ∧ m__law_shuffled [.own true (pl p), .d (.list (L.map .int))] = .ok ([.own true (pl q), .d (.list (L.map .int))], .f (B.map .int)) := by
  obtain ⟨q, B, hp, e⟩ := shuffled_loop (.d (.list (L.map .int))) L.length L [] p rfl (by simp; omega)
  refine ⟨q, B, hp, ?_⟩
  have hl : L.length ≤ 16777216 := by omega
  have hl2 : B.length ≤ 16777216 := by rw [hp.length_eq]; omega
  have e : l1__law_shuffled [.own true (pl p), .d (.list (L.map .int)), .own false (L.map .int), .own false []] = .ok ([.own true (pl q), .d (.list (L.map .int)), .own false [], .own false (B.map .int)], .nx) := e
  simp [m__law_shuffled, b__law_shuffled, e, hl]
end Qa
namespace Qa
open PySem PySem.Spec PyProof.Rows L2 Evl Mi Pg Pu
def nums (e : Ef) : List Int := (runsT e.2.2).reverse.map (·.1)
end Qa
namespace Qa
open PySem PySem.Spec PyProof.Rows L2 Evl Mi Pg Pu
def abv (e : Ef) (t : Int) : List Int := (e.1.filter fun p => decide (t ≤ p.1)).map (·.2)
def rc (e : Ef) (t : Int) : Int := maxL (-1) (abv e t)
def two2 (a b : Int) (m n : Nat) : List Int := List.replicate m a ++ List.replicate n b
def dfE (e f : Ef) (t : Int) : Prop := rc e t ≠ rc f t
def cdE (e f : Ef) (t : Int) : Prop := rc e t ≠ rc f t ∧ 0 < max (rc e t) (rc f t)
def manyE (e f : Ef) (t : Int) : Int := min e.2.1 (e.2.1 - min (rc e t) (rc f t))
def sepB (G : Int) (e f : Ef) (t : Int) : List Int := two2 (t - 1) G (manyE e f t).toNat (e.2.1 - manyE e f t).toNat
end Qa
namespace Qa
open PySem PySem.Spec PyProof.Rows L2 Evl Mi Pg Pu
inductive SepBy (G : Int) (e f : Ef) : List Int → Prop
  | b {p : PP} : p ∈ e.1 ++ f.1 → cdE e f p.1 → SepBy G e f (sepB G e f p.1)
  | c {p : PP} : (∀ q ∈ e.1 ++ f.1, ¬ cdE e f q.1) → p ∈ e.1 ++ f.1 → dfE e f p.1 → SepBy G e f (two2 (p.1 - 1) G (e.2.1 + 1).toNat 0)
end Qa
namespace Qa
open PySem PySem.Spec PyProof.Rows L2 Evl Mi Pg Pu
theorem cut_take (xs : List D) (j : Nat) : Mi.cutD xs none (some (j : Int)) = xs.take j := by
  unfold Mi.cutD
  have e1 : HT.sIx xs.length 0 none = 0 := rfl
  have e2 : HT.sIx xs.length xs.length (some (j : Int)) = min j xs.length := HT.sIx_nat xs.length xs.length j
  rw [e1, e2]
  simp
def stepA : Stp → List Int → Option (List Int)
  | .push n c, S => some (push S n c.toNat)
  | .pop c, S => if c ≤ S.length then some (S.drop c.toNat) else none
theorem act_step {s : Stp} (h : 1 ≤ s.cnt) {S : List Int} (hS : Never S) : act (stepE s) S = stepA s S := by
  cases s with
  | push n c =>
    have b := cb_le S n
    have ht : tk [(n, 0)] 0 S = cb S n := tk_eq b.1 (fun p hp => by rw [List.mem_singleton.mp hp]; simp) (.inr ⟨(n, 0), List.mem_singleton.mpr rfl, by simp⟩)
    show (if tk [(n, 0)] 0 S ≤ S.length then some (List.replicate c.toNat n ++ S.drop (tk [(n, 0)] 0 S).toNat) else none) = some (push S n c.toNat)
    rw [ht, if_pos b.2, cb_drop n hS]
    rfl
  | pop c =>
    have ht : tk [] c S = c := rfl
    show (if tk [] c S ≤ S.length then some ([] ++ S.drop (tk [] c S).toNat) else none) = _
    rw [ht]
    rfl
def runA (ss : List Stp) (S : List Int) : Option (List Int) := ss.foldl (fun o s => o.bind (stepA s)) (some S)
theorem run_none (ss : List Stp) : ss.foldl (fun o s => o.bind (stepA s)) (none : Option (List Int)) = none := by
  induction ss with
  | nil => rfl
  | cons s ss ih => exact ih
theorem runA_cons (s : Stp) (ss : List Stp) (S : List Int) : runA (s :: ss) S = (stepA s S).bind (runA ss) := by
  unfold runA
  rw [List.foldl_cons]
  show List.foldl _ (stepA s S) ss = _
  cases stepA s S with
  | none => exact run_none ss
  | some T => rfl
theorem act_fold : ∀ (ss : List Stp) (e : Ef) (S : List Int), Valid e → (∀ t ∈ ss, 1 ≤ t.cnt) → Never S → act (ss.foldl (fun e s => jo e (stepE s)) e) S = ss.foldl (fun o s => o.bind (stepA s)) (act e S)
  | [], e, S, _, _, _ => rfl
  | s :: ss, e, S, he, hc, hS => by
    have hs := hc s List.mem_cons_self
    rw [List.foldl_cons, List.foldl_cons, act_fold ss _ S (jo_valid he (stepE_valid hs)) (fun t ht => hc t (List.mem_cons_of_mem _ ht)) hS, act_jo he (stepE_valid hs) hS]
    congr 1
    cases q : act e S with
    | none => rfl
    | some T => exact act_step hs (act_never he hS q)
theorem act_run {ss : List Stp} (hc : ∀ t ∈ ss, 1 ≤ t.cnt) {S : List Int} (hS : Never S) : act (effL ss) S = runA ss S := by
  unfold effL runA
  rw [act_fold ss _ S id_valid hc hS, act_id]
end Qa
namespace Qa
open PySem PySem.Spec PyProof.Rows L2 Evl Mi Pg Pu
def unr (R : List PP) : List Int := R.flatMap fun p => List.replicate p.2.toNat p.1
theorem unr_cons (p : PP) (R : List PP) : unr (p :: R) = List.replicate p.2.toNat p.1 ++ unr R := rfl
end Qa
namespace Qa
open PySem PySem.Spec PyProof.Rows L2 Evl Mi Pg Pu
def due (v : Nat → Int) (k i : Nat) : Option Nat := ((List.range k).filter fun j => decide (i < j ∧ v i < v j)).head?
def wait (v : Nat → Int) (k : Nat) : List Nat := ((List.range k).filter fun i => (due v k i).isNone).reverse
def oD : Option Nat → D
  | none => .none
  | some j => .int (j : Int)
@[simp] theorem fl_oD {n : Nat} {o : Option Nat} : fl n (oD o) = true := by cases o <;> simp [oD]
def FD (n : Nat) (f : Nat → Option Nat) : List D := (List.range n).map fun i => oD (f i)
@[simp] theorem at_3 {a b c d : D} {xs : List D} : atI (a :: b :: c :: d :: xs) 3 = some d := atI_nat (j := 3) rfl
@[simp] theorem at_4 {a b c d e : D} {xs : List D} : atI (a :: b :: c :: d :: e :: xs) 4 = some e := atI_nat (j := 4) rfl
@[simp] theorem at_5 {a b c d e f : D} {xs : List D} : atI (a :: b :: c :: d :: e :: f :: xs) 5 = some f := atI_nat (j := 5) rfl
end Qa
namespace Qa
open PySem PySem.Spec PyProof.Rows L2 Evl Mi Pg Pu
theorem ok_of (s : String) : PyData.strOk (Str.ofString s) = true := by
  unfold PyData.strOk
  rw [Str.ofString_eq_toList, Array.all_eq_true']
  intro c hc
  obtain ⟨d, -, rfl⟩ := List.mem_map.mp (by simpa using hc)
  have := d.valid
  simp only [decide_eq_true_eq]
  unfold UInt32.isValidChar Nat.isValidChar at this
  show d.val.toNat < _
  omega
theorem ok_app (a b : Str) : PyData.strOk (a ++ b) = (PyData.strOk a && PyData.strOk b) := by
  show (a.cps ++ b.cps).all _ = _
  rw [Array.all_append]
  rfl
theorem ok_empty : PyData.strOk Str.empty = true := by decide +kernel
theorem ok_join (s : Str) (hs : PyData.strOk s = true) : ∀ ts : List Str, (∀ t ∈ ts, PyData.strOk t = true) → PyData.strOk (Str.join s ts) = true
  | [], _ => ok_empty
  | [x], h => h x List.mem_cons_self
  | x :: y :: r, h => by
    rw [Str.join, ok_app, ok_app, h x List.mem_cons_self, hs, ok_join s hs (y :: r) fun t ht => h t (List.mem_cons_of_mem _ ht)]
    · rfl
    · intro z; cases z
theorem ok_from : ∀ (ts : List Str) (k : Nat) (acc : Str), PyData.strOk acc = true → (∀ t ∈ ts, PyData.strOk t = true) → PyData.strOk (textFrom k acc ts) = true
  | [], _, acc, h, _ => h
  | t :: ts, k, acc, h, hs => by
    rw [textFrom]
    refine ok_from ts (k + 1) _ ?_ fun x hx => hs x (List.mem_cons_of_mem _ hx)
    rw [ok_app, ok_app, h, ok_of, hs t List.mem_cons_self]
    rfl
mutual
/-- data without texts and dicts -/
def nst : D → Bool
  | .none => true
  | .bool _ => true
  | .int _ => true
  | .str _ => false
  | .list xs => nstAll xs
  | .tuple xs => nstAll xs
  | .dict _ => false
def nstAll : List D → Bool
  | [] => true
  | x :: xs => nst x && nstAll xs
end
mutual
theorem shown_ok : ∀ x : D, nst x = true → PyData.strOk x.shown = true
  | .none, _ => by unfold PyData.shown; exact ok_of _
  | .bool b, _ => by
    unfold PyData.shown
    cases b
    · exact ok_of _
    · exact ok_of _
  | .int i, _ => by unfold PyData.shown; exact ok_of _
  | .str _, h => by simp [nst] at h
  | .list xs, h => by
    rw [nst] at h
    unfold PyData.shown listText
    rw [ok_app, ok_from _ _ _ (ok_of _) (shownAll_ok xs h), ok_of]
    rfl
  | .tuple xs, h => by
    rw [nst] at h
    unfold PyData.shown tupleText
    rw [ok_app, ok_app, ok_join _ (ok_of _) _ (shownAll_ok xs h), ok_of, ok_of]
    rfl
  | .dict _, h => by simp [nst] at h
theorem shownAll_ok : ∀ xs : List D, nstAll xs = true → ∀ t ∈ PyData.shownAll xs, PyData.strOk t = true
  | [], _ => by unfold PyData.shownAll; exact fun t ht => nomatch ht
  | x :: xs, h => by
    rw [nstAll, Bool.and_eq_true] at h
    unfold PyData.shownAll
    intro t ht
    rcases List.mem_cons.mp ht with rfl | ht
    · exact shown_ok x h.1
    · exact shownAll_ok xs h.2 t ht
end
@[simp] theorem nst_int {i : Int} : nst (.int i) = true := by simp [nst]
@[simp] theorem nst_list {xs : List D} : nst (.list xs) = nstAll xs := by simp [nst]
@[simp] theorem nst_tuple {xs : List D} : nst (.tuple xs) = nstAll xs := by simp [nst]
@[simp] theorem nstAll_nil : nstAll [] = true := by simp [nstAll]
@[simp] theorem nstAll_cons {x : D} {xs : List D} : nstAll (x :: xs) = (nst x && nstAll xs) := by simp [nstAll]
end Qa
namespace Qa
open PySem PySem.Spec PyProof.Rows L2 Evl Mi Pg Pu
structure Over (N : List Int) (ss : List Stp) (many most : Nat) : Prop where
  len : ss.length = many
  cnt : ∀ s ∈ ss, 1 ≤ s.cnt ∧ s.cnt ≤ most
  num : ∀ n c, Stp.push n c ∈ ss → n ∈ N
end Qa
namespace Qa
open PySem PySem.Spec PyProof.Rows L2 Evl Mi Pg Pu
end Qa
namespace Qa
open PySem PySem.Spec PyProof.Rows L2 Evl Mi Pg Pu
theorem stepA_never {s : Stp} (hc : 1 ≤ s.cnt) {S T : List Int} (hS : Never S) (h : stepA s S = some T) : Never T :=
  act_never (stepE_valid hc) hS (by rw [act_step hc hS]; exact h)
end Qa
namespace Qa
open PySem PySem.Spec PyProof.Rows L2 Evl Mi Pg Pu
def iv (r : List Int) : D := .list (r.map .int)
end Qa
namespace Qa
open PySem PySem.Spec PyProof.Rows L2 Evl Mi Pg Pu
end Qa
namespace Qa
open PySem PySem.Spec PyProof.Rows L2 Evl Mi Pg Pu
theorem stepE_small {s : Stp} (h : 1 ≤ s.cnt) : Small 1 (stepE s) := ⟨stepE_valid h, (stepE_len s h).1, (stepE_len s h).2⟩
theorem fold_small : ∀ (ss : List Stp) (e : Ef) (k : Nat), Small k e → (∀ t ∈ ss, 1 ≤ t.cnt) → Small (k + ss.length) (ss.foldl (fun e s => jo e (stepE s)) e)
  | [], e, k, h, _ => h
  | s :: ss, e, k, h, hc => by
    have := fold_small ss (jo e (stepE s)) (k + 1) (h.jo (stepE_small (hc s List.mem_cons_self))) fun t ht => hc t (List.mem_cons_of_mem _ ht)
    rw [List.foldl_cons, List.length_cons, show k + (ss.length + 1) = k + 1 + ss.length by omega]
    exact this
theorem effL_steps {ss : List Stp} (hc : ∀ t ∈ ss, 1 ≤ t.cnt) : Small ss.length (effL ss) := by
  have := fold_small ss ([], 0, []) 0 small_id hc
  rw [Nat.zero_add] at this
  exact this
end Qa
namespace Qa
open PySem PySem.Spec PyProof.Rows L2 Evl Mi Pg Pu
end Qa
namespace Qa
open PySem PySem.Spec PyProof.Rows L2 Evl Mi Pg Pu
structure Sqs (M : List (D × List Stp)) (k : Nat) : Prop where
  sq : ∀ p ∈ M, Sq p.1 (p.2.map Stp.d)
  cnt : ∀ p ∈ M, ∀ s ∈ p.2, 1 ≤ s.cnt
  len : ∀ p ∈ M, p.2.length ≤ k
end Qa
namespace Qa
open PySem PySem.Spec PyProof.Rows L2 Evl Mi Pg Pu
end Qa
namespace Qa
open PySem PySem.Spec PyProof.Rows L2 Evl Mi Pg Pu
@[simp] theorem p29 : powG (.int 10) (.int 29) = .ok (.d (.int 100000000000000000000000000000)) := by
  have h := okB_of (p := 0 ≤ (29 : Int) ∧ (29 : Int) ≤ 1000000 ∧ (10 : Int).natAbs < 2 ^ 64) (by decide)
  unfold powG
  simp only [h, if_true]
  rfl
structure Way (N : List Int) (most : Nat) (ss : List Stp) : Prop where
  len : ss.length ≤ 5
  cnt : ∀ s ∈ ss, 1 ≤ s.cnt ∧ s.cnt ≤ most
  num : ∀ n c, Stp.push n c ∈ ss → n ∈ N
structure Heap5 (N : List Int) (S : List Int) : Prop where
  len : S.length ≤ 5
  nev : Never S
  num : ∀ n ∈ S, n ∈ N
end Qa
namespace Qa
open PySem PySem.Spec PyProof.Rows L2 Evl Mi Pg Pu
end Qa
namespace Qa
open PySem PySem.Spec PyProof.Rows L2 Evl Mi Pg Pu
abbrev pP (n : Int) : Stp := .push n 1
abbrev pO : Stp := .pop 1
def Pl (w : List Stp) : Prop := ∀ s ∈ w, s.cnt = 1
theorem Pl.one {w : List Stp} (h : Pl w) : ∀ s ∈ w, 1 ≤ s.cnt := fun s hs => by rw [h s hs]; exact Int.le_refl _
theorem Pl.app {u v : List Stp} : Pl (u ++ v) ↔ Pl u ∧ Pl v := by
  unfold Pl
  constructor
  · exact fun h => ⟨fun s hs => h s (List.mem_append_left _ hs), fun s hs => h s (List.mem_append_right _ hs)⟩
  · rintro ⟨a, b⟩ s hs
    rcases List.mem_append.mp hs with h | h
    · exact a s h
    · exact b s h
inductive Rw : List Stp → List Stp → Prop
  | r1 (u v : List Stp) (a b : Int) : a < b → Rw (u ++ pP a :: pP b :: v) (u ++ pP b :: v)
  | r2 (u v : List Stp) (a b : Int) : b ≤ a → Rw (u ++ pP a :: pP b :: pO :: v) (u ++ pP a :: v)
  | r3 (u v : List Stp) (a b : Int) : a ≤ b → Rw (u ++ pP a :: pO :: pP b :: v) (u ++ pP b :: v)
  | r4 (u v : List Stp) (a b : Int) (m : Nat) : b ≤ a → Rw (u ++ pP a :: (List.replicate (m + 1) pO ++ pP b :: pO :: v)) (u ++ pP a :: (List.replicate (m + 1) pO ++ v))
theorem Rw.len {w w' : List Stp} (h : Rw w w') : w'.length < w.length := by
  cases h <;> simp <;> omega
theorem Rw.pl {w w' : List Stp} (h : Rw w w') (p : Pl w) : Pl w' := by
  cases h with
  | r1 u v a b _ => exact fun s hs => p s (by simp only [List.mem_append, List.mem_cons] at hs ⊢; grind)
  | r2 u v a b _ => exact fun s hs => p s (by simp only [List.mem_append, List.mem_cons] at hs ⊢; grind)
  | r3 u v a b _ => exact fun s hs => p s (by simp only [List.mem_append, List.mem_cons] at hs ⊢; grind)
  | r4 u v a b m _ => exact fun s hs => p s (by simp only [List.mem_append, List.mem_cons] at hs ⊢; grind)
theorem Rw.app {w w' : List Stp} (h : Rw w w') (x : List Stp) : ∃ w'', Rw (w ++ x) w'' := by
  cases h with
  | r1 u v a b h => exact ⟨_, by simpa using Rw.r1 u (v ++ x) a b h⟩
  | r2 u v a b h => exact ⟨_, by simpa using Rw.r2 u (v ++ x) a b h⟩
  | r3 u v a b h => exact ⟨_, by simpa using Rw.r3 u (v ++ x) a b h⟩
  | r4 u v a b m h => exact ⟨_, by simpa using Rw.r4 u (v ++ x) a b m h⟩
theorem runA_app (u v : List Stp) (S : List Int) : runA (u ++ v) S = (runA u S).bind (runA v) := by
  induction u generalizing S with
  | nil => rfl
  | cons s u ih =>
    rw [List.cons_append, runA_cons, runA_cons]
    cases stepA s S with
    | none => rfl
    | some T => exact ih T
theorem never_run : ∀ {ss : List Stp} {S T : List Int}, (∀ s ∈ ss, 1 ≤ s.cnt) → Never S → runA ss S = some T → Never T
  | [], S, T, _, hS, h => by cases h; exact hS
  | s :: ss, S, T, hc, hS, h => by
    rw [runA_cons] at h
    cases q : stepA s S with
    | none => rw [q] at h; cases h
    | some U =>
      rw [q] at h
      exact never_run (fun t ht => hc t (List.mem_cons_of_mem _ ht)) (stepA_never (hc s List.mem_cons_self) hS q) h
theorem dw_le {S : List Int} {a b : Int} (h : a ≤ b) : (S.dropWhile fun m => decide (m < a)).dropWhile (fun m => decide (m < b)) = S.dropWhile fun m => decide (m < b) := by
  induction S with
  | nil => rfl
  | cons m S ih =>
    by_cases q : m < a
    · rw [List.dropWhile_cons_of_pos (by simpa using q), List.dropWhile_cons_of_pos (by simp; omega), ih]
    · rw [List.dropWhile_cons_of_neg (by simpa using q)]
theorem dw_none {S : List Int} {b : Int} (h : ∀ x ∈ S, b ≤ x) : (S.dropWhile fun m => decide (m < b)) = S := by
  cases S with
  | nil => rfl
  | cons m S => rw [List.dropWhile_cons_of_neg]; have := h m List.mem_cons_self; simp; omega
theorem run_pops (m : Nat) (S : List Int) : runA (List.replicate m pO) S = if m ≤ S.length then some (S.drop m) else none := by
  induction m generalizing S with
  | zero => simp [runA]
  | succ m ih =>
    rw [List.replicate_succ, runA_cons]
    show Option.bind (if (1 : Int) ≤ S.length then some (S.drop 1) else none) _ = _
    cases S with
    | nil => simp
    | cons x S =>
      rw [if_pos (by simp; omega)]
      show runA (List.replicate m pO) S = _
      rw [ih]
      simp
theorem run_pP (n : Int) (v : List Stp) (S : List Int) : runA (pP n :: v) S = runA v (n :: S.dropWhile fun m => decide (m < n)) := by
  rw [runA_cons]; rfl
theorem run_pO (v : List Stp) (x : Int) (S : List Int) : runA (pO :: v) (x :: S) = runA v S := by
  rw [runA_cons]
  show Option.bind (if (1 : Int) ≤ (x :: S).length then some ((x :: S).drop 1) else none) _ = _
  rw [if_pos (by simp; omega)]
  rfl
theorem Rw.run {w w' : List Stp} (h : Rw w w') (p : Pl w) {S : List Int} (hS : Never S) : runA w' S = runA w S := by
  cases h with
  | r1 u v a b h =>
    rw [runA_app, runA_app]
    cases runA u S with
    | none => rfl
    | some T =>
      show runA _ T = runA _ T
      rw [run_pP, run_pP, run_pP, List.dropWhile_cons_of_pos (by simpa using h), dw_le (Int.le_of_lt h)]
  | r2 u v a b h =>
    rw [runA_app, runA_app]
    cases runA u S with
    | none => rfl
    | some T =>
      show runA _ T = runA _ T
      rw [run_pP, run_pP, run_pP, List.dropWhile_cons_of_neg (by simp; omega), run_pO]
  | r3 u v a b h =>
    rw [runA_app, runA_app]
    cases runA u S with
    | none => rfl
    | some T =>
      show runA _ T = runA _ T
      rw [run_pP, run_pP, run_pO, run_pP, dw_le h]
  | r4 u v a b m h =>
    have hu : ∀ s ∈ u, 1 ≤ s.cnt := fun s hs => p.one s (List.mem_append_left _ hs)
    rw [runA_app, runA_app]
    cases q : runA u S with
    | none => rfl
    | some T =>
      have nT := never_run hu hS q
      show runA _ T = runA _ T
      rw [run_pP, run_pP, runA_app, runA_app, run_pops]
      split
      · show runA _ _ = runA _ _
        rw [List.drop_succ_cons, run_pP, run_pO]
        refine congrArg (runA v) (dw_none fun x hx => ?_).symm
        have hx := List.mem_of_mem_drop hx
        have : a ≤ x := by
          have := cb_drop a nT
          have h1 : ∀ y ∈ T.dropWhile (fun m => decide (m < a)), a ≤ y := by
            have : ∀ (L : List Int), Never L → ∀ y ∈ L.dropWhile (fun m => decide (m < a)), a ≤ y := by
              intro L
              induction L with
              | nil => intro _ y hy; cases hy
              | cons z L ih =>
                intro hL y hy
                have hL := List.pairwise_cons.mp hL
                by_cases q : z < a
                · rw [List.dropWhile_cons_of_pos (by simpa using q)] at hy
                  exact ih hL.2 y hy
                · rw [List.dropWhile_cons_of_neg (by simpa using q)] at hy
                  rcases List.mem_cons.mp hy with rfl | hy
                  · omega
                  · have := hL.1 y hy; omega
            exact this T nT
          exact h1 x hx
        omega
      · rfl
theorem Rw.eff {w w' : List Stp} (h : Rw w w') (p : Pl w) : effL w' = effL w :=
  act_inj (effL_valid (h.pl p).one) (effL_valid p.one) fun S hS => by rw [act_run (h.pl p).one hS, act_run p.one hS, h.run p hS]
def bodyW : List PP → List Stp
  | [] => []
  | [_] => []
  | p :: q :: r => pP p.1 :: (List.replicate (1 + p.2 - q.2).toNat pO ++ bodyW (q :: r))
def tailW (P : List PP) (N : List Int) : List Stp := match P.getLast? with
  | none => []
  | some p => if N.getLast? = some p.1 ∧ p.2 = 0 then [] else pP p.1 :: List.replicate (1 + p.2).toNat pO
def firstW (P : List PP) : Int := match P with | [] => 0 | p :: _ => p.2
def nf (e : Ef) : List Stp := List.replicate (e.2.1 - firstW e.1).toNat pO ++ (bodyW e.1 ++ (tailW e.1 e.2.2 ++ e.2.2.reverse.map pP))
theorem bodyW_snoc (p q : PP) : ∀ (P : List PP), bodyW (P ++ [p, q]) = bodyW (P ++ [p]) ++ pP p.1 :: List.replicate (1 + p.2 - q.2).toNat pO
  | [] => by simp [bodyW]
  | [a] => by simp [bodyW]
  | a :: b :: r => by
    have := bodyW_snoc p q (b :: r)
    show pP a.1 :: (List.replicate (1 + a.2 - b.2).toNat pO ++ bodyW (b :: r ++ [p, q])) = (pP a.1 :: (List.replicate (1 + a.2 - b.2).toNat pO ++ bodyW (b :: r ++ [p]))) ++ _
    rw [this]
    simp
theorem bodyW_shift (k : Int) : ∀ P : List PP, bodyW (P.map (shift k)) = bodyW P
  | [] => rfl
  | [_] => rfl
  | p :: q :: r => by
    have := bodyW_shift k (q :: r)
    show pP p.1 :: (List.replicate (1 + (p.2 + k) - (q.2 + k)).toNat pO ++ bodyW ((q :: r).map (shift k))) = _
    rw [this, show 1 + (p.2 + k) - (q.2 + k) = 1 + p.2 - q.2 by omega]
    rfl
theorem firstW_app (P : List PP) (q : PP) (h : P ≠ []) : firstW (P ++ [q]) = firstW P := by
  cases P with
  | nil => exact absurd rfl h
  | cons p P => rfl
def Irr (w : List Stp) : Prop := ∀ w', ¬ Rw w w'
theorem Irr.left {u v : List Stp} (h : Irr (u ++ v)) : Irr u := fun w' r => let ⟨x, hx⟩ := r.app v; h x hx
theorem Irr.no {w x y : List Stp} (h : Irr w) (e : w = x) (r : Rw x y) : False := h y (e ▸ r)
theorem und_chain {P : List PP} (hP : P.Pairwise fun p q => p.1 < q.1 ∧ q.2 < p.2) : und P = P := by
  have := und_app (M := []) hP (fun p hp => nomatch hp)
  rwa [List.append_nil] at this
theorem rep_snoc (n : Nat) : List.replicate n pO ++ [pO] = List.replicate (n + 1) pO := by rw [List.replicate_succ']
theorem jo_pop (e : Ef) : jo e (stepE pO) = (und (e.1.map (shift (max 0 ((1 : Int) - (e.2.2.length : Int))))), e.2.1 + max 0 ((1 : Int) - (e.2.2.length : Int)), e.2.2.drop (min (e.2.2.length : Int) 1).toNat) := by
  obtain ⟨P, d, N⟩ := e
  show (und (_ ++ []), _, [] ++ _) = _
  rw [List.append_nil, List.nil_append]
  rfl
theorem nf_pop {e : Ef} (he : Valid e) (hi : Irr (nf e ++ [pO])) : nf (jo e (stepE pO)) = nf e ++ [pO] := by
  obtain ⟨P, d, N⟩ := e
  rw [jo_pop]
  cases N with
  | nil =>
    have m1 : max (0 : Int) (1 - (([] : List Int).length : Int)) = 1 := by rw [List.length_nil]; omega
    rw [m1]
    dsimp only
    rw [und_chain (shift_chain 1 he.chain)]
    rcases List.eq_nil_or_concat P with rfl | ⟨P, p, rfl⟩
    · have := he.d0
      have this : 0 ≤ d := this
      simp only [nf, bodyW, tailW, firstW, List.map_nil, List.getLast?_nil, List.reverse_nil, List.append_nil, List.drop_nil, rep_snoc]
      congr 1
      omega
    · rw [List.concat_eq_append] at he hi ⊢
      have hp : 0 ≤ p.2 := he.nn p (by simp)
      have ff : firstW ((P ++ [p]).map (shift 1)) = firstW (P ++ [p]) + 1 := by
        cases P <;> rfl
      have t1 : tailW ((P ++ [p]).map (shift 1)) [] = pP p.1 :: List.replicate (1 + (p.2 + 1)).toNat pO := by
        simp [tailW, shift]
      have t2 : tailW (P ++ [p]) [] = pP p.1 :: List.replicate (1 + p.2).toNat pO := by
        simp [tailW]
      simp only [nf, List.drop_nil, List.reverse_nil, List.map_nil, List.append_nil]
      rw [bodyW_shift, ff, t1, t2, show d + 1 - (firstW (P ++ [p]) + 1) = d - firstW (P ++ [p]) by omega, show (1 + (p.2 + 1)).toNat = (1 + p.2).toNat + 1 by omega, ← rep_snoc]
      simp
  | cons y N =>
    have m1 : max (0 : Int) (1 - ((y :: N).length : Int)) = 0 := by simp; omega
    have m2 : (min ((y :: N).length : Int) 1).toNat = 1 := by simp; omega
    rw [m1, m2]
    dsimp only
    rw [und_chain (shift_chain 0 he.chain), show shift 0 = id from funext fun p => by simp [shift], List.map_id, Int.add_zero]
    cases N with
    | nil =>
      obtain ⟨p0, hp0, hy⟩ := he.cov y List.mem_cons_self
      rcases List.eq_nil_or_concat P with rfl | ⟨P, p, rfl⟩
      · cases hp0
      · rw [List.concat_eq_append] at he hi hp0 ⊢
        have hp : 0 ≤ p.2 := he.nn p (by simp)
        have hyp : y ≤ p.1 := by
          rcases List.mem_append.mp hp0 with h | h
          · have := (List.pairwise_append.mp he.chain).2.2 p0 h p (by simp)
            have hy : y ≤ p0.1 := hy
            omega
          · rw [List.mem_singleton.mp h] at hy; exact hy
        by_cases c : some y = some p.1 ∧ p.2 = 0
        · have c1 : y = p.1 := Option.some.inj c.1
          have c2 := c.2
          subst c1
          simp [nf, tailW, c2]
        · exfalso
          have e : nf (P ++ [p], d, [y]) ++ [pO] = (List.replicate (d - firstW (P ++ [p])).toNat pO ++ bodyW (P ++ [p])) ++ pP p.1 :: (List.replicate (p.2.toNat + 1) pO ++ pP y :: pO :: []) := by
            have : (1 + p.2).toNat = p.2.toNat + 1 := by omega
            have c' : ¬ (y = p.1 ∧ p.2 = 0) := fun z => c ⟨congrArg some z.1, z.2⟩
            simp [nf, tailW, c', this]
          exact hi.no e (.r4 _ _ _ _ _ hyp)
    | cons z N =>
      exfalso
      have e : nf (P, d, y :: z :: N) ++ [pO] = (List.replicate (d - firstW P).toNat pO ++ (bodyW P ++ (tailW P (y :: z :: N) ++ N.reverse.map pP))) ++ pP z :: pP y :: pO :: [] := by
        simp [nf]
      refine hi.no e (.r2 _ _ _ _ ?_)
      have := he.nev
      exact (List.pairwise_cons.mp this).1 z List.mem_cons_self
theorem nf_push {e : Ef} (he : Valid e) {n : Int} (hi : Irr (nf e ++ [pP n])) : nf (jo e (stepE (pP n))) = nf e ++ [pP n] := by
  obtain ⟨P, d, N⟩ := e
  have ht : ∀ T : List Int, tk [(n, 0)] 0 T = cb T n := fun T => tk_eq (cb_le T n).1 (fun p hp => by rw [List.mem_singleton.mp hp]; simp) (.inr ⟨(n, 0), List.mem_singleton.mpr rfl, by simp⟩)
  have hb : max 0 (cb N n - N.length) = 0 := by have := (cb_le N n).2; omega
  have hm : (min (N.length : Int) (cb N n)).toNat = (cb N n).toNat := by have := (cb_le N n).2; omega
  have e0 : jo (P, d, N) (stepE (pP n)) = (und (P ++ [((n : Int), (0 : Int))].filter (thr N)), d, n :: N.drop (cb N n).toNat) := by
    simp only [jo, stepE, ht, hb, hm, shift_zero]
    simp
  rw [e0]
  cases N with
  | cons y N =>
    have hy : n ≤ y := by
      rcases Int.lt_or_le y n with h | h
      · exfalso
        have e : nf (P, d, y :: N) ++ [pP n] = (List.replicate (d - firstW P).toNat pO ++ (bodyW P ++ (tailW P (y :: N) ++ N.reverse.map pP))) ++ pP y :: pP n :: [] := by
          simp [nf]
        exact hi.no e (.r1 _ _ _ _ h)
      · exact h
    have all : ∀ x ∈ y :: N, n ≤ x := fun x hx => by
      rcases List.mem_cons.mp hx with rfl | hx
      · exact hy
      · have := (List.pairwise_cons.mp he.nev).1 x hx
        omega
    have tf : [((n : Int), (0 : Int))].filter (thr (y :: N)) = [] := by
      have : thr (y :: N) (n, 0) = false := decide_eq_false fun h => by have := h y List.mem_cons_self; simp at this; omega
      simp [this]
    rw [cb_none all, tf, List.append_nil, und_chain he.chain]
    show nf (P, d, n :: y :: N) = _
    have gl : (n :: y :: N).getLast? = (y :: N).getLast? := by simp
    simp [nf, tailW, gl]
  | nil =>
    have tf : [((n : Int), (0 : Int))].filter (thr []) = [(n, 0)] := by simp [thr]
    rw [tf]
    show nf (und (P ++ [(n, 0)]), d, [n]) = _
    rcases List.eq_nil_or_concat P with rfl | ⟨P, p, rfl⟩
    · have uc : und ([] ++ [((n : Int), (0 : Int))]) = [(n, 0)] := und_chain (List.pairwise_singleton _ _)
      rw [uc]
      simp [nf, bodyW, tailW, firstW]
    · rw [List.concat_eq_append] at he hi ⊢
      have hp : 0 ≤ p.2 := he.nn p (by simp)
      have t2 : tailW (P ++ [p]) [] = pP p.1 :: List.replicate (1 + p.2).toNat pO := by simp [tailW]
      have e2 : nf (P ++ [p], d, []) = List.replicate (d - firstW (P ++ [p])).toNat pO ++ (bodyW (P ++ [p]) ++ pP p.1 :: List.replicate (1 + p.2).toNat pO) := by
        simp [nf, t2]
      by_cases c : p.1 < n
      · -- a new pair
        have hp1 : 1 ≤ p.2 := by
          rcases Int.lt_or_le 0 p.2 with h | h
          · omega
          · exfalso
            have h0 : p.2 = 0 := by omega
            have e : nf (P ++ [p], d, []) ++ [pP n] = (List.replicate (d - firstW (P ++ [p])).toNat pO ++ bodyW (P ++ [p])) ++ pP p.1 :: pO :: pP n :: [] := by
              rw [e2, h0]
              simp
            exact hi.no e (.r3 _ _ _ _ (Int.le_of_lt c))
        have ch : (P ++ [p] ++ [(n, 0)]).Pairwise fun p q : PP => p.1 < q.1 ∧ q.2 < p.2 := by
          rw [List.pairwise_append]
          refine ⟨he.chain, List.pairwise_singleton _ _, fun a ha b hb => ?_⟩
          rw [List.mem_singleton.mp hb]
          rcases List.mem_append.mp ha with h | h
          · have := (List.pairwise_append.mp he.chain).2.2 a h p (by simp)
            exact ⟨by show a.1 < n; omega, by show 0 < a.2; omega⟩
          · rw [List.mem_singleton.mp h]
            exact ⟨c, by show 0 < p.2; omega⟩
        rw [und_chain ch, e2]
        have f1 : firstW (P ++ [p] ++ [(n, 0)]) = firstW (P ++ [p]) := firstW_app _ _ (by simp)
        have b1 : bodyW (P ++ [p] ++ [(n, 0)]) = bodyW (P ++ [p]) ++ pP p.1 :: List.replicate (1 + p.2).toNat pO := by
          rw [List.append_assoc]
          have := bodyW_snoc p (n, 0) P
          simpa using this
        have t1 : tailW (P ++ [p] ++ [(n, 0)]) [n] = [] := by simp [tailW]
        simp only [nf, f1, b1, t1]
        simp
      · have dm : ∀ q ∈ [((n : Int), (0 : Int))], ∃ r ∈ P ++ [p], dom q r := fun q hq => ⟨p, by simp, by rw [List.mem_singleton.mp hq]; exact ⟨by show n ≤ p.1; omega, hp⟩⟩
        rw [und_app he.chain dm, e2]
        have nc : ¬ (some n = some p.1 ∧ p.2 = 0) := by
          rintro ⟨c1, c2⟩
          have c1 := Option.some.inj c1
          have e : nf (P ++ [p], d, []) ++ [pP n] = (List.replicate (d - firstW (P ++ [p])).toNat pO ++ bodyW (P ++ [p])) ++ pP p.1 :: pO :: pP n :: [] := by
            rw [e2, c2]
            simp
          exact hi.no e (.r3 _ _ _ _ (by omega))
        have t1 : tailW (P ++ [p]) [n] = pP p.1 :: List.replicate (1 + p.2).toNat pO := by
          have c' : ¬ (n = p.1 ∧ p.2 = 0) := fun z => nc ⟨congrArg some z.1, z.2⟩
          simp [tailW, c']
        simp only [nf, t1]
        simp
theorem effL_snoc (u : List Stp) (s : Stp) : effL (u ++ [s]) = jo (effL u) (stepE s) := by
  unfold effL
  rw [List.foldl_append]
  rfl
theorem irr_nf : ∀ (k : Nat) (w : List Stp), w.length = k → Pl w → Irr w → w = nf (effL w) := by
  intro k
  induction k with
  | zero =>
    intro w hl _ _
    rw [List.eq_nil_of_length_eq_zero hl]
    rfl
  | succ k ih =>
    intro w hl p hi
    rcases List.eq_nil_or_concat w with rfl | ⟨u, s, rfl⟩
    · cases hl
    · rw [List.concat_eq_append] at hl p hi ⊢
      have pu := (Pl.app.mp p).1
      have hs : s.cnt = 1 := p s (by simp)
      have e := ih u (by simpa using hl) pu hi.left
      have hv := effL_valid pu.one
      rw [effL_snoc]
      rw [e] at hi
      conv => lhs; rw [e]
      cases s with
      | push n c =>
        have hs : c = 1 := hs
        subst hs
        exact (nf_push hv hi).symm
      | pop c =>
        have hs : c = 1 := hs
        subst hs
        exact (nf_pop hv hi).symm
theorem irr_uniq {w w' : List Stp} (p : Pl w) (p' : Pl w') (h : Irr w) (h' : Irr w') (e : effL w = effL w') : w = w' := by
  rw [irr_nf _ w rfl p h, irr_nf _ w' rfl p' h', e]
end Qa
namespace Qa
open PySem PySem.Spec PyProof.Rows L2 Evl Mi Pg Pu
theorem seq_nx {a b : Ga → Res (Ga × Fl)} {Γ Γ1 : Ga} (h : a Γ = .ok (Γ1, .nx)) : sSeq a b Γ = b Γ1 := by
  show (a Γ).bind _ = _
  rw [h]
  rfl
abbrev wD (w : List Stp) : D := .list (w.map Stp.d)
end Qa
namespace Qa
open PySem PySem.Spec PyProof.Rows L2 Evl Mi Pg Pu
theorem flat_len {α β : Type} (R : α → List β) (k : Nat) (h : ∀ x, (R x).length ≤ k) : ∀ xs : List α, (xs.flatMap R).length ≤ k * xs.length
  | [] => by simp
  | x :: xs => by
    rw [List.flatMap_cons, List.length_append, List.length_cons, Nat.mul_succ]
    have := flat_len R k h xs
    have := h x
    omega
end Qa
namespace Qa
open PySem PySem.Spec PyProof.Rows L2 Evl Mi Pg Pu
theorem stp_last (s : Stp) : ∃ xs, s.d = .tuple xs ∧ atI xs (-1) = some (.int s.cnt) := by
  cases s with
  | push n c => exact ⟨_, rfl, at_last rfl⟩
  | pop c => exact ⟨_, rfl, at_last rfl⟩
end Qa
namespace Qa
open PySem PySem.Spec PyProof.Rows L2 Evl Mi Pg Pu
def lenS (L : List Stp) : Int := (L.map Stp.cnt).sum
theorem lenS_app (L M : List Stp) : lenS (L ++ M) = lenS L + lenS M := by simp [lenS]
def emitW (N : List Int) (z : PP × Int) : List Stp := if N.getLast? = some z.1.1 ∧ z.1.2 = 0 then [] else [.push z.1.1 1, .pop (1 + z.1.2 - z.2)]
def aftW (P : List PP) : List Int := P.tail.map (·.2) ++ [0]
def headS (P : List PP) (d : Int) : List Stp := if firstW P < d then [.pop (d - firstW P)] else []
def shL (e : Ef) : List Stp := (headS e.1 e.2.1 ++ (e.1.zip (aftW e.1)).flatMap (emitW e.2.2)) ++ (runsT e.2.2).reverse.map fun q => .push q.1 q.2
theorem mid_len (N : List Int) : ∀ P : List PP, (P.Pairwise fun p q => p.1 < q.1 ∧ q.2 < p.2) → (∀ p ∈ P, 0 ≤ p.2) → lenS ((P.zip (aftW P)).flatMap (emitW N)) = ((bodyW P ++ tailW P N).length : Nat)
  | [], _, _ => rfl
  | [p], _, hn => by
    have h0 := hn p List.mem_cons_self
    by_cases h : N.getLast? = some p.1 ∧ p.2 = 0
    · simp [aftW, emitW, h, bodyW, tailW, lenS]
    · have h' : ¬ (N.getLast? = some p.1 ∧ p.2 = 0) := h
      simp only [aftW, List.tail_cons, List.map_nil, List.nil_append, List.zip_cons_cons, List.zip_nil_left, List.flatMap_cons, List.flatMap_nil, emitW, bodyW, tailW, List.getLast?_singleton, if_neg h']
      simp [lenS, Stp.cnt]
      omega
  | p :: q :: r, hc, hn => by
    have ih := mid_len N (q :: r) (List.pairwise_cons.mp hc).2 fun x hx => hn x (List.mem_cons_of_mem _ hx)
    have h1 := (List.pairwise_cons.mp hc).1 q List.mem_cons_self
    have h2 := hn q (by simp)
    have hne : ¬ (N.getLast? = some p.1 ∧ p.2 = 0) := fun z => by omega
    have e1 : ((p :: q :: r).zip (aftW (p :: q :: r))) = (p, q.2) :: ((q :: r).zip (aftW (q :: r))) := rfl
    have e2 : tailW (p :: q :: r) N = tailW (q :: r) N := by simp [tailW, List.getLast?_cons_cons]
    rw [e1, List.flatMap_cons, lenS_app, ih, e2]
    have e3 : emitW N (p, q.2) = [.push p.1 1, .pop (1 + p.2 - q.2)] := by unfold emitW; rw [if_neg hne]
    rw [e3]
    simp only [bodyW]
    simp [lenS, Stp.cnt]
    omega
theorem shL_len {e : Ef} (v : Valid e) : lenS (shL e) = ((nf e).length : Nat) := by
  have m := mid_len e.2.2 e.1 v.chain v.nn
  have hr : lenS ((runsT e.2.2).reverse.map fun q => .push q.1 q.2) = (e.2.2.length : Nat) := by
    have : ((runsT e.2.2).map (·.2)).sum = e.2.2.length := size_runs e.2.2
    unfold lenS
    rw [List.map_map, ← this, List.map_reverse, sum_rev]
    rfl
  have hf : firstW e.1 ≤ e.2.1 := by
    cases h : e.1 with
    | nil => exact v.d0
    | cons p P => exact v.le p (by rw [h]; exact List.mem_cons_self)
  have hh : lenS (headS e.1 e.2.1) = ((e.2.1 - firstW e.1).toNat : Nat) := by
    unfold headS
    split
    · simp [lenS, Stp.cnt]; omega
    · simp [lenS]; omega
  unfold shL nf
  rw [lenS_app, lenS_app, m, hr, hh]
  simp
  omega
theorem length_of_ok {L : List Stp} (hl : L.length ≤ 100000) : m_length_of [.d (wD L)] = .ok ([.d (wD L)], .d (.int (lenS L))) := by
  have e : l1_length_of [.d (wD L), .un] = .ok ([.d (wD L), .un], .f (L.map fun s => .int s.cnt)) := by
    refine sLc_map Stp.d (fun s => .int s.cnt) (xs := L) (by simp) rfl (fun s _ => ?_) (by omega)
    obtain ⟨xs, e1, e2⟩ := stp_last s
    rw [e1]
    exact ⟨[.d (wD L), .d (.tuple xs)], rfl, by simp [e2], rfl⟩
  have h := intsOf_map (fun s : Stp => s.cnt) L
  have s : sumG (.list (L.map fun s => .int s.cnt)) = .ok (.d (.int (lenS L))) := by
    simp only [sumG, h]
    rfl
  simp [m_length_of, b_length_of, e, s]
theorem stk_head {N : List Int} {y : Int} (h : N.getLast? = some y) : ∃ c r, stk N = .tuple (tw (y, c) :: r) := by
  obtain ⟨c, Q, e⟩ := runs_last h
  refine ⟨c, (Q.reverse).map tw, ?_⟩
  unfold stk rt
  rw [e]
  simp
theorem emit_turn (a b c : Sl) (P6 : Sl) (N : List Int) (f5 s10 s11 : Sl) (F : List Stp) (hl : F.length ≤ 10000) (z : PP × Int) :
    l2b_shortest_of [a, b, c, .d (stk N), .own false (F.map Stp.d), f5, P6, .d (.int z.1.1), .d (.int z.1.2), .d (.int z.2), s10, s11] = .ok ([a, b, c, .d (stk N), .own false ((F ++ emitW N z).map Stp.d), f5, P6, .d (.int z.1.1), .d (.int z.1.2), .d (.int z.2), s10, s11], .nx) := by
  have hsz : F.length + 2 ≤ 16777216 := by omega
  cases hN : N with
  | nil =>
    have e0 : eqS (stk []) (.tuple []) = .ok (.d (.bool true)) := eqS_same (by simp [stk_nil])
    have em : emitW [] z = [.push z.1.1 1, .pop (1 + z.1.2 - z.2)] := by simp [emitW]
    simp [l2b_shortest_of, e0, em, hsz, Stp.d]
  | cons n T =>
    obtain ⟨y, hy⟩ : ∃ y, (n :: T).getLast? = some y := ⟨_, List.getLast?_cons⟩
    obtain ⟨cc, r, hs⟩ := stk_head hy
    have ne : stk (n :: T) ≠ .tuple [] := by rw [hs]; simp
    have e0 : eqS (stk (n :: T)) (.tuple []) = .ok (.d (.bool (decide False))) := eqS_fl (p := False) (by simp) (by simp) (by simp [ne])
    have e1 : neS (.tuple [.int z.1.1, .int z.1.2]) (.tuple [.int y, .int 0]) = .ok (.d (.bool (!decide (z.1.1 = y ∧ z.1.2 = 0)))) := neS_fl (by simp) (by simp) (by simp)
    have i0 : ixG (stk (n :: T)) (.int 0) = .ok (.d (tw (y, cc))) := by rw [hs]; simp
    have i1 : ixG (tw (y, cc)) (.int 0) = .ok (.d (.int y)) := by simp [tw]
    by_cases q : z.1.1 = y ∧ z.1.2 = 0
    · have em : emitW (n :: T) z = [] := by unfold emitW; rw [hy, if_pos ⟨by rw [q.1], q.2⟩]
      have e1 : neS (.tuple [.int z.1.1, .int z.1.2]) (.tuple [.int y, .int 0]) = .ok (.d (.bool false)) := by rw [e1]; simp [q]
      simp [l2b_shortest_of, e0, e1, i0, i1, em]
    · have em : emitW (n :: T) z = [.push z.1.1 1, .pop (1 + z.1.2 - z.2)] := by
        unfold emitW
        rw [hy, if_neg fun h => q ⟨(Option.some.inj h.1).symm, h.2⟩]
      have e1 : neS (.tuple [.int z.1.1, .int z.1.2]) (.tuple [.int y, .int 0]) = .ok (.d (.bool true)) := by rw [e1]; simp [q]
      simp [l2b_shortest_of, e0, e1, i0, i1, em, hsz, Stp.d]
theorem emit_len (N : List Int) (z : PP × Int) : (emitW N z).length ≤ 2 := by unfold emitW; split <;> simp
theorem shortest_of_ok {e : Ef} (hp : e.1.length ≤ 1000) (hf : Few e.2.2) : m_shortest_of [.d (effE e)] = .ok ([.d (effE e)], .f ((shL e).map Stp.d)) := by
  obtain ⟨P, d, N⟩ := e
  dsimp only at hp hf
  have hP0 : neS (rt P) (.tuple []) = .ok (.d (.bool (!decide (P = [])))) := neS_fl (by simp) (by simp) (by cases P <;> simp [rt])
  have hfst : ∀ G : Ga, G = [.d (effE (P, d, N)), .d (rt P), .d (.int d), .d (stk N), .own false [], .un, .un, .un, .un, .un, .un, .un] → sIf (sTst (sBin neS (sName 1) (sPub (sTup sNil)))) (sBin ixG (sPub (sBin ixG (sName 1) (sC (.int 0)))) (sC (.int 1))) (sDat (sC (.int 0))) G = .ok (G, .d (.int (firstW P))) := by
    rintro G rfl
    cases P with
    | nil => simp [hP0, firstW]
    | cons p P =>
      have i0 : ixG (rt (p :: P)) (.int 0) = .ok (.d (tw p)) := by simp [rt]
      have i1 : ixG (tw p) (.int 1) = .ok (.d (.int p.2)) := by simp [tw]
      simp [hP0, i0, i1, firstW]
  have a1 : ∀ s4 : Sl, l1_shortest_of [.d (effE (P, d, N)), .d (rt P), .d (.int d), .d (stk N), s4, .d (.int (firstW P)), .un, .un, .un, .un, .un, .un] = .ok ([.d (effE (P, d, N)), .d (rt P), .d (.int d), .d (stk N), s4, .d (.int (firstW P)), .un, .un, .un, .un, .un, .un], .f (P.tail.map fun p => .int p.2)) := fun s4 => by
    have hs : slG (rt P) (some 1) none = .ok (.d (.tuple (P.tail.map tw))) := by rw [rt, q_slGt, cut_drop1, List.map_tail]
    exact sLc_map tw (fun p => .int p.2) (xs := P.tail) (by simp [hs]) rfl (fun p _ => ⟨[.d (effE (P, d, N)), .d (rt P), .d (.int d), .d (stk N), s4, .d (.int (firstW P)), .un, .d (.int p.1), .d (.int p.2), .un, .un, .un], by simp [tw], rfl, rfl⟩) (by simp; omega)
  have hz : zipML [rt P, .list ((aftW P).map .int)] = .ok ((P.zip (aftW P)).map fun z => .tuple [tw z.1, .int z.2]) := by
    show Res.ok (pairUp (P.map tw) ((aftW P).map PyData.int)) = _
    unfold pairUp
    rw [List.zip_map, List.map_map]
    rfl
  have hh : (headS P d).length ≤ 1 := by unfold headS; split <;> simp
  obtain ⟨t, e2, h2⟩ := sFor_fold (σ := List Stp) (τ := Sl × Sl × Sl) (fun F t => [.d (effE (P, d, N)), .d (rt P), .d (.int d), .d (stk N), .own false (F.map Stp.d), .d (.int (firstW P)), .d (.list ((aftW P).map .int)), t.1, t.2.1, t.2.2, .un, .un]) (fun z : PP × Int => .tuple [tw z.1, .int z.2]) (fun F z => F ++ emitW N z)
    (fun i F => F.length ≤ 1 + 2 * i) (it := sItA zipML (sCons (sName 1) (sCons (sName 6) sNil))) (g := gTup' (gCons' (gTup' (gCons' (gN 7) (gCons' (gN 8) gNil')) 2) (gCons' (gN 9) gNil')) 2) (b := l2b_shortest_of)
    (Γ := [.d (effE (P, d, N)), .d (rt P), .d (.int d), .d (stk N), .own false ((headS P d).map Stp.d), .d (.int (firstW P)), .own false ((aftW P).map .int), .un, .un, .un, .un, .un]) (xs := P.zip (aftW P)) (s := headS P d) (.un, .un, .un) (by simp [hz]) (by simpa using hh) (fun i F t z _ hi hF => by
      have hi : i < P.length := by
        have := List.length_zip (l₁ := P) (l₂ := aftW P)
        omega
      refine ⟨⟨[.d (effE (P, d, N)), .d (rt P), .d (.int d), .d (stk N), .own false (F.map Stp.d), .d (.int (firstW P)), .d (.list ((aftW P).map .int)), .d (.int z.1.1), .d (.int z.1.2), .d (.int z.2), .un, .un], (.d (.int z.1.1), .d (.int z.1.2), .d (.int z.2)), by simp [tw], ?_⟩, ?_⟩
      · exact emit_turn _ _ _ _ N _ _ _ F (by omega) z
      · have := emit_len N z
        rw [List.length_append]
        omega)
  have hfl : ∀ (xs : List (PP × Int)) (F : List Stp), xs.foldl (fun F z => F ++ emitW N z) F = F ++ xs.flatMap (emitW N) := by
    intro xs
    induction xs with
    | nil => intro F; simp
    | cons x xs ih => intro F; rw [List.foldl_cons, ih, List.flatMap_cons, List.append_assoc]
  rw [hfl] at e2 h2
  generalize hM : headS P d ++ (P.zip (aftW P)).flatMap (emitW N) = M at e2 h2
  have hzl : (P.zip (aftW P)).length ≤ 1000 := by rw [List.length_zip]; omega
  have e2 : l2_shortest_of [.d (effE (P, d, N)), .d (rt P), .d (.int d), .d (stk N), .own false ((headS P d).map Stp.d), .d (.int (firstW P)), .own false ((aftW P).map .int), .un, .un, .un, .un, .un] = .ok ([.d (effE (P, d, N)), .d (rt P), .d (.int d), .d (stk N), .own false (M.map Stp.d), .d (.int (firstW P)), .d (.list ((aftW P).map .int)), t.1, t.2.1, t.2.2, .un, .un], .nx) := e2
  have e3 : l3_shortest_of [.d (effE (P, d, N)), .d (rt P), .d (.int d), .d (stk N), .own false (M.map Stp.d), .d (.int (firstW P)), .d (.list ((aftW P).map .int)), t.1, t.2.1, t.2.2, .un, .un] = .ok ([.d (effE (P, d, N)), .d (rt P), .d (.int d), .d (stk N), .own false (M.map Stp.d), .d (.int (firstW P)), .d (.list ((aftW P).map .int)), t.1, t.2.1, t.2.2, .un, .un], .f (((runsT N).reverse.map fun q => Stp.push q.1 q.2).map Stp.d)) := by
    rw [List.map_map]
    refine sLc_map tw _ (xs := (runsT N).reverse) (by simp [stk, rt]) rfl (fun p _ => ⟨[.d (effE (P, d, N)), .d (rt P), .d (.int d), .d (stk N), .own false (M.map Stp.d), .d (.int (firstW P)), .d (.list ((aftW P).map .int)), t.1, t.2.1, t.2.2, .d (.int p.1), .d (.int p.2)], by simp [tw], by simp [Stp.d], rfl⟩) (by rw [List.length_reverse]; unfold Few at hf; omega)
  have hsz : M.length + (runsT N).length ≤ 16777216 := by unfold Few at hf; omega
  have hsh : shL (P, d, N) = M ++ (runsT N).reverse.map fun q => Stp.push q.1 q.2 := by rw [← hM]; rfl
  have g0 : gTup' (gCons' (gN 1) (gCons' (gN 2) (gCons' (gN 3) gNil'))) 3 (effE (P, d, N)) [.d (effE (P, d, N)), .un, .un, .un, .un, .un, .un, .un, .un, .un, .un, .un] = some [.d (effE (P, d, N)), .d (rt P), .d (.int d), .d (stk N), .un, .un, .un, .un, .un, .un, .un, .un] := by simp [effE, eff]
  have haf : (P.tail.map fun p => PyData.int p.2) ++ [.int 0] = (aftW P).map .int := by
    simp only [aftW, List.map_append, List.map_map]
    rfl
  have haz : (P.tail.map fun p => PyData.int p.2).length + 1 ≤ 16777216 := by simp; omega
  generalize (P.tail.map fun p => PyData.int p.2) = A1 at a1 haf haz
  have body : b_shortest_of [.d (effE (P, d, N)), .un, .un, .un, .un, .un, .un, .un, .un, .un, .un, .un] = .ok ([.d (effE (P, d, N)), .d (rt P), .d (.int d), .d (stk N), .own false (M.map Stp.d), .d (.int (firstW P)), .d (.list ((aftW P).map .int)), t.1, t.2.1, t.2.2, .un, .un], .rt (.f ((shL (P, d, N)).map Stp.d))) := by
    unfold b_shortest_of
    refine (seq_nx (Γ1 := [.d (effE (P, d, N)), .d (rt P), .d (.int d), .d (stk N), .un, .un, .un, .un, .un, .un, .un, .un]) (by
      simp only [z_asg, q_nameU, List.getElem?_cons_zero, bind_ok, g0])).trans ?_
    refine (seq_nx (Γ1 := [.d (effE (P, d, N)), .d (rt P), .d (.int d), .d (stk N), .own false [], .un, .un, .un, .un, .un, .un, .un]) (by simp)).trans ?_
    refine (seq_nx (Γ1 := [.d (effE (P, d, N)), .d (rt P), .d (.int d), .d (stk N), .own false [], .d (.int (firstW P)), .un, .un, .un, .un, .un, .un]) (by
      rw [z_set, hfst _ rfl]; simp)).trans ?_
    refine (seq_nx (Γ1 := [.d (effE (P, d, N)), .d (rt P), .d (.int d), .d (stk N), .own false ((headS P d).map Stp.d), .d (.int (firstW P)), .un, .un, .un, .un, .un, .un]) (by
      by_cases q : firstW P < d <;> simp [headS, q, Stp.d])).trans ?_
    refine (seq_nx (Γ1 := [.d (effE (P, d, N)), .d (rt P), .d (.int d), .d (stk N), .own false ((headS P d).map Stp.d), .d (.int (firstW P)), .own false ((aftW P).map .int), .un, .un, .un, .un, .un]) (by
      simp [a1, haf, haz])).trans ?_
    refine (seq_nx e2).trans ?_
    rw [hsh]
    simp [e3, hsz]
  simp [m_shortest_of, body]
theorem steps_in_ok {e : Ef} (v : Valid e) (hp : e.1.length ≤ 1000) (hf : Few e.2.2) : m_steps_in [.d (effE e)] = .ok ([.d (effE e)], .d (.int ((nf e).length : Nat))) := by
  have h1 := check_effect_ok v hp hf
  have h2 := shortest_of_ok hp hf
  have hl : (shL e).length ≤ 100000 := by
    unfold shL
    rw [List.length_append, List.length_append]
    have a : (headS e.1 e.2.1).length ≤ 1 := by unfold headS; split <;> simp
    have b := flat_len (emitW e.2.2) 2 (emit_len e.2.2) (e.1.zip (aftW e.1))
    have c : (e.1.zip (aftW e.1)).length ≤ 1000 := by rw [List.length_zip]; omega
    have d : ((runsT e.2.2).reverse.map fun q => Stp.push q.1 q.2).length ≤ 1000 := by simp; unfold Few at hf; omega
    omega
  have h3 := length_of_ok hl
  rw [shL_len v] at h3
  generalize effE e = x at *
  have h3 : m_length_of [.d (.list ((shL e).map Stp.d))] = _ := h3
  simp [m_steps_in, b_steps_in, h1, h2, h3]
end Qa
namespace Qa
open PySem PySem.Spec PyProof.Rows L2 Evl Mi Pg Pu
end Qa
namespace Qa
open PySem PySem.Spec PyProof.Rows L2 Evl Mi Pg Pu
end Qa
namespace Qa
open PySem PySem.Spec PyProof.Rows L2 Evl Mi Pg Pu
end Qa
namespace Qa
open PySem PySem.Spec PyProof.Rows L2 Evl Mi Pg Pu
end Qa
namespace Qa
open PySem PySem.Spec PyProof.Rows L2 Evl Mi Pg Pu
def exS : Stp → List Stp
  | .push n c => List.replicate c.toNat (pP n)
  | .pop c => List.replicate c.toNat pO
def expS (L : List Stp) : List Stp := L.flatMap exS
theorem expS_app (L M : List Stp) : expS (L ++ M) = expS L ++ expS M := by simp [expS]
theorem mid_exp (N : List Int) : ∀ P : List PP, (P.Pairwise fun p q => p.1 < q.1 ∧ q.2 < p.2) → (∀ p ∈ P, 0 ≤ p.2) → expS ((P.zip (aftW P)).flatMap (emitW N)) = bodyW P ++ tailW P N
  | [], _, _ => rfl
  | [p], _, hn => by
    by_cases h : N.getLast? = some p.1 ∧ p.2 = 0
    · simp [aftW, emitW, h, bodyW, tailW, expS]
    · have h' : ¬ (N.getLast? = some p.1 ∧ p.2 = 0) := h
      simp only [aftW, List.tail_cons, List.map_nil, List.nil_append, List.zip_cons_cons, List.zip_nil_left, List.flatMap_cons, List.flatMap_nil, emitW, bodyW, tailW, List.getLast?_singleton, if_neg h']
      simp [expS, exS]
  | p :: q :: r, hc, hn => by
    have ih := mid_exp N (q :: r) (List.pairwise_cons.mp hc).2 fun x hx => hn x (List.mem_cons_of_mem _ hx)
    have h1 := (List.pairwise_cons.mp hc).1 q List.mem_cons_self
    have h2 := hn q (by simp)
    have hne : ¬ (N.getLast? = some p.1 ∧ p.2 = 0) := fun z => by omega
    have e1 : ((p :: q :: r).zip (aftW (p :: q :: r))) = (p, q.2) :: ((q :: r).zip (aftW (q :: r))) := rfl
    have e2 : tailW (p :: q :: r) N = tailW (q :: r) N := by simp [tailW, List.getLast?_cons_cons]
    rw [e1, List.flatMap_cons, expS_app, ih, e2]
    have e3 : emitW N (p, q.2) = [.push p.1 1, .pop (1 + p.2 - q.2)] := by unfold emitW; rw [if_neg hne]
    rw [e3]
    simp [expS, exS, bodyW]
theorem unr_runsT : ∀ T : List Int, unr (runsT T) = T
  | [] => rfl
  | n :: T => by
    have ih := unr_runsT T
    rw [runsT]
    have hp := runsT_pos T
    cases q : runsT T with
    | nil =>
      rw [q] at ih
      rw [addR, unr_cons, ← ih]
      rfl
    | cons r R =>
      obtain ⟨m, c⟩ := r
      rw [q] at ih hp
      have hc : 1 ≤ c := hp (m, c) List.mem_cons_self
      simp only [addR]
      rw [unr_cons] at ih
      split
      · rename_i hm
        rw [unr_cons]
        show List.replicate (c + 1).toNat m ++ unr R = n :: T
        rw [show (c + 1).toNat = c.toNat + 1 by omega, List.replicate_succ, ← ih]
        simp [hm]
      · rw [unr_cons, unr_cons]
        show List.replicate (1 : Int).toNat n ++ (List.replicate c.toNat m ++ unr R) = n :: T
        rw [show List.replicate c.toNat m ++ unr R = T from ih]
        rfl
theorem exp_new (R : List PP) : expS (R.reverse.map fun q => .push q.1 q.2) = (unr R).reverse.map pP := by
  induction R with
  | nil => rfl
  | cons p R ih =>
    rw [List.reverse_cons, List.map_append, expS_app, ih, unr_cons, List.reverse_append, List.map_append]
    simp [expS, exS]
theorem exp_sh {e : Ef} (v : Valid e) : expS (shL e) = nf e := by
  have hf : firstW e.1 ≤ e.2.1 := by
    cases h : e.1 with
    | nil => exact v.d0
    | cons p P => exact v.le p (by rw [h]; exact List.mem_cons_self)
  have hh : expS (headS e.1 e.2.1) = List.replicate (e.2.1 - firstW e.1).toNat pO := by
    unfold headS
    split
    · simp [expS, exS]
    · rw [show (e.2.1 - firstW e.1).toNat = 0 by omega]; rfl
  unfold shL nf
  rw [expS_app, expS_app, mid_exp e.2.2 e.1 v.chain v.nn, hh, exp_new, unr_runsT]
  simp
theorem aft_le : ∀ (P : List PP), (P.Pairwise fun p q => p.1 < q.1 ∧ q.2 < p.2) → (∀ p ∈ P, 0 ≤ p.2) → ∀ z ∈ P.zip (aftW P), z.2 ≤ z.1.2
  | [], _, _, z, h => by cases h
  | [p], _, hn, z, h => by
    have h : z = (p, 0) := List.mem_singleton.mp h
    rw [h]
    exact hn p List.mem_cons_self
  | p :: q :: r, hc, hn, z, h => by
    have e1 : ((p :: q :: r).zip (aftW (p :: q :: r))) = (p, q.2) :: ((q :: r).zip (aftW (q :: r))) := rfl
    rw [e1] at h
    rcases List.mem_cons.mp h with rfl | h
    · have := ((List.pairwise_cons.mp hc).1 q List.mem_cons_self).2
      show q.2 ≤ p.2
      omega
    · exact aft_le (q :: r) (List.pairwise_cons.mp hc).2 (fun x hx => hn x (List.mem_cons_of_mem _ hx)) z h
theorem sh_cnt {e : Ef} (v : Valid e) : ∀ s ∈ shL e, 1 ≤ s.cnt := by
  intro s hs
  unfold shL at hs
  rcases List.mem_append.mp hs with hs | hs
  · rcases List.mem_append.mp hs with hs | hs
    · unfold headS at hs
      split at hs
      · rw [List.mem_singleton.mp hs]
        show 1 ≤ e.2.1 - firstW e.1
        omega
      · cases hs
    · obtain ⟨z, hz, hs⟩ := List.mem_flatMap.mp hs
      have := aft_le e.1 v.chain v.nn z hz
      unfold emitW at hs
      split at hs
      · cases hs
      · simp only [List.mem_cons, List.not_mem_nil, or_false] at hs
        rcases hs with rfl | rfl
        · exact Int.le_refl _
        · show 1 ≤ 1 + z.1.2 - z.2
          omega
  · obtain ⟨q, hq, rfl⟩ := List.mem_map.mp hs
    exact runsT_pos e.2.2 q (List.mem_reverse.mp hq)
end Qa
namespace Qa
open PySem PySem.Spec PyProof.Rows L2 Evl Mi Pg Pu
abbrev nt (L : List Nat) : List D := L.map fun i : Nat => PyData.int (i : Int)
end Qa
namespace Qa
open PySem PySem.Spec PyProof.Rows L2 Evl Mi Pg Pu
end Qa
namespace Qa
open PySem PySem.Spec PyProof.Rows L2 Evl Mi Pg Pu
end Qa
namespace Qa
open PySem PySem.Spec PyProof.Rows L2 Evl Mi Pg Pu
mutual
/-- no dicts that are not empty -/
def okd : D → Bool
  | .dict (_ :: _) => false
  | .dict [] => true
  | .tuple xs => okds xs
  | .none => true
  | .bool _ => true
  | .int _ => true
  | .str _ => true
  | .list _ => true
def okds : List D → Bool
  | [] => true
  | x :: xs => okd x && okds xs
end
@[simp] theorem ty_dict : tyD (.dict []) = some "dict" := rfl
end Qa
namespace Qa
def sN : Nat → (Nat → Int) → Int
  | 0, _ => 0
  | n + 1, f => sN n f + f n
section
variable (K : Nat)
def dW : Nat → (Nat → Int) × (Nat → Int) × (Nat → Int)
  -- done n, wait n, done (n + 1)
  | 0 => (fun _ => 0, fun _ => 0, fun _ => 0)
  | n + 1 => let (_, w, d1) := dW n
             let w1 := fun k => w k + (dW n).1 k
             (d1, w1, fun k => 1 + sN k w)
def doneN (n k : Nat) : Int := (dW n).1 k
def waitN (n k : Nat) : Int := (dW n).2.1 k
end
end Qa
namespace Qa
open PySem PySem.Spec PyProof.Rows L2 Evl Mi Pg Pu
end Qa
namespace Qa
open PySem PySem.Spec PyProof.Rows L2 Evl Mi Pg Pu
structure CutF (most kinds n : Nat) (st : List (List Int) × List Int) : Prop where
  ok : CutOk most kinds n st
  row : ∀ s k, s < 2 + n → s < most + 1 → k < kinds → (st.1.getD s []).getD k 0 = doneN s k
  tot : ∀ k, k < kinds → st.2.getD k 0 = waitN (n - 1) k
end Qa
namespace Qa
open PySem PySem.Spec PyProof.Rows L2 Evl Mi Pg Pu
end Qa
namespace Qa
open PySem PySem.Spec PyProof.Rows L2 Evl Mi Pg Pu
def part (g : Nat → Int) (i : Nat) : Nat → Int := fun k => if k < i then g k else 0
end Qa
namespace Qa
open PySem PySem.Spec PyProof.Rows L2 Evl Mi Pg Pu
abbrev Kv := List (Ef × Nat)
def kvD (l : Kv) : List (D × D) := l.map fun p => (effE p.1, .int (p.2 : Int))
def expd : Kv → List Ef
  | [] => []
  | p :: r => List.replicate p.2 p.1 ++ expd r
def getE : Kv → Ef → Nat
  | [], _ => 0
  | p :: r, e => if p.1 = e then p.2 else getE r e
def addE : Kv → Ef → Nat → Kv
  | [], e, m => [(e, m)]
  | p :: r, e, m => if p.1 = e then (p.1, p.2 + m) :: r else p :: addE r e m
theorem keyOks_tw : ∀ P : List PP, keyOks (P.map tw) = true
  | [] => rfl
  | p :: r => by
    rw [List.map_cons, keyOks, keyOks_tw r]
    rfl
theorem deepDs_tw : ∀ P : List PP, deepDs (P.map tw) ≤ 1
  | [] => by rw [List.map_nil, deepDs]; decide
  | p :: r => by
    rw [List.map_cons, deepDs]
    have h1 : deepD (tw p) = 1 := rfl
    have h2 := deepDs_tw r
    omega
theorem keyOk_eff (e : Ef) : keyOk (effE e) = true := by
  show keyOks [rt e.1, .int e.2.1, stk e.2.2] = true
  have h1 : keyOk (rt e.1) = true := keyOks_tw e.1
  have h2 : keyOk (stk e.2.2) = true := keyOks_tw _
  simp [keyOks, h1, h2, keyOk]
theorem key_eff (e : Ef) : keyB (effE e) = true := by
  have h : deepD (effE e) ≤ 8 := by
    show deepDs [rt e.1, .int e.2.1, stk e.2.2] + 1 ≤ 8
    have h1 : deepD (rt e.1) ≤ 2 := Nat.succ_le_succ (deepDs_tw e.1)
    have h2 : deepD (stk e.2.2) ≤ 2 := Nat.succ_le_succ (deepDs_tw _)
    simp only [deepDs]
    have h3 : deepD (.int e.2.1) = 0 := rfl
    omega
  unfold keyB
  rw [keyOk_eff, decide_eq_true h]
  rfl
theorem kEq_eff {e f : Ef} : kEq (effE e) (effE f) = true ↔ e = f := (kEq_ok (keyOk_eff e) (keyOk_eff f)).trans eff_inj
theorem val_kvD (e : Ef) : ∀ l : Kv, (valD (kvD l) (effE e)).getD (.int 0) = .int (getE l e : Int)
  | [] => rfl
  | p :: r => by
    show (valD ((effE p.1, .int (p.2 : Int)) :: kvD r) (effE e)).getD _ = _
    unfold valD getE
    by_cases h : p.1 = e
    · rw [if_pos (kEq_eff.mpr h), if_pos h]; rfl
    · rw [if_neg fun z => h (kEq_eff.mp z), if_neg h]; exact val_kvD e r
theorem put_kvD (e : Ef) (m : Nat) : ∀ l : Kv, putD (kvD l) (effE e) (.int ((getE l e + m : Nat) : Int)) = kvD (addE l e m)
  | [] => by
    show [(effE e, PyData.int ((0 + m : Nat) : Int))] = [(effE e, PyData.int (m : Int))]
    rw [Nat.zero_add]
  | p :: r => by
    show putD ((effE p.1, .int (p.2 : Int)) :: kvD r) (effE e) _ = _
    unfold putD getE addE
    by_cases h : p.1 = e
    · rw [if_pos (kEq_eff.mpr h), if_pos h, if_pos h]; rfl
    · rw [if_neg fun z => h (kEq_eff.mp z), if_neg h, if_neg h]
      show _ :: _ = (effE p.1, PyData.int (p.2 : Int)) :: kvD _
      rw [put_kvD e m r]
theorem expd_add (e : Ef) (m : Nat) : ∀ l : Kv, (expd (addE l e m)).Perm (List.replicate m e ++ expd l)
  | [] => by simp [addE, expd]
  | p :: r => by
    unfold addE
    by_cases h : p.1 = e
    · rw [if_pos h]
      show (List.replicate (p.2 + m) p.1 ++ expd r).Perm (List.replicate m e ++ (List.replicate p.2 p.1 ++ expd r))
      rw [← h, ← List.append_assoc, List.replicate_append_replicate, Nat.add_comm]
    · rw [if_neg h]
      show (List.replicate p.2 p.1 ++ expd (addE r e m)).Perm (List.replicate m e ++ (List.replicate p.2 p.1 ++ expd r))
      refine (List.Perm.append_left _ (expd_add e m r)).trans ?_
      rw [← List.append_assoc, ← List.append_assoc]
      exact List.Perm.append_right _ List.perm_append_comm
theorem add_keys (e : Ef) (m : Nat) : ∀ (l : Kv) (x : Ef), x ∈ (addE l e m).map (·.1) → x = e ∨ x ∈ l.map (·.1)
  | [], x, h => .inl (by simpa [addE] using h)
  | p :: r, x, h => by
    unfold addE at h
    split at h
    · exact .inr (by simpa using h)
    · rw [List.map_cons, List.mem_cons] at h
      rcases h with h | h
      · exact .inr (by rw [h]; simp)
      · rcases add_keys e m r x h with q | q
        · exact .inl q
        · exact .inr (by rw [List.map_cons]; exact List.mem_cons_of_mem _ q)
theorem add_nd (e : Ef) (m : Nat) : ∀ l : Kv, (l.map (·.1)).Nodup → ((addE l e m).map (·.1)).Nodup
  | [], _ => by simp [addE]
  | p :: r, h => by
    unfold addE
    rw [List.map_cons, List.nodup_cons] at h
    split
    · rw [List.map_cons, List.nodup_cons]; exact h
    · rename_i ne
      rw [List.map_cons, List.nodup_cons]
      refine ⟨fun z => ?_, add_nd e m r h.2⟩
      rcases add_keys e m r _ z with q | q
      · exact ne q
      · exact h.1 q
theorem count_getE (e : Ef) : ∀ l : Kv, (l.map (·.1)).Nodup → getE l e = (expd l).count e
  | [], _ => rfl
  | p :: r, h => by
    rw [List.map_cons, List.nodup_cons] at h
    have ih := count_getE e r h.2
    show (if p.1 = e then p.2 else getE r e) = (List.replicate p.2 p.1 ++ expd r).count e
    rw [List.count_append, List.count_replicate]
    by_cases q : p.1 = e
    · have nin : e ∉ expd r := fun z => by
        have : ∀ (l : Kv), e ∈ expd l → e ∈ l.map (·.1) := fun l => by
          induction l with
          | nil => intro z; exact absurd z (by simp [expd])
          | cons p r ih =>
            intro z
            rcases List.mem_append.mp z with y | y
            · rw [List.map_cons]; exact List.mem_cons.mpr (.inl (List.eq_of_mem_replicate y))
            · rw [List.map_cons]; exact List.mem_cons_of_mem _ (ih y)
        exact h.1 (q ▸ this r z)
      rw [if_pos q, List.count_eq_zero_of_not_mem nin]
      simp [q]
    · rw [if_neg q, ih]
      simp [q]
def addS (b : Ef) (m : Nat) (l : Kv) (ss : List Ef) : Kv := ss.foldl (fun l s => addE l (jo b s) m) l
theorem expd_addS (b : Ef) (m : Nat) : ∀ (ss : List Ef) (l : Kv), (expd (addS b m l ss)).Perm (ss.flatMap (fun s => List.replicate m (jo b s)) ++ expd l)
  | [], l => List.Perm.refl _
  | s :: ss, l => by
    show (expd (addS b m (addE l (jo b s) m) ss)).Perm _
    refine (expd_addS b m ss _).trans ?_
    rw [List.flatMap_cons]
    refine (List.Perm.append_left _ (expd_add _ m l)).trans ?_
    rw [← List.append_assoc]
    exact List.Perm.append_right _ List.perm_append_comm
theorem rep_flat (b : Ef) (ss : List Ef) : ∀ m : Nat, (ss.flatMap fun s => List.replicate m (jo b s)).Perm ((List.replicate m b).flatMap fun b => ss.map (jo b))
  | 0 => by simp
  | m + 1 => by
    rw [List.replicate_succ, List.flatMap_cons]
    refine List.Perm.trans ?_ (List.Perm.append_left _ (rep_flat b ss m))
    induction ss with
    | nil => exact List.Perm.refl _
    | cons s ss ih =>
      rw [List.flatMap_cons, List.flatMap_cons, List.map_cons, List.replicate_succ]
      show (jo b s :: (List.replicate m (jo b s) ++ _)).Perm (jo b s :: (ss.map (jo b) ++ _))
      refine List.Perm.cons _ ?_
      refine (List.Perm.append_left _ ih).trans ?_
      rw [← List.append_assoc, ← List.append_assoc]
      exact List.Perm.append_right _ List.perm_append_comm
def addA (ss : List Ef) (l : Kv) (ks : Kv) : Kv := ks.foldl (fun l p => addS p.1 p.2 l ss) l
theorem expd_addA (ss : List Ef) : ∀ (ks l : Kv), (expd (addA ss l ks)).Perm ((expd ks).flatMap (fun b => ss.map (jo b)) ++ expd l)
  | [], l => List.Perm.refl _
  | p :: ks, l => by
    show (expd (addA ss (addS p.1 p.2 l ss) ks)).Perm _
    refine (expd_addA ss ks _).trans ?_
    rw [show expd (p :: ks) = List.replicate p.2 p.1 ++ expd ks from rfl, List.flatMap_append]
    refine (List.Perm.append_left _ ((expd_addS p.1 p.2 ss l).trans (List.Perm.append_right _ (rep_flat p.1 ss p.2)))).trans ?_
    rw [← List.append_assoc]
    exact List.Perm.append_right _ List.perm_append_comm
def stE (nums : List Int) : List Ef := stepE pO :: nums.map fun n => stepE (pP n)
def effW (nums : List Int) : Nat → List Ef
  | 0 => [([], 0, [])]
  | t + 1 => (effW nums t).flatMap fun b => (stE nums).map (jo b)
theorem flat_const {α β : Type} (f : α → List β) (k : Nat) : ∀ l : List α, (∀ x ∈ l, (f x).length = k) → (l.flatMap f).length = l.length * k
  | [], _ => by simp
  | x :: l, h => by
    rw [List.flatMap_cons, List.length_append, h x List.mem_cons_self, flat_const f k l fun y hy => h y (List.mem_cons_of_mem _ hy), List.length_cons, Nat.succ_mul, Nat.add_comm]
theorem effW_len (nums : List Int) : ∀ t, (effW nums t).length = (nums.length + 1) ^ t
  | 0 => rfl
  | t + 1 => by
    show ((effW nums t).flatMap fun b => (stE nums).map (jo b)).length = _
    rw [flat_const _ (nums.length + 1) _ fun b _ => by simp [stE], effW_len nums t, Nat.pow_succ]
theorem small_step {s : Stp} (h : 1 ≤ s.cnt) : Small 1 (stepE s) := ⟨stepE_valid h, (stepE_len s h).1, (stepE_len s h).2⟩
theorem small_stE {nums : List Int} : ∀ s ∈ stE nums, Small 1 s := fun s hs => by
  rcases List.mem_cons.mp hs with rfl | hs
  · exact small_step (Int.le_refl _)
  · obtain ⟨n, _, rfl⟩ := List.mem_map.mp hs
    exact small_step (Int.le_refl _)
theorem forL_rel {g : D → Ga → Option Ga} {b : Ga → Res (Ga × Fl)} (R : Nat → Ga → Prop) : ∀ (xs : List D) (i : Nat) (Γ : Ga), R i Γ → (∀ j x, xs[j]? = some x → ∀ Γ, R (i + j) Γ → ∃ Γ1 Γ2, g x Γ = some Γ1 ∧ b Γ1 = .ok (Γ2, .nx) ∧ R (i + j + 1) Γ2) →
    ∃ Γ', forL g b xs Γ = .ok (Γ', .nx) ∧ R (i + xs.length) Γ'
  | [], i, Γ, h, _ => ⟨Γ, rfl, h⟩
  | x :: xs, i, Γ, h, k => by
    obtain ⟨Γ1, Γ2, e1, e2, h2⟩ := k 0 x rfl Γ h
    obtain ⟨Γ3, e3, h3⟩ := forL_rel R xs (i + 1) Γ2 h2 fun j y hy Γ hΓ => by
      have := k (j + 1) y (by simpa using hy) Γ (by rw [← Nat.add_assoc]; rw [Nat.add_right_comm] at hΓ; exact hΓ)
      rw [show i + 1 + j + 1 = i + (j + 1) + 1 by omega]
      exact this
    exact ⟨Γ3, by rw [forL_nx e1 e2]; exact e3, by rw [List.length_cons, show i + (xs.length + 1) = i + 1 + xs.length by omega]; exact h3⟩
def sl3 : Bool → List D → Sl
  | true, xs => .own false xs
  | false, xs => .d (.list xs)
section
variable (E Ln Ns Lv Tn : Sl)
end
structure Lvl (nums : List Int) (t : Nat) (l : Kv) : Prop where
  pm : (expd l).Perm (effW nums t)
  nd : (l.map (·.1)).Nodup
  pos : ∀ p ∈ l, 1 ≤ p.2
  sm : ∀ p ∈ l, Small t p.1
theorem add_all {P : Ef → Prop} (e : Ef) (m : Nat) (he : P e) (hm : 1 ≤ m) : ∀ l : Kv, (∀ p ∈ l, P p.1 ∧ 1 ≤ p.2) → ∀ p ∈ addE l e m, P p.1 ∧ 1 ≤ p.2
  | [], _, p, hp => by
    obtain rfl := List.mem_singleton.mp hp
    exact ⟨he, hm⟩
  | q :: r, h, p, hp => by
    unfold addE at hp
    split at hp
    · rcases List.mem_cons.mp hp with rfl | hp
      · have := h q List.mem_cons_self
        exact ⟨this.1, Nat.le_trans this.2 (Nat.le_add_right _ _)⟩
      · exact h p (List.mem_cons_of_mem _ hp)
    · rcases List.mem_cons.mp hp with rfl | hp
      · exact h _ List.mem_cons_self
      · exact add_all e m he hm r (fun x hx => h x (List.mem_cons_of_mem _ hx)) p hp
theorem addS_all {P : Ef → Prop} (b : Ef) (m : Nat) (hm : 1 ≤ m) : ∀ (ss : List Ef) (l : Kv), (∀ s ∈ ss, P (jo b s)) → (∀ p ∈ l, P p.1 ∧ 1 ≤ p.2) → ∀ p ∈ addS b m l ss, P p.1 ∧ 1 ≤ p.2
  | [], l, _, h => h
  | s :: ss, l, hs, h => addS_all b m hm ss _ (fun x hx => hs x (List.mem_cons_of_mem _ hx)) (add_all _ m (hs s List.mem_cons_self) hm l h)
theorem addS_nd (b : Ef) (m : Nat) : ∀ (ss : List Ef) (l : Kv), (l.map (·.1)).Nodup → ((addS b m l ss).map (·.1)).Nodup
  | [], l, h => h
  | s :: ss, l, h => addS_nd b m ss _ (add_nd _ m l h)
theorem addA_all {P : Ef → Prop} {ss : List Ef} : ∀ (ks l : Kv), (∀ p ∈ ks, 1 ≤ p.2 ∧ ∀ s ∈ ss, P (jo p.1 s)) → (∀ p ∈ l, P p.1 ∧ 1 ≤ p.2) → ∀ p ∈ addA ss l ks, P p.1 ∧ 1 ≤ p.2
  | [], l, _, h => h
  | q :: ks, l, hk, h => addA_all ks _ (fun x hx => hk x (List.mem_cons_of_mem _ hx)) (addS_all q.1 q.2 (hk q List.mem_cons_self).1 ss l (hk q List.mem_cons_self).2 h)
theorem addA_nd (ss : List Ef) : ∀ (ks l : Kv), (l.map (·.1)).Nodup → ((addA ss l ks).map (·.1)).Nodup
  | [], l, h => h
  | q :: ks, l, h => addA_nd ss ks _ (addS_nd q.1 q.2 ss l h)
theorem expd_len : ∀ l : Kv, (∀ p ∈ l, 1 ≤ p.2) → l.length ≤ (expd l).length
  | [], _ => Nat.le_refl _
  | p :: r, h => by
    have h1 := h p List.mem_cons_self
    have h2 := expd_len r fun x hx => h x (List.mem_cons_of_mem _ hx)
    show r.length + 1 ≤ (List.replicate p.2 p.1 ++ expd r).length
    rw [List.length_append, List.length_replicate]
    omega
theorem Lvl.zero (nums : List Int) : Lvl nums 0 [(([], 0, []), 1)] := ⟨List.Perm.refl _, by simp, fun p hp => by rw [List.mem_singleton.mp hp]; exact Nat.le_refl _, fun p hp => by rw [List.mem_singleton.mp hp]; exact small_id⟩
theorem Lvl.next {nums : List Int} {t : Nat} {l : Kv} (h : Lvl nums t l) : Lvl nums (t + 1) (addA (stE nums) [] l) := by
  have a := addA_all (P := Small (t + 1)) (ss := stE nums) l [] (fun p hp => ⟨h.pos p hp, fun s hs => (h.sm p hp).jo (small_stE s hs)⟩) (fun p hp => nomatch hp)
  refine ⟨?_, addA_nd _ l [] List.nodup_nil, fun p hp => (a p hp).2, fun p hp => (a p hp).1⟩
  refine (expd_addA (stE nums) l []).trans ?_
  rw [show expd ([] : Kv) = [] from rfl, List.append_nil]
  exact List.Perm.flatMap_right _ h.pm
theorem Lvl.len {nums : List Int} {t : Nat} {l : Kv} (h : Lvl nums t l) : l.length ≤ (nums.length + 1) ^ t := by
  have := expd_len l h.pos
  rw [h.pm.length_eq, effW_len] at this
  exact this
theorem Lvl.ne {nums : List Int} {t : Nat} {l : Kv} (h : Lvl nums t l) : l ≠ [] := fun z => by
  have := h.pm.length_eq
  rw [z, effW_len] at this
  have h2 : 0 < (nums.length + 1) ^ t := Nat.pow_pos (by omega)
  rw [← this] at h2
  exact absurd h2 (by decide)
theorem Lvl.count {nums : List Int} {t : Nat} {l : Kv} (h : Lvl nums t l) (e : Ef) : getE l e = (effW nums t).count e := by
  rw [count_getE e l h.nd, h.pm.count_eq]
end Qa
namespace Qa
open PySem PySem.Spec PyProof.Rows L2 Evl Mi Pg Pu
end Qa
namespace Qa
open PySem PySem.Spec PyProof.Rows L2 Evl Mi Pg Pu
end Qa
namespace Qa
open PySem PySem.Spec PyProof.Rows L2 Evl Mi Pg Pu
end Qa
namespace Qa
open PySem PySem.Spec PyProof.Rows L2 Evl Mi Pg Pu
section
variable (A B : Sl)
end
def LsOk (s : Sl) (xs : List D) : Prop := s = .own false xs ∨ s = .d (.list xs)
end Qa
namespace Qa
open PySem PySem.Spec PyProof.Rows L2 Evl Mi Pg Pu
instance stpDec : DecidableEq Stp
  | .push n c, .push m d => if h : n = m ∧ c = d then .isTrue (by rw [h.1, h.2]) else .isFalse fun e => h (by injection e with e1 e2; exact ⟨e1, e2⟩)
  | .pop c, .pop d => if h : c = d then .isTrue (by rw [h]) else .isFalse fun e => h (by injection e)
  | .push _ _, .pop _ => .isFalse nofun
  | .pop _, .push _ _ => .isFalse nofun
def MonoI (f : Int → Int) : Prop := ∀ a b, a < b ↔ f a < f b
theorem MonoI.le {f : Int → Int} (h : MonoI f) (a b : Int) : a ≤ b ↔ f a ≤ f b := by
  have := h b a
  omega
theorem MonoI.inj {f : Int → Int} (h : MonoI f) {a b : Int} (e : f a = f b) : a = b := by
  have h1 := h a b
  have h2 := h b a
  omega
section
variable {f : Int → Int} (hf : MonoI f)
include hf
end
end Qa
namespace Qa
open PySem PySem.Spec PyProof.Rows L2 Evl Mi Pg Pu
theorem Rw.mem {w w' : List Stp} (h : Rw w w') : ∀ s ∈ w', s ∈ w := by
  cases h with
  | r1 u v a b _ => exact fun s hs => by simp only [List.mem_append, List.mem_cons] at hs ⊢; grind
  | r2 u v a b _ => exact fun s hs => by simp only [List.mem_append, List.mem_cons] at hs ⊢; grind
  | r3 u v a b _ => exact fun s hs => by simp only [List.mem_append, List.mem_cons] at hs ⊢; grind
  | r4 u v a b m _ => exact fun s hs => by simp only [List.mem_append, List.mem_cons] at hs ⊢; grind
theorem reach_mem : ∀ (k : Nat) (w : List Stp), w.length ≤ k → Pl w → ∃ z, Pl z ∧ Irr z ∧ effL z = effL w ∧ z.length ≤ w.length ∧ (∀ s ∈ z, s ∈ w) ∧ (¬ Irr w → z.length < w.length) := by
  intro k
  induction k with
  | zero =>
    intro w hl p
    have hw := List.eq_nil_of_length_eq_zero (Nat.le_zero.mp hl)
    subst hw
    have hi : Irr [] := fun w' r => by have := r.len; simp at this
    exact ⟨[], p, hi, rfl, Nat.le_refl _, (fun s hs => hs), fun h => absurd hi h⟩
  | succ k ih =>
    intro w hl p
    by_cases h : Irr w
    · exact ⟨w, p, h, rfl, Nat.le_refl _, (fun s hs => hs), fun z => absurd h z⟩
    · have : ∃ w', Rw w w' := Classical.byContradiction fun z => h fun w' r => z ⟨w', r⟩
      obtain ⟨w', r⟩ := this
      have := r.len
      obtain ⟨z, z1, z2, z3, z4, z5, _⟩ := ih w' (by omega) (r.pl p)
      exact ⟨z, z1, z2, z3.trans (r.eff p), by omega, fun s hs => r.mem s (z5 s hs), fun _ => by omega⟩
noncomputable def irb (w : List Stp) : Bool := @decide (Irr w) (Classical.propDecidable _)
theorem irb_iff {w : List Stp} : irb w = true ↔ Irr w := by
  unfold irb
  exact @decide_eq_true_iff _ (Classical.propDecidable _)
def extW (A : List Stp) (w : List Stp) : List (List Stp) := A.map fun s => w ++ [s]
noncomputable def levW (A : List Stp) : Nat → List (List Stp)
  | 0 => [[]]
  | t + 1 => ((levW A t).filter irb).flatMap (extW A)
noncomputable def irW (A : List Stp) (t : Nat) : List (List Stp) := (levW A t).filter irb
section
variable {A : List Stp} (hA : ∀ s ∈ A, s.cnt = 1)
theorem lev_spec : ∀ (t : Nat) (w : List Stp), w ∈ levW A t → w.length = t ∧ ∀ s ∈ w, s ∈ A
  | 0, w, h => by rw [List.mem_singleton.mp h]; exact ⟨rfl, fun s hs => nomatch hs⟩
  | t + 1, w, h => by
    obtain ⟨u, hu, hw⟩ := List.mem_flatMap.mp h
    obtain ⟨s, hs, rfl⟩ := List.mem_map.mp hw
    obtain ⟨h1, h2⟩ := lev_spec t u (List.mem_filter.mp hu).1
    refine ⟨by rw [List.length_append, h1]; rfl, fun x hx => ?_⟩
    rcases List.mem_append.mp hx with hx | hx
    · exact h2 x hx
    · rw [List.mem_singleton.mp hx]; exact hs
theorem lev_len : ∀ t, (levW A t).length ≤ A.length ^ t
  | 0 => Nat.le_refl _
  | t + 1 => by
    show (((levW A t).filter irb).flatMap (extW A)).length ≤ _
    rw [flat_const _ A.length _ fun x _ => by simp [extW], Nat.pow_succ]
    exact Nat.mul_le_mul_right _ (Nat.le_trans (List.length_filter_le _ _) (lev_len t))
theorem ir_mem : ∀ (t : Nat) (w : List Stp), w.length = t → (∀ s ∈ w, s ∈ A) → Irr w → w ∈ irW A t
  | 0, w, hl, _, hi => by
    have hw := List.eq_nil_of_length_eq_zero hl
    subst hw
    exact List.mem_filter.mpr ⟨List.mem_singleton.mpr rfl, irb_iff.mpr hi⟩
  | t + 1, w, hl, hm, hi => by
    have hne : w ≠ [] := fun z => by rw [z] at hl; cases hl
    have e := List.dropLast_concat_getLast hne
    have hi' : Irr (w.dropLast ++ [w.getLast hne]) := by rw [e]; exact hi
    refine List.mem_filter.mpr ⟨?_, irb_iff.mpr hi⟩
    refine List.mem_flatMap.mpr ⟨w.dropLast, ir_mem t _ (by rw [List.length_dropLast, hl]; rfl) (fun s hs => hm s (List.dropLast_subset _ hs)) hi'.left, List.mem_map.mpr ⟨w.getLast hne, hm _ (List.getLast_mem hne), e⟩⟩
theorem nodup_flat {α β : Type} (f : α → List β) : ∀ l : List α, l.Nodup → (∀ x ∈ l, (f x).Nodup) → (∀ x ∈ l, ∀ y ∈ l, x ≠ y → ∀ b, b ∈ f x → b ∉ f y) → (l.flatMap f).Nodup
  | [], _, _, _ => List.nodup_nil
  | x :: l, h, h1, h2 => by
    rw [List.nodup_cons] at h
    rw [List.flatMap_cons, List.nodup_append]
    refine ⟨h1 x List.mem_cons_self, nodup_flat f l h.2 (fun y hy => h1 y (List.mem_cons_of_mem _ hy)) (fun y hy z hz => h2 y (List.mem_cons_of_mem _ hy) z (List.mem_cons_of_mem _ hz)), fun a ha b hb e => ?_⟩
    subst e
    obtain ⟨y, hy, hb⟩ := List.mem_flatMap.mp hb
    exact h2 x List.mem_cons_self y (List.mem_cons_of_mem _ hy) (fun z => h.1 (z ▸ hy)) a ha hb
theorem lev_nodup (hn : A.Nodup) : ∀ t, (levW A t).Nodup
  | 0 => by show ([[]] : List (List Stp)).Nodup; simp
  | t + 1 => by
    refine nodup_flat _ _ ((lev_nodup hn t).filter _) (fun w _ => ?_) fun w _ v _ hne b hb hb' => ?_
    · unfold extW
      refine List.Pairwise.map _ (fun a b hab e => ?_) hn
      have := (List.append_inj' e rfl).2
      exact hab (List.cons.inj this).1
    · obtain ⟨s, _, rfl⟩ := List.mem_map.mp hb
      obtain ⟨r, _, e⟩ := List.mem_map.mp hb'
      exact hne (List.append_inj' e rfl).1.symm
theorem pops_irr (t : Nat) : Irr (List.replicate t pO) := fun w' r => by
  have no : ∀ n, pP n ∉ List.replicate t pO := fun n h => by
    have := List.eq_of_mem_replicate h
    cases this
  generalize hw : List.replicate t pO = w at r no
  cases r with
  | r1 u v a b _ => exact no a (by simp)
  | r2 u v a b _ => exact no a (by simp)
  | r3 u v a b _ => exact no a (by simp)
  | r4 u v a b m _ => exact no a (by simp)
include hA
theorem let_pl {w : List Stp} (h : ∀ s ∈ w, s ∈ A) : Pl w := fun s hs => hA s (h s hs)
theorem lev_pl {t : Nat} {w : List Stp} (h : w ∈ levW A t) : Pl w := let_pl hA (lev_spec t w h).2
theorem old_iff {t : Nat} {w : List Stp} (h : w ∈ levW A t) : (∃ s, s < t ∧ ∃ v ∈ irW A s, effL v = effL w) ↔ ¬ Irr w := by
  obtain ⟨hl, hm⟩ := lev_spec t w h
  have p := let_pl hA hm
  constructor
  · rintro ⟨s, hs, v, hv, e⟩ hi
    obtain ⟨hv1, hv2⟩ := List.mem_filter.mp hv
    obtain ⟨vl, vm⟩ := lev_spec s v hv1
    have := irr_uniq (let_pl hA vm) p (irb_iff.mp hv2) hi e
    rw [this, hl] at vl
    omega
  · intro hi
    obtain ⟨z, z1, z2, z3, z4, z5, z6⟩ := reach_mem w.length w (Nat.le_refl _) p
    have := z6 hi
    exact ⟨z.length, by omega, z, ir_mem z.length z rfl (fun s hs => hm s (z5 s hs)) z2, z3⟩
end
def sameK : Stp → Stp → Bool
  | .push n _, .push m _ => decide (n = m)
  | .pop _, .pop _ => true
  | _, _ => false
def incS : Stp → Stp
  | .push n c => .push n (c + 1)
  | .pop c => .pop (c + 1)
def jnA (s : Stp) : List Stp → List Stp
  | [] => [s]
  | t :: r => if sameK t s = true then incS t :: r else s :: t :: r
def jnW (w : List Stp) : List Stp := (w.foldl (fun acc s => jnA s acc) []).reverse
def Apart : List Stp → Prop
  | [] => True
  | [_] => True
  | a :: b :: r => sameK a b = false ∧ Apart (b :: r)
theorem jn_rep (s : Stp) (hs : s.cnt = 1) (t : Stp) (ht : sameK t s = true) (r : List Stp) : ∀ k : Nat, ∃ u, sameK u s = true ∧ u.cnt = t.cnt + k ∧ sameK u t = true ∧ (List.replicate k s).foldl (fun acc s => jnA s acc) (t :: r) = u :: r
  | 0 => ⟨t, ht, by simp, by cases t <;> simp [sameK], rfl⟩
  | k + 1 => by
    have h1 : sameK (incS t) s = true := by cases t <;> cases s <;> simp_all [sameK, incS]
    obtain ⟨u, u1, u2, u3, u4⟩ := jn_rep s hs (incS t) h1 r k
    refine ⟨u, u1, ?_, ?_, ?_⟩
    · rw [u2]
      cases t <;> simp [incS, Stp.cnt] <;> omega
    · cases t <;> cases u <;> simp_all [sameK, incS]
    · rw [List.replicate_succ, List.foldl_cons]
      show (List.replicate k s).foldl (fun acc s => jnA s acc) (if sameK t s = true then incS t :: r else s :: t :: r) = _
      rw [if_pos ht]
      exact u4
theorem same_cnt {s t : Stp} (h : sameK s t = true) (hc : s.cnt = t.cnt) : s = t := by
  cases s <;> cases t <;> simp_all [sameK, Stp.cnt]
theorem exS_one (s : Stp) (h : 1 ≤ s.cnt) : ∃ s1 : Stp, s1.cnt = 1 ∧ sameK s1 s = true ∧ exS s = s1 :: List.replicate (s.cnt.toNat - 1) s1 := by
  cases s with
  | push n c =>
    have h : 1 ≤ c := h
    refine ⟨pP n, rfl, by simp [sameK], ?_⟩
    show List.replicate c.toNat (pP n) = _
    rw [← List.replicate_succ]
    show _ = List.replicate (c.toNat - 1 + 1) (pP n)
    rw [show c.toNat - 1 + 1 = c.toNat by omega]
  | pop c =>
    have h : 1 ≤ c := h
    refine ⟨pO, rfl, rfl, ?_⟩
    show List.replicate c.toNat pO = _
    rw [← List.replicate_succ]
    show _ = List.replicate (c.toNat - 1 + 1) pO
    rw [show c.toNat - 1 + 1 = c.toNat by omega]
theorem jn_step (s : Stp) (h : 1 ≤ s.cnt) (acc : List Stp) (ha : ∀ t, acc.head? = some t → sameK t s = false) : (exS s).foldl (fun acc s => jnA s acc) acc = s :: acc := by
  obtain ⟨s1, c1, k1, e⟩ := exS_one s h
  rw [e, List.foldl_cons]
  have h0 : jnA s1 acc = s1 :: acc := by
    cases acc with
    | nil => rfl
    | cons t r =>
      have := ha t rfl
      show (if sameK t s1 = true then _ else _) = _
      rw [if_neg]
      intro z
      cases t <;> cases s <;> cases s1 <;> simp_all [sameK]
  rw [h0]
  obtain ⟨u, u1, u2, u3, u4⟩ := jn_rep s1 c1 s1 (by cases s1 <;> simp [sameK]) acc (s.cnt.toNat - 1)
  rw [u4]
  have : u = s := same_cnt (by cases u <;> cases s <;> cases s1 <;> simp_all [sameK]) (by omega)
  rw [this]
theorem jn_all : ∀ (L : List Stp) (acc : List Stp), (∀ s ∈ L, 1 ≤ s.cnt) → Apart L → (∀ t s, acc.head? = some t → L.head? = some s → sameK t s = false) → (expS L).foldl (fun acc s => jnA s acc) acc = L.reverse ++ acc
  | [], acc, _, _, _ => rfl
  | s :: L, acc, hc, hp, ha => by
    show (exS s ++ expS L).foldl _ acc = _
    rw [List.foldl_append, jn_step s (hc s List.mem_cons_self) acc fun t ht => ha t s ht rfl]
    rw [jn_all L (s :: acc) (fun x hx => hc x (List.mem_cons_of_mem _ hx)) (by cases L with | nil => trivial | cons b r => exact hp.2) (fun t x ht hx => by
      cases ht
      cases L with
      | nil => cases hx
      | cons b r => cases hx; exact hp.1)]
    simp
theorem jnW_exp {L : List Stp} (hc : ∀ s ∈ L, 1 ≤ s.cnt) (hp : Apart L) : jnW (expS L) = L := by
  unfold jnW
  rw [jn_all L [] hc hp fun t s h => nomatch h]
  simp
end Qa
namespace Qa
open PySem PySem.Spec PyProof.Rows L2 Evl Mi Pg Pu
theorem sameK_comm (a b : Stp) : sameK a b = sameK b a := by
  cases a <;> cases b <;> simp [sameK, eq_comm]
theorem apart_app : ∀ {L M : List Stp}, Apart L → Apart M → (∀ a b, L.getLast? = some a → M.head? = some b → sameK a b = false) → Apart (L ++ M)
  | [], M, _, h, _ => h
  | [a], M, _, h, k => by
    cases M with
    | nil => exact trivial
    | cons b r => exact ⟨k a b rfl rfl, h⟩
  | a :: b :: r, M, h, hM, k => ⟨h.1, apart_app (L := b :: r) h.2 hM fun x y hx hy => k x y (by rw [List.getLast?_cons_cons]; exact hx) hy⟩
theorem apart_rev : ∀ {L : List Stp}, Apart L → Apart L.reverse
  | [], _ => trivial
  | [a], _ => trivial
  | a :: b :: r, h => by
    rw [List.reverse_cons]
    refine apart_app (apart_rev h.2) trivial fun x y hx hy => ?_
    cases hy
    rw [List.getLast?_reverse] at hx
    cases hx
    rw [sameK_comm]
    exact h.1
theorem runs_apart : ∀ T : List Int, Apart ((runsT T).map fun q => Stp.push q.1 q.2)
  | [] => trivial
  | n :: T => by
    have ih := runs_apart T
    show Apart ((addR n (runsT T)).map fun q => Stp.push q.1 q.2)
    cases h : runsT T with
    | nil => exact trivial
    | cons q r =>
      rw [h] at ih
      obtain ⟨m, c⟩ := q
      simp only [addR]
      split
      · cases r with
        | nil => exact trivial
        | cons b r => exact ⟨ih.1, ih.2⟩
      · rename_i ne
        refine ⟨?_, ih⟩
        simp only [sameK, decide_eq_false_iff_not]
        exact fun z => ne z.symm
theorem mid_apart (N : List Int) : ∀ Z : List (PP × Int), Apart (Z.flatMap (emitW N)) ∧ (∀ a, (Z.flatMap (emitW N)).head? = some a → ∃ n c, a = .push n c) ∧ (∀ a, (Z.flatMap (emitW N)).getLast? = some a → ∃ c, a = .pop c)
  | [] => ⟨trivial, (fun a h => nomatch h), (fun a h => nomatch h)⟩
  | z :: Z => by
    obtain ⟨h1, h2, h3⟩ := mid_apart N Z
    rw [List.flatMap_cons]
    unfold emitW
    split
    · exact ⟨h1, h2, h3⟩
    · refine ⟨apart_app (L := [_, _]) ⟨rfl, trivial⟩ h1 fun a b ha hb => ?_, fun a h => ?_, fun a h => ?_⟩
      · cases ha
        obtain ⟨n, c, rfl⟩ := h2 b hb
        rfl
      · cases h; exact ⟨_, _, rfl⟩
      · rw [List.getLast?_append] at h
        cases q : (Z.flatMap (emitW N)).getLast? with
        | none =>
          have q' : (List.flatMap (fun z => if N.getLast? = some z.1.1 ∧ z.1.2 = 0 then [] else [Stp.push z.1.1 1, Stp.pop (1 + z.1.2 - z.2)]) Z).getLast? = none := q
          rw [q'] at h
          cases h
          exact ⟨_, rfl⟩
        | some b =>
          have q' : (List.flatMap (fun z => if N.getLast? = some z.1.1 ∧ z.1.2 = 0 then [] else [Stp.push z.1.1 1, Stp.pop (1 + z.1.2 - z.2)]) Z).getLast? = some b := q
          rw [q'] at h
          cases h
          exact h3 _ q
theorem sh_apart (e : Ef) : Apart (shL e) := by
  obtain ⟨P, d, N⟩ := e
  obtain ⟨h1, h2, h3⟩ := mid_apart N (P.zip (aftW P))
  have hr : Apart ((runsT N).reverse.map fun q => Stp.push q.1 q.2) := by
    rw [List.map_reverse]
    exact apart_rev (runs_apart N)
  have rh : ∀ b, ((runsT N).reverse.map fun q => Stp.push q.1 q.2).head? = some b → ∃ n c, b = .push n c := fun b h => by
    rw [List.head?_map] at h
    obtain ⟨q, _, rfl⟩ := Option.map_eq_some_iff.mp h
    exact ⟨_, _, rfl⟩
  have hd : ∀ a, (headS P d).getLast? = some a → ∃ c, a = .pop c := fun a h => by
    unfold headS at h
    split at h
    · cases h; exact ⟨_, rfl⟩
    · cases h
  have hh : Apart (headS P d) := by
    unfold headS
    split
    · exact trivial
    · exact trivial
  have a1 : Apart (headS P d ++ (P.zip (aftW P)).flatMap (emitW N)) := apart_app hh h1 fun a b ha hb => by
    obtain ⟨c, rfl⟩ := hd a ha
    obtain ⟨n, c', rfl⟩ := h2 b hb
    rfl
  refine apart_app a1 hr fun a b ha hb => ?_
  obtain ⟨n, c, rfl⟩ := rh b hb
  rw [List.getLast?_append] at ha
  have : ∃ c, a = .pop c := by
    cases q : ((P.zip (aftW P)).flatMap (emitW N)).getLast? with
    | none =>
      rw [q] at ha
      exact hd a (by simpa using ha)
    | some x =>
      rw [q] at ha
      have ha : x = a := by simpa using ha
      subst ha
      exact h3 _ q
  obtain ⟨c', rfl⟩ := this
  rfl
theorem jn_irr {w : List Stp} (p : Pl w) (h : Irr w) : jnW w = shL (effL w) := by
  have v := effL_valid p.one
  have e : w = expS (shL (effL w)) := by rw [exp_sh v]; exact irr_nf _ w rfl p h
  conv => lhs; rw [e]
  exact jnW_exp (sh_cnt v) (sh_apart _)
theorem cut_step (s : Stp) : ∃ xs, s.d = .tuple xs ∧ xs.length ≤ 3 ∧ Mi.cutD xs none (some (-1)) = xs.dropLast ∧ atI xs (-1) = some (.int s.cnt) ∧ (incS s).d = .tuple (xs.dropLast ++ [.int (s.cnt + 1)]) ∧ fl 60 (.tuple xs.dropLast) = true ∧ ∀ t : Stp, ∀ ys, t.d = .tuple ys → (xs.dropLast = ys.dropLast ↔ sameK s t = true) := by
  cases s with
  | push n c =>
    refine ⟨_, rfl, by simp, cut_init _ (by simp), at_last rfl, rfl, by simp, fun t ys e => ?_⟩
    cases t with
    | push m d =>
      cases e
      simp [sameK]
    | pop d =>
      cases e
      simp [sameK]
  | pop c =>
    refine ⟨_, rfl, by simp, cut_init _ (by simp), at_last rfl, rfl, by simp, fun t ys e => ?_⟩
    cases t with
    | push m d =>
      cases e
      simp [sameK]
    | pop d =>
      cases e
      simp [sameK]
theorem joined_turn (x : D) (acc : List Stp) (s : Stp) (hl : acc.length ≤ 1000) : l1b__law_joined_k11 [.d x, .own false (acc.reverse.map Stp.d), .d s.d] = .ok ([.d x, .own false ((jnA s acc).reverse.map Stp.d), .d s.d], .nx) := by
  cases acc with
  | nil =>
    have : neS (.list []) (.list []) = .ok (.d (.bool false)) := neS_same (by simp)
    simp [l1b__law_joined_k11, this, jnA]
  | cons t r =>
    have e0 : neS (.list ((t :: r).reverse.map Stp.d)) (.list []) = .ok (.d (.bool true)) := by
      refine (neS_fl (p := False) ?_ (by simp) (by simp)).trans (by simp)
      rw [fl_lst]
      exact flAll_map fun p _ => fl_stp
    have e1 : atI ((t :: r).reverse.map Stp.d) (-1) = some t.d := at_last (by simp)
    have hl' : ((t :: r).reverse.map Stp.d).length < 16777216 := by simp at hl ⊢; omega
    have e5 : ixN ((t :: r).reverse.map Stp.d).length (-1) = some r.length := by
      unfold ixN
      rw [if_neg (by omega), if_pos (by simp; omega)]
      simp
      omega
    obtain ⟨xs, tx, l3, c1, a1, i1, f1, k1⟩ := cut_step t
    obtain ⟨ys, sy, m3, c2, a2, i2, f2, _⟩ := cut_step s
    have kk := k1 s ys sy
    have q : eqS (.tuple xs.dropLast) (.tuple ys.dropLast) = .ok (.d (.bool (sameK t s))) := by
      have h := eqS_fl (p := sameK t s = true) f1 f2 ⟨fun z => kk.mp (by injection z), fun z => by rw [kk.mpr z]⟩
      rw [h]
      simp
    have e6 : ∀ v : D, ((t :: r).reverse.map Stp.d).set r.length v = r.reverse.map Stp.d ++ [v] := fun v => by
      rw [List.reverse_cons, List.map_append, List.set_append_right _ _ (by simp)]
      simp
    have lz : ys.dropLast.length + 1 ≤ 16777216 := by rw [List.length_dropLast]; omega
    rw [tx] at e1
    rw [sy]
    cases hk : sameK t s with
    | true =>
      have hxy := kk.mpr hk
      have ej : (jnA s (t :: r)).reverse.map Stp.d = r.reverse.map Stp.d ++ [.tuple (ys.dropLast ++ [.int (t.cnt + 1)])] := by
        have e : jnA s (t :: r) = incS t :: r := by
          show (if sameK t s = true then incS t :: r else s :: t :: r) = _
          rw [if_pos hk]
        rw [e, List.reverse_cons, List.map_append, ← hxy, ← i1]
        rfl
      rw [ej]
      rw [hk] at q
      have e6' := e6 (.tuple (ys.dropLast ++ [.int (t.cnt + 1)]))
      rw [← e6']
      generalize (t :: r).reverse.map Stp.d = A at *
      generalize ys.dropLast = Y at *
      generalize xs.dropLast = X at *
      simp [l1b__law_joined_k11, e0, e1, c1, c2, q, a1, e5, lz]
    | false =>
      have ej : (jnA s (t :: r)).reverse.map Stp.d = (t :: r).reverse.map Stp.d ++ [.tuple ys] := by
        have e : jnA s (t :: r) = s :: t :: r := by
          show (if sameK t s = true then incS t :: r else s :: t :: r) = _
          rw [if_neg (by rw [hk]; exact Bool.false_ne_true)]
        rw [e, List.reverse_cons, List.map_append, ← sy]
        rfl
      rw [ej]
      rw [hk] at q
      generalize (t :: r).reverse.map Stp.d = A at *
      generalize ys.dropLast = Y at *
      generalize xs.dropLast = X at *
      simp [l1b__law_joined_k11, e0, e1, c1, c2, q, hl']
theorem jnA_len (s : Stp) (acc : List Stp) : (jnA s acc).length ≤ acc.length + 1 := by
  cases acc with
  | nil => exact Nat.le_refl _
  | cons t r =>
    show (if sameK t s = true then incS t :: r else s :: t :: r).length ≤ _
    split
    · rw [List.length_cons, List.length_cons]; omega
    · exact Nat.le_refl _
theorem joined11_ok {w : List Stp} (hl : w.length ≤ 900) : m__law_joined_k11 [.d (wD w)] = .ok ([.d (wD w)], .f ((jnW w).map Stp.d)) := by
  obtain ⟨t, e, hp⟩ := sFor_fold (g := gN 2) (b := l1b__law_joined_k11) (it := sIt iterA (sName 0)) (Γ := [.d (wD w), .own false [], .un])
    (fun (acc : List Stp) (t : Sl) => [.d (wD w), .own false (acc.reverse.map Stp.d), t]) Stp.d (fun acc s => jnA s acc) (fun i acc => acc.length ≤ i) (xs := w) (s := []) .un (by simp) (Nat.le_refl _) (fun i acc t s hs hi hp => ⟨⟨[.d (wD w), .own false (acc.reverse.map Stp.d), .d s.d], .d s.d, rfl, joined_turn _ acc s (Nat.le_trans hp (by omega))⟩,
      Nat.le_trans (jnA_len s acc) (Nat.succ_le_succ hp)⟩)
  have e : l1__law_joined_k11 [.d (wD w), .own false [], .un] = .ok ([.d (wD w), .own false ((jnW w).map Stp.d), t], .nx) := e
  generalize (jnW w).map Stp.d = J at *
  generalize wD w = W at *
  simp [m__law_joined_k11, b__law_joined_k11, e]
end Qa
namespace Lk11
open PySem PySem.Spec PyProof.Rows L2 Evl Mi Pg
variable [Tbl]
def topS (i : Nat) : Stmt := PySem.Challenge.pw_skylineeffect_k11_whole_shortest.main.body.getD i (.Pass ⟨0, 0, 0, 0⟩)
abbrev st_InvalidEffect : Stmt := clsInit (topS 2)
theorem sc_InvalidEffect : FnScope ["self", "value"] ["self", "value"] (defScope st_InvalidEffect) := ⟨rfl, rfl, rfl, by decide +kernel, rfl, by decide +kernel, by decide +kernel⟩
abbrev st_is_integer : Stmt := topS 4
theorem sc_is_integer : FnScope ["value"] ["value"] (defScope st_is_integer) := ⟨rfl, rfl, rfl, by decide +kernel, rfl, by decide +kernel, by decide +kernel⟩
theorem has_is_integer {P : Program} {w : World} {K : PySem.W.Frag} {mg : Str → Option Value} {base : Heap} {f : Addr} {fd : FuncData} (D : Def K mg "is_integer" st_is_integer ["value"] f fd) (z_bool : mg "bool" = none) (z_int : mg "int" = none) (z_isinstance : mg "isinstance" = none) : Has P w K mg base "is_integer" 1 ["value"] m_is_integer :=
 has_of D sc_is_integer fun cdv A outer s H E hr hq => by
  have hu := hr.units
  have hN := sc_is_integer.nd
  exact (jss_one (js_ret (je_and (je_isi (T := "int") (by decide) rfl z_isinstance rfl rfl z_int rfl (JD.toB (jd_name 0 (pv 0) rfl))) (je_one (je_not (je_isi (T := "bool") (by decide) rfl z_isinstance rfl rfl z_bool rfl (JD.toB (jd_name 0 (pv 0) rfl))))))))
abbrev st_length_of : Stmt := topS 11
theorem sc_length_of : FnScope ["sequence", "step"] ["sequence"] (defScope st_length_of) := ⟨rfl, rfl, rfl, by decide +kernel, rfl, by decide +kernel, by decide +kernel⟩
theorem has_length_of {P : Program} {w : World} {K : PySem.W.Frag} {mg : Str → Option Value} {base : Heap} {f : Addr} {fd : FuncData} (D : Def K mg "length_of" st_length_of ["sequence"] f fd) (z_sum : mg "sum" = none) : Has P w K mg base "length_of" 1 ["sequence"] m_length_of :=
 has_of D sc_length_of fun cdv A outer s H E hr hq => by
  have hu := hr.units
  have hN := sc_length_of.nd
  exact (jss_one (js_ret (je_call1 (cd_sum rfl) rfl z_sum rfl (JD.toB (JE.toD (je_lc rfl hN (ji_any (jd_name 0 (pv 0) rfl)) (own := [(("step" : Str), 1)]) (blkOk_by (by kernel_rfl)) (fun _ _ _ _ _ => (jgw_name (i := 1) (by decide) hN rfl (.inl rfl))) (fun _ _ _ _ _ => jts_nil) (fun _ _ _ _ _ => (JE.toD (je_ix (jd_name 1 (pv 1) rfl) (JE.toD (je_neg jd_int)))))))))))
abbrev st_shortest_of : Stmt := topS 18
theorem sc_shortest_of : FnScope ["effect", "pairs", "drops", "new", "found", "first", "afters", "threshold", "after", "later", "number", "count"] ["effect"] (defScope st_shortest_of) := ⟨rfl, rfl, rfl, by decide +kernel, rfl, by decide +kernel, by decide +kernel⟩
theorem has_shortest_of {P : Program} {w : World} {K : PySem.W.Frag} {mg : Str → Option Value} {base : Heap} {f : Addr} {fd : FuncData} (D : Def K mg "shortest_of" st_shortest_of ["effect"] f fd) (z_zip : mg "zip" = none) {t_POP : Tok} (g_POP : mg "POP" = some (.str ("pop" : Str) t_POP)) {t_PUSH : Tok} (g_PUSH : mg "PUSH" = some (.str ("push" : Str) t_PUSH)) : Has P w K mg base "shortest_of" 1 ["effect"] m_shortest_of :=
 has_of D sc_shortest_of fun cdv A outer s H E hr hq => by
  have hu := hr.units
  have hN := sc_shortest_of.nd
  exact (jss_cons (js_asg (jd_name 0 (pv 0) rfl) (jg_tup rfl (jgs_cons (jg_name (i := 1) hN rfl (.inl rfl)) (jgs_cons (jg_name (i := 2) hN rfl (.inl rfl)) (jgs_cons (jg_name (i := 3) hN rfl (.inl rfl)) jgs_nil)))))
 (jss_cons (js_set (i := 4) hN rfl (.inl rfl) (je_lst ja_nil))
 (jss_cons (js_set (i := 5) hN rfl (.inl rfl) (je_if (jt_cmp (opd_neS hu) (jd_name 1 (pv 1) rfl) (JD.toB (JE.toD (je_tup ja_nil))) (nomark _)) (je_ix (JE.toD (je_ix (jd_name 1 (pv 1) rfl) jd_int)) jd_int) (JD.toE jd_int)))
 (jss_cons (js_if (jt_cmp opd_gt (jd_name 2 (pv 2) rfl) (JD.toB (jd_name 5 (pv 5) rfl)) (nomark _))
 (jss_one (js_expr (je_append (i := 4) (pv 4) (JE.toD (je_tup (ja_cons (jd_gstr rfl g_POP) (ja_cons (JE.toD (je_bin opd_sub (jd_name 2 (pv 2) rfl) (JD.toB (jd_name 5 (pv 5) rfl)))) ja_nil)))))))
 jss_nil)
 (jss_cons (js_set (i := 6) hN rfl (.inl rfl) (je_bin opd_add (JE.toD (je_lc rfl hN (ji_any (JE.toD (je_sl (jd_name 1 (pv 1) rfl) (jo_some jd_int) jo_none))) (own := [(("threshold" : Str), 7), (("after" : Str), 8)]) (blkOk_by (by kernel_rfl)) (fun _ _ _ _ _ => (jgw_tup rfl (jgsw_cons (jgw_name (i := 7) (by decide) hN rfl (.inl rfl)) (jgsw_cons (jgw_name (i := 8) (by decide) hN rfl (.inl rfl)) jgsw_nil)))) (fun _ _ _ _ _ => jts_nil) (fun _ _ _ _ _ => (jd_name 8 (pv 8) rfl)))) (JD.toB (JE.toD (je_lst (ja_cons jd_int ja_nil))))))
 (jss_cons (js_for (passes_of rfl) rfl (ji_zipM rfl z_zip (ja_cons (jd_name 1 (pv 1) rfl) (ja_cons (jd_name 6 (pv 6) rfl) ja_nil)) fun _ _ h => wpAny_pure h) (jg_tup rfl (jgs_cons (jg_tup rfl (jgs_cons (jg_name (i := 7) hN rfl (.inl rfl)) (jgs_cons (jg_name (i := 8) hN rfl (.inl rfl)) jgs_nil))) (jgs_cons (jg_name (i := 9) hN rfl (.inl rfl)) jgs_nil)))
 (jss_one (js_if (JW.t (jw_or (jt_cmp (opd_eqS hu) (jd_name 3 (pv 3) rfl) (JD.toB (JE.toD (je_tup ja_nil))) (nomark _)) (jw_or1 (jt_cmp (opd_neS hu) (JE.toD (je_tup (ja_cons (jd_name 7 (pv 7) rfl) (ja_cons (jd_name 8 (pv 8) rfl) ja_nil)))) (JD.toB (JE.toD (je_tup (ja_cons (JE.toD (je_ix (JE.toD (je_ix (jd_name 3 (pv 3) rfl) jd_int)) jd_int)) (ja_cons jd_int ja_nil))))) (nomark _)))))
 (jss_one (js_ext (i := 4) hN rfl (.inl rfl) (JE.toD (je_lst (ja_cons (JE.toD (je_tup (ja_cons (jd_gstr rfl g_PUSH) (ja_cons (jd_name 7 (pv 7) rfl) (ja_cons jd_int ja_nil))))) (ja_cons (JE.toD (je_tup (ja_cons (jd_gstr rfl g_POP) (ja_cons (JE.toD (je_bin opd_sub (JE.toD (je_bin opd_add jd_int (JD.toB (jd_name 8 (pv 8) rfl)))) (JD.toB (jd_name 9 (pv 9) rfl)))) ja_nil)))) ja_nil))))))
 jss_nil)))
 (jss_one (js_ret (je_binN (i := 4) opd_add (pv 4) (JD.toB (JE.toD (je_lc rfl hN (ji_any (jd_name 3 (pv 3) rfl)) (own := [(("number" : Str), 10), (("count" : Str), 11)]) (blkOk_by (by kernel_rfl)) (fun _ _ _ _ _ => (jgw_tup rfl (jgsw_cons (jgw_name (i := 10) (by decide) hN rfl (.inl rfl)) (jgsw_cons (jgw_name (i := 11) (by decide) hN rfl (.inl rfl)) jgsw_nil)))) (fun _ _ _ _ _ => jts_nil) (fun _ _ _ _ _ => (JE.toD (je_tup (ja_cons (jd_gstr rfl g_PUSH) (ja_cons (jd_name 10 (pv 10) rfl) (ja_cons (jd_name 11 (pv 11) rfl) ja_nil))))))))))))))))))
abbrev st__law_pool : Stmt := topS 22
theorem sc__law_pool : FnScope ["_law_script", "_law_k", "_law_cell", "_law_heavy", "_law_blend", "_law_seed"] ["_law_script", "_law_k"] (defScope st__law_pool) := ⟨rfl, rfl, rfl, by decide +kernel, rfl, by decide +kernel, by decide +kernel⟩
theorem has__law_pool {P : Program} {w : World} {K : PySem.W.Frag} {mg : Str → Option Value} {base : Heap} {f : Addr} {fd : FuncData} (D : Def K mg "_law_pool" st__law_pool ["_law_script", "_law_k"] f fd) (z_abs : mg "abs" = none) (z_int : mg "int" = none) (z_len : mg "len" = none) : Has P w K mg base "_law_pool" 1 ["_law_script", "_law_k"] m__law_pool_k01 :=
 has_of D sc__law_pool fun cdv A outer s H E hr hq => by
  have hu := hr.units
  have hN := sc__law_pool.nd
  exact (jss_cons (js_set (i := 2) hN rfl (.inl rfl) (JD.toE jd_int))
 (jss_cons (js_if (jt_cmp opd_lt (jd_name 1 (pv 1) rfl) (JD.toB (JE.toD (je_lenScr (i := 0) rfl z_len rfl (pv 0)))) (nomark _))
 (jss_one (js_set (i := 2) hN rfl (.inl rfl) (je_ixScr (i := 0) (pv 0) (jd_name 1 (pv 1) rfl))))
 jss_nil)
 (jss_cons (js_set (i := 3) hN rfl (.inl rfl) (je_call1 cd_abs rfl z_abs rfl (JD.toB (jd_name 2 (pv 2) rfl))))
 (jss_cons (js_set (i := 4) hN rfl (.inl rfl) (je_bin opd_mod (JE.toD (je_bin opd_mul (JE.toD (je_bin opd_add (JE.toD (je_bin opd_mod (jd_name 2 (pv 2) rfl) (JD.toB jd_int))) (JD.toB (JE.toD (je_bin opd_mul jd_int (JD.toB (JE.toD (je_bin opd_add (jd_name 1 (pv 1) rfl) (JD.toB jd_int))))))))) (JD.toB (JE.toD (je_bin opd_add (jd_name 1 (pv 1) rfl) (JD.toB jd_int)))))) (JD.toB jd_int)))
 (jss_cons (js_set (i := 5) hN rfl (.inl rfl) (je_bin opd_mod (JE.toD (je_bin opd_mul (JE.toD (je_bin opd_mod (JE.toD (je_bin opd_mul (jd_name 4 (pv 4) rfl) (JD.toB (jd_name 4 (pv 4) rfl)))) (JD.toB jd_int))) (JD.toB jd_int))) (JD.toB jd_int)))
 (jss_one (js_ret (je_lst (ja_cons (JE.toD (je_bin opd_mul (jd_name 3 (pv 3) rfl) (JD.toB (JE.toD (je_callT1 cd_int rfl z_int rfl (JD.toB (JE.toD (je_cmp opd_ge (jd_name 3 (pv 3) rfl) (JD.toB (JE.toD (je_bin opd_pow jd_int (JD.toB jd_int)))) (nomark _))))))))) (ja_cons (jd_name 5 (pv 5) rfl) ja_nil))))))))))
abbrev st__law_take : Stmt := topS 23
theorem sc__law_take : FnScope ["_law_pool_here", "_law_wide", "_law_result"] ["_law_pool_here", "_law_wide"] (defScope st__law_take) := ⟨rfl, rfl, rfl, by decide +kernel, rfl, by decide +kernel, by decide +kernel⟩
theorem has__law_take {P : Program} {w : World} {K : PySem.W.Frag} {mg : Str → Option Value} {base : Heap} {f : Addr} {fd : FuncData} (D : Def K mg "_law_take" st__law_take ["_law_pool_here", "_law_wide"] f fd)  : Has P w K mg base "_law_take" 1 ["_law_pool_here", "_law_wide"] m__law_take :=
 has_of D sc__law_take fun cdv A outer s H E hr hq => by
  have hu := hr.units
  have hN := sc__law_take.nd
  exact (jss_cons (js_if (jt_cmp opd_gt (JE.toD (je_ixN (i := 0) (pv 0) jd_int)) (JD.toB jd_int) (nomark _))
 (jss_cons (js_set (i := 2) hN rfl (.inl rfl) (je_bin opd_mod (JE.toD (je_ixN (i := 0) (pv 0) jd_int)) (JD.toB (jd_name 1 (pv 1) rfl))))
 (jss_cons (js_put (i := 0) (pv 0) jd_int (JE.toD (je_bin opd_fdiv (JE.toD (je_ixN (i := 0) (pv 0) jd_int)) (JD.toB (jd_name 1 (pv 1) rfl)))))
 (jss_one (js_retName (i := 2) (pv 2)))))
 jss_nil)
 (jss_cons (js_put (i := 0) (pv 0) jd_int (JE.toD (je_bin opd_mod (JE.toD (je_bin opd_add (JE.toD (je_bin opd_mul (JE.toD (je_ixN (i := 0) (pv 0) jd_int)) (JD.toB jd_int))) (JD.toB jd_int))) (JD.toB jd_int))))
 (jss_one (js_ret (je_bin opd_mod (JE.toD (je_bin opd_fdiv (JE.toD (je_bin opd_mod (JE.toD (je_bin opd_mul (JE.toD (je_ixN (i := 0) (pv 0) jd_int)) (JD.toB (JE.toD (je_ixN (i := 0) (pv 0) jd_int))))) (JD.toB jd_int))) (JD.toB jd_int))) (JD.toB (jd_name 1 (pv 1) rfl)))))))
abbrev st__law_runs : Stmt := topS 24
theorem sc__law_runs : FnScope ["_law_row", "_law_result", "_law_number"] ["_law_row"] (defScope st__law_runs) := ⟨rfl, rfl, rfl, by decide +kernel, rfl, by decide +kernel, by decide +kernel⟩
theorem has__law_runs {P : Program} {w : World} {K : PySem.W.Frag} {mg : Str → Option Value} {base : Heap} {f : Addr} {fd : FuncData} (D : Def K mg "_law_runs" st__law_runs ["_law_row"] f fd) (z_tuple : mg "tuple" = none) : Has P w K mg base "_law_runs" 1 ["_law_row"] m__law_runs :=
 has_of D sc__law_runs fun cdv A outer s H E hr hq => by
  have hu := hr.units
  have hN := sc__law_runs.nd
  exact (jss_cons (js_set (i := 1) hN rfl (.inl rfl) (je_lst ja_nil))
 (jss_cons (js_for (passes_of rfl) rfl (ji_any (jd_name 0 (pv 0) rfl)) (jg_name (i := 2) hN rfl (.inl rfl))
 (jss_one (js_if (JW.t (jw_and (jt_cmpN (i := 1) (opd_neS hu) (pv 1) (JD.toB (JE.toD (je_lst ja_nil))) (nomark _)) (jw_and1 (jt_cmp (opd_eqS hu) (JE.toD (je_ix (JE.toD (je_ixN (i := 1) (pv 1) (JE.toD (je_neg jd_int)))) jd_int)) (JD.toB (jd_name 2 (pv 2) rfl)) (nomark _)))))
 (jss_one (js_put (i := 1) (pv 1) (JE.toD (je_neg jd_int)) (JE.toD (je_tup (ja_cons (jd_name 2 (pv 2) rfl) (ja_cons (JE.toD (je_bin opd_add (JE.toD (je_ix (JE.toD (je_ixN (i := 1) (pv 1) (JE.toD (je_neg jd_int)))) jd_int)) (JD.toB jd_int))) ja_nil))))))
 (jss_one (js_expr (je_append (i := 1) (pv 1) (JE.toD (je_tup (ja_cons (jd_name 2 (pv 2) rfl) (ja_cons jd_int ja_nil))))))))))
 (jss_one (js_ret (je_callT1 cd_tuple rfl z_tuple rfl (jb_name 1 (pv 1) rfl))))))
abbrev st__law_joined : Stmt := topS 27
theorem sc__law_joined : FnScope ["_law_steps", "_law_result", "_law_step"] ["_law_steps"] (defScope st__law_joined) := ⟨rfl, rfl, rfl, by decide +kernel, rfl, by decide +kernel, by decide +kernel⟩
theorem has__law_joined {P : Program} {w : World} {K : PySem.W.Frag} {mg : Str → Option Value} {base : Heap} {f : Addr} {fd : FuncData} (D : Def K mg "_law_joined" st__law_joined ["_law_steps"] f fd)  : Has P w K mg base "_law_joined" 1 ["_law_steps"] m__law_joined_k11 :=
 has_of D sc__law_joined fun cdv A outer s H E hr hq => by
  have hu := hr.units
  have hN := sc__law_joined.nd
  exact (jss_cons (js_set (i := 1) hN rfl (.inl rfl) (je_lst ja_nil))
 (jss_cons (js_for (passes_of rfl) rfl (ji_any (jd_name 0 (pv 0) rfl)) (jg_name (i := 2) hN rfl (.inl rfl))
 (jss_one (js_if (JW.t (jw_and (jt_cmpN (i := 1) (opd_neS hu) (pv 1) (JD.toB (JE.toD (je_lst ja_nil))) (nomark _)) (jw_and1 (jt_cmp (opd_eqS hu) (JE.toD (je_sl (JE.toD (je_ixN (i := 1) (pv 1) (JE.toD (je_neg jd_int)))) jo_none (jo_some (JE.toD (je_neg jd_int))))) (JD.toB (JE.toD (je_sl (jd_name 2 (pv 2) rfl) jo_none (jo_some (JE.toD (je_neg jd_int)))))) (nomark _)))))
 (jss_one (js_put (i := 1) (pv 1) (JE.toD (je_neg jd_int)) (JE.toD (je_bin opd_add (JE.toD (je_sl (jd_name 2 (pv 2) rfl) jo_none (jo_some (JE.toD (je_neg jd_int))))) (JD.toB (JE.toD (je_tup (ja_cons (JE.toD (je_bin opd_add (JE.toD (je_ix (JE.toD (je_ixN (i := 1) (pv 1) (JE.toD (je_neg jd_int)))) (JE.toD (je_neg jd_int)))) (JD.toB jd_int))) ja_nil))))))))
 (jss_one (js_expr (je_append (i := 1) (pv 1) (jd_name 2 (pv 2) rfl)))))))
 (jss_one (js_retName (i := 1) (pv 1)))))
abbrev st_is_count : Stmt := topS 5
theorem sc_is_count : FnScope ["value"] ["value"] (defScope st_is_count) := ⟨rfl, rfl, rfl, by decide +kernel, rfl, by decide +kernel, by decide +kernel⟩
theorem has_is_count {P : Program} {w : World} {K : PySem.W.Frag} {mg : Str → Option Value} {base : Heap} {f : Addr} {fd : FuncData} (D : Def K mg "is_count" st_is_count ["value"] f fd) (H_is_integer : Has P w K mg base "is_integer" 1 ["value"] m_is_integer) : Has P w K mg base "is_count" 2 ["value"] m_is_count :=
 has_of D sc_is_count fun cdv A outer s H E hr hq => by
  have hu := hr.units
  have hN := sc_is_count.nd
  exact (jss_one (js_ret (je_and (je_callH (ks := [none]) H_is_integer hr (by decide) hq rfl (takes_of rfl rfl rfl rfl) (jp_d (jd_name 0 (pv 0) rfl) jp_nil) (by decide) rfl) (je_one (je_cmp opd_ge (jd_name 0 (pv 0) rfl) (JD.toB jd_int) (nomark _))))))
abbrev st_is_pair : Stmt := topS 13
theorem sc_is_pair : FnScope ["value"] ["value"] (defScope st_is_pair) := ⟨rfl, rfl, rfl, by decide +kernel, rfl, by decide +kernel, by decide +kernel⟩
theorem has_is_pair {P : Program} {w : World} {K : PySem.W.Frag} {mg : Str → Option Value} {base : Heap} {f : Addr} {fd : FuncData} (D : Def K mg "is_pair" st_is_pair ["value"] f fd) (H_is_integer : Has P w K mg base "is_integer" 1 ["value"] m_is_integer) (z_isinstance : mg "isinstance" = none) (z_len : mg "len" = none) (z_tuple : mg "tuple" = none) : Has P w K mg base "is_pair" 2 ["value"] m_is_pair :=
 has_of D sc_is_pair fun cdv A outer s H E hr hq => by
  have hu := hr.units
  have hN := sc_is_pair.nd
  exact (jss_cons (js_if (JW.t (jw_or (jt_not (jt_val (je_isi (T := "tuple") (by decide) rfl z_isinstance rfl rfl z_tuple rfl (JD.toB (jd_name 0 (pv 0) rfl))))) (jw_or1 (jt_cmp (opd_neS hu) (JE.toD (je_call1 cd_len rfl z_len rfl (JD.toB (jd_name 0 (pv 0) rfl)))) (JD.toB jd_int) (nomark _)))))
 (jss_one (js_ret (JD.toE jd_bl)))
 jss_nil)
 (jss_one (js_ret (je_and (je_callH (ks := [none]) H_is_integer hr (by decide) hq rfl (takes_of rfl rfl rfl rfl) (jp_d (JE.toD (je_ix (jd_name 0 (pv 0) rfl) jd_int)) jp_nil) (by decide) rfl) (je_and (je_callH (ks := [none]) H_is_integer hr (by decide) hq rfl (takes_of rfl rfl rfl rfl) (jp_d (JE.toD (je_ix (jd_name 0 (pv 0) rfl) jd_int)) jp_nil) (by decide) rfl) (je_one (je_cmp opd_ge (JE.toD (je_ix (jd_name 0 (pv 0) rfl) jd_int)) (JD.toB jd_int) (nomark _))))))))
abbrev st__law_effect : Stmt := topS 25
theorem sc__law_effect : FnScope ["_law_steps", "_law_new", "_law_cuts", "_law_drops", "_law_step", "_law_turn", "_law_pairs", "_law_threshold", "_law_ahead", "_law_one", "_law_two"] ["_law_steps"] (defScope st__law_effect) := ⟨rfl, rfl, rfl, by decide +kernel, rfl, by decide +kernel, by decide +kernel⟩
theorem has__law_effect {P : Program} {w : World} {K : PySem.W.Frag} {mg : Str → Option Value} {base : Heap} {f : Addr} {fd : FuncData} (D : Def K mg "_law_effect" st__law_effect ["_law_steps"] f fd) (H__law_runs : Has P w K mg base "_law_runs" 1 ["_law_row"] m__law_runs) (z_range : mg "range" = none) (z_sorted : mg "sorted" = none) (z_tuple : mg "tuple" = none) : Has P w K mg base "_law_effect" 2 ["_law_steps"] m__law_effect_k06 :=
 has_of D sc__law_effect fun cdv A outer s H E hr hq => by
  have hu := hr.units
  have hN := sc__law_effect.nd
  exact (jss_cons (js_parC3 (i := 1) (j := 2) (l := 3) rfl hN rfl rfl rfl (.inl rfl) (.inl rfl) (.inr rfl) (jr_cons (je_lst ja_nil) (jr_cons (je_lst ja_nil) (jr_cons (JD.toE jd_int) jr_nil))))
 (jss_cons (js_for (passes_of rfl) rfl (ji_any (jd_name 0 (pv 0) rfl)) (jg_name (i := 4) hN rfl (.inl rfl))
 (jss_one (js_for (passes_of rfl) rfl (ji_range1 rfl z_range (ja_cons (JE.toD (je_ix (jd_name 4 (pv 4) rfl) (JE.toD (je_neg jd_int)))) ja_nil)) (jg_name (i := 5) hN rfl (.inl rfl))
 (jss_one (js_if (jt_cmp (opd_eqS hu) (JE.toD (je_ix (jd_name 4 (pv 4) rfl) jd_int)) (JD.toB jd_str) (nomark _))
 (jss_cons (js_while (passes_of rfl) (JW.t (jw_and (jt_cmpN (i := 1) (opd_neS hu) (pv 1) (JD.toB (JE.toD (je_lst ja_nil))) (nomark _)) (jw_and1 (jt_cmp opd_lt (JE.toD (je_ixN (i := 1) (pv 1) (JE.toD (je_neg jd_int)))) (JD.toB (JE.toD (je_ix (jd_name 4 (pv 4) rfl) jd_int))) (nomark _)))))
 (jss_one (js_expr (JD.toE (jd_pop (i := 1) (pv 1))))))
 (jss_cons (js_if (jt_cmpN (i := 1) (opd_eqS hu) (pv 1) (JD.toB (JE.toD (je_lst ja_nil))) (nomark _))
 (jss_one (js_expr (je_append (i := 2) (pv 2) (JE.toD (je_tup (ja_cons (JE.toD (je_ix (jd_name 4 (pv 4) rfl) jd_int)) (ja_cons (jd_name 3 (pv 3) rfl) ja_nil)))))))
 jss_nil)
 (jss_one (js_expr (je_append (i := 1) (pv 1) (JE.toD (je_ix (jd_name 4 (pv 4) rfl) jd_int)))))))
 (jss_one (js_if (jt_cmpN (i := 1) (opd_neS hu) (pv 1) (JD.toB (JE.toD (je_lst ja_nil))) (nomark _))
 (jss_one (js_expr (JD.toE (jd_pop (i := 1) (pv 1)))))
 (jss_one (js_set (i := 3) hN rfl (.inr rfl) (je_bin opd_add (jd_name 3 (pv 3) rfl) (JD.toB jd_int)))))))))))
 (jss_cons (js_set (i := 6) hN rfl (.inl rfl) (je_lst ja_nil))
 (jss_cons (js_for (passes_of rfl) rfl (ji_any (JE.toD (je_rev (JD.toB (JE.toD (je_call1 (cd_sortedA hu) rfl z_sorted rfl (JD.toB (JE.toD (je_lc rfl hN (ji_any (jd_name 2 (pv 2) rfl)) (own := [(("_law_one" : Str), 9), (("_law_two" : Str), 10)]) (blkOk_by (by kernel_rfl)) (fun _ _ _ _ _ => (jgw_tup rfl (jgsw_cons (jgw_name (i := 9) (by decide) hN rfl (.inl rfl)) (jgsw_cons (jgw_name (i := 10) (by decide) hN rfl (.inl rfl)) jgsw_nil)))) (fun _ _ _ _ _ => jts_nil) (fun _ _ _ _ _ => (JE.toD (je_tup (ja_cons (jd_name 9 (pv 9) rfl) (ja_cons (JE.toD (je_bin opd_sub (jd_name 3 (pv 3) rfl) (JD.toB (jd_name 10 (pv 10) rfl)))) ja_nil)))))))))))))) (jg_tup rfl (jgs_cons (jg_name (i := 7) hN rfl (.inl rfl)) (jgs_cons (jg_name (i := 8) hN rfl (.inl rfl)) jgs_nil)))
 (jss_one (js_if (JW.t (jw_or (jt_cmpN (i := 6) (opd_eqS hu) (pv 6) (JD.toB (JE.toD (je_lst ja_nil))) (nomark _)) (jw_or1 (jt_cmp opd_gt (jd_name 8 (pv 8) rfl) (JD.toB (JE.toD (je_ix (JE.toD (je_ixN (i := 6) (pv 6) (JE.toD (je_neg jd_int)))) jd_int))) (nomark _)))))
 (jss_one (js_expr (je_append (i := 6) (pv 6) (JE.toD (je_tup (ja_cons (jd_name 7 (pv 7) rfl) (ja_cons (jd_name 8 (pv 8) rfl) ja_nil)))))))
 jss_nil)))
 (jss_one (js_ret (je_tup (ja_cons (JE.toD (je_callT1 cd_tuple rfl z_tuple rfl (JD.toB (JE.toD (je_rev (jb_name 6 (pv 6) rfl)))))) (ja_cons (jd_name 3 (pv 3) rfl) (ja_cons (JE.toD (je_callH (ks := [none]) H__law_runs hr (by decide) hq rfl (takes_of rfl rfl rfl rfl) (jp_d (jd_name 1 (pv 1) rfl) jp_nil) (by decide) rfl)) ja_nil))))))))))
abbrev st__law_shuffled : Stmt := topS 26
theorem sc__law_shuffled : FnScope ["_law_pool_here", "_law_some", "_law_left", "_law_result"] ["_law_pool_here", "_law_some"] (defScope st__law_shuffled) := ⟨rfl, rfl, rfl, by decide +kernel, rfl, by decide +kernel, by decide +kernel⟩
theorem has__law_shuffled {P : Program} {w : World} {K : PySem.W.Frag} {mg : Str → Option Value} {base : Heap} {f : Addr} {fd : FuncData} (D : Def K mg "_law_shuffled" st__law_shuffled ["_law_pool_here", "_law_some"] f fd) (H__law_take : Has P w K mg base "_law_take" 1 ["_law_pool_here", "_law_wide"] m__law_take) (z_len : mg "len" = none) (z_list : mg "list" = none) : Has P w K mg base "_law_shuffled" 2 ["_law_pool_here", "_law_some"] m__law_shuffled :=
 has_of D sc__law_shuffled fun cdv A outer s H E hr hq => by
  have hu := hr.units
  have hN := sc__law_shuffled.nd
  exact (jss_cons (js_set (i := 2) hN rfl (.inl rfl) (je_callT1 cd_list rfl z_list rfl (JD.toB (jd_name 1 (pv 1) rfl))))
 (jss_cons (js_set (i := 3) hN rfl (.inl rfl) (je_lst ja_nil))
 (jss_cons (js_while (passes_of rfl) (jt_cmpN (i := 2) (opd_neS hu) (pv 2) (JD.toB (JE.toD (je_lst ja_nil))) (nomark _))
 (jss_one (js_expr (je_append (i := 3) (pv 3) (jd_popAt (i := 2) (pv 2) (JE.toD (je_callH (ks := [some 0, none]) H__law_take hr (by decide) hq rfl (takes_of rfl rfl rfl rfl) (jp_ref (pv 0) (jp_d (JE.toD (je_call1 cd_len rfl z_len rfl (jb_name 2 (pv 2) rfl))) jp_nil)) (by decide) rfl)))))))
 (jss_one (js_retName (i := 3) (pv 3))))))
abbrev st_is_run : Stmt := topS 6
theorem sc_is_run : FnScope ["value"] ["value"] (defScope st_is_run) := ⟨rfl, rfl, rfl, by decide +kernel, rfl, by decide +kernel, by decide +kernel⟩
theorem has_is_run {P : Program} {w : World} {K : PySem.W.Frag} {mg : Str → Option Value} {base : Heap} {f : Addr} {fd : FuncData} (D : Def K mg "is_run" st_is_run ["value"] f fd) (H_is_integer : Has P w K mg base "is_integer" 1 ["value"] m_is_integer) (H_is_count : Has P w K mg base "is_count" 2 ["value"] m_is_count) (z_isinstance : mg "isinstance" = none) (z_len : mg "len" = none) (z_tuple : mg "tuple" = none) : Has P w K mg base "is_run" 3 ["value"] m_is_run :=
 has_of D sc_is_run fun cdv A outer s H E hr hq => by
  have hu := hr.units
  have hN := sc_is_run.nd
  exact (jss_one (js_ret (je_and (je_isi (T := "tuple") (by decide) rfl z_isinstance rfl rfl z_tuple rfl (JD.toB (jd_name 0 (pv 0) rfl))) (je_and (je_cmp (opd_eqS hu) (JE.toD (je_call1 cd_len rfl z_len rfl (JD.toB (jd_name 0 (pv 0) rfl)))) (JD.toB jd_int) (nomark _)) (je_and (je_callH (ks := [none]) H_is_integer hr (by decide) hq rfl (takes_of rfl rfl rfl rfl) (jp_d (JE.toD (je_ix (jd_name 0 (pv 0) rfl) jd_int)) jp_nil) (by decide) rfl) (je_one (je_callH (ks := [none]) H_is_count hr (by decide) hq rfl (takes_of rfl rfl rfl rfl) (jp_d (JE.toD (je_ix (jd_name 0 (pv 0) rfl) jd_int)) jp_nil) (by decide) rfl)))))))
abbrev st_are_pairs : Stmt := topS 14
theorem sc_are_pairs : FnScope ["value", "rows", "pair", "one", "other"] ["value"] (defScope st_are_pairs) := ⟨rfl, rfl, rfl, by decide +kernel, rfl, by decide +kernel, by decide +kernel⟩
theorem has_are_pairs {P : Program} {w : World} {K : PySem.W.Frag} {mg : Str → Option Value} {base : Heap} {f : Addr} {fd : FuncData} (D : Def K mg "are_pairs" st_are_pairs ["value"] f fd) (H_is_pair : Has P w K mg base "is_pair" 2 ["value"] m_is_pair) (z_all : mg "all" = none) (z_isinstance : mg "isinstance" = none) (z_list : mg "list" = none) (z_tuple : mg "tuple" = none) (z_zip : mg "zip" = none) : Has P w K mg base "are_pairs" 3 ["value"] m_are_pairs :=
 has_of D sc_are_pairs fun cdv A outer s H E hr hq => by
  have hu := hr.units
  have hN := sc_are_pairs.nd
  exact (jss_cons (js_if (JW.t (jw_or (jt_not (jt_val (je_isi (T := "tuple") (by decide) rfl z_isinstance rfl rfl z_tuple rfl (JD.toB (jd_name 0 (pv 0) rfl))))) (jw_or1 (jt_not (jt_val (je_call1 (cd_all rfl) rfl z_all rfl (JD.toB (JE.toD (je_lc rfl hN (ji_any (jd_name 0 (pv 0) rfl)) (own := [(("pair" : Str), 2)]) (blkOk_by (by kernel_rfl)) (fun _ _ _ _ _ => (jgw_name (i := 2) (by decide) hN rfl (.inl rfl))) (fun _ _ _ _ _ => jts_nil) (fun _ _ _ _ _ => (JE.toD (je_callH (ks := [none]) H_is_pair hr (by decide) hq rfl takes0 (jp_d (jd_name 2 (pv 2) rfl) jp_nil) (by decide) rfl))))))))))))
 (jss_one (js_ret (JD.toE jd_bl)))
 jss_nil)
 (jss_cons (js_set (i := 1) hN rfl (.inl rfl) (je_listZip rfl rfl z_list rfl z_zip (ja_cons (jd_name 0 (pv 0) rfl) (ja_cons (JE.toD (je_sl (jd_name 0 (pv 0) rfl) (jo_some jd_int) jo_none)) ja_nil)) (fun _ _ h => wpAny_pure h)))
 (jss_one (js_ret (je_call1 (cd_all rfl) rfl z_all rfl (JD.toB (JE.toD (je_lc rfl hN (ji_any (jd_name 1 (pv 1) rfl)) (own := [(("one" : Str), 3), (("other" : Str), 4)]) (blkOk_by (by kernel_rfl)) (fun _ _ _ _ _ => (jgw_tup rfl (jgsw_cons (jgw_name (i := 3) (by decide) hN rfl (.inl rfl)) (jgsw_cons (jgw_name (i := 4) (by decide) hN rfl (.inl rfl)) jgsw_nil)))) (fun _ _ _ _ _ => jts_nil) (fun _ _ _ _ _ => (JE.toD (je_and (je_cmp opd_lt (JE.toD (je_ix (jd_name 3 (pv 3) rfl) jd_int)) (JD.toB (JE.toD (je_ix (jd_name 4 (pv 4) rfl) jd_int))) (nomark _)) (je_one (je_cmp opd_gt (JE.toD (je_ix (jd_name 3 (pv 3) rfl) jd_int)) (JD.toB (JE.toD (je_ix (jd_name 4 (pv 4) rfl) jd_int))) (nomark _))))))))))))))
abbrev st_is_stack : Stmt := topS 7
theorem sc_is_stack : FnScope ["value", "run", "one", "other"] ["value"] (defScope st_is_stack) := ⟨rfl, rfl, rfl, by decide +kernel, rfl, by decide +kernel, by decide +kernel⟩
theorem has_is_stack {P : Program} {w : World} {K : PySem.W.Frag} {mg : Str → Option Value} {base : Heap} {f : Addr} {fd : FuncData} (D : Def K mg "is_stack" st_is_stack ["value"] f fd) (H_is_run : Has P w K mg base "is_run" 3 ["value"] m_is_run) (z_all : mg "all" = none) (z_isinstance : mg "isinstance" = none) (z_tuple : mg "tuple" = none) (z_zip : mg "zip" = none) : Has P w K mg base "is_stack" 4 ["value"] m_is_stack :=
 has_of D sc_is_stack fun cdv A outer s H E hr hq => by
  have hu := hr.units
  have hN := sc_is_stack.nd
  exact (jss_cons (js_if (JW.t (jw_or (jt_not (jt_val (je_isi (T := "tuple") (by decide) rfl z_isinstance rfl rfl z_tuple rfl (JD.toB (jd_name 0 (pv 0) rfl))))) (jw_or1 (jt_not (jt_val (je_call1 (cd_all rfl) rfl z_all rfl (JD.toB (JE.toD (je_lc rfl hN (ji_any (jd_name 0 (pv 0) rfl)) (own := [(("run" : Str), 1)]) (blkOk_by (by kernel_rfl)) (fun _ _ _ _ _ => (jgw_name (i := 1) (by decide) hN rfl (.inl rfl))) (fun _ _ _ _ _ => jts_nil) (fun _ _ _ _ _ => (JE.toD (je_callH (ks := [none]) H_is_run hr (by decide) hq rfl takes0 (jp_d (jd_name 1 (pv 1) rfl) jp_nil) (by decide) rfl))))))))))))
 (jss_one (js_ret (JD.toE jd_bl)))
 jss_nil)
 (jss_one (js_ret (je_call1 (cd_all rfl) rfl z_all rfl (JD.toB (JE.toD (je_lc rfl hN (ji_zipB (bb := false) rfl z_zip (ja_cons (jd_name 0 (pv 0) rfl) (ja_cons (JE.toD (je_sl (jd_name 0 (pv 0) rfl) (jo_some jd_int) jo_none)) ja_nil)) fun _ _ h => wpAny_pure h) (own := [(("one" : Str), 2), (("other" : Str), 3)]) (blkOk_by (by kernel_rfl)) (fun _ _ _ _ _ => (jgw_tup rfl (jgsw_cons (jgw_name (i := 2) (by decide) hN rfl (.inl rfl)) (jgsw_cons (jgw_name (i := 3) (by decide) hN rfl (.inl rfl)) jgsw_nil)))) (fun _ _ _ _ _ => jts_nil) (fun _ _ _ _ _ => (JE.toD (je_cmp opd_gt (JE.toD (je_ix (jd_name 2 (pv 2) rfl) jd_int)) (JD.toB (JE.toD (je_ix (jd_name 3 (pv 3) rfl) jd_int))) (nomark _)))))))))))
abbrev st_is_effect : Stmt := topS 15
theorem sc_is_effect : FnScope ["value", "pairs", "drops", "new"] ["value"] (defScope st_is_effect) := ⟨rfl, rfl, rfl, by decide +kernel, rfl, by decide +kernel, by decide +kernel⟩
theorem has_is_effect {P : Program} {w : World} {K : PySem.W.Frag} {mg : Str → Option Value} {base : Heap} {f : Addr} {fd : FuncData} (D : Def K mg "is_effect" st_is_effect ["value"] f fd) (H_are_pairs : Has P w K mg base "are_pairs" 3 ["value"] m_are_pairs) (H_is_integer : Has P w K mg base "is_integer" 1 ["value"] m_is_integer) (H_is_stack : Has P w K mg base "is_stack" 4 ["value"] m_is_stack) (z_isinstance : mg "isinstance" = none) (z_len : mg "len" = none) (z_tuple : mg "tuple" = none) : Has P w K mg base "is_effect" 5 ["value"] m_is_effect :=
 has_of D sc_is_effect fun cdv A outer s H E hr hq => by
  have hu := hr.units
  have hN := sc_is_effect.nd
  exact (jss_cons (js_if (JW.t (jw_or (jt_not (jt_val (je_isi (T := "tuple") (by decide) rfl z_isinstance rfl rfl z_tuple rfl (JD.toB (jd_name 0 (pv 0) rfl))))) (jw_or1 (jt_cmp (opd_neS hu) (JE.toD (je_call1 cd_len rfl z_len rfl (JD.toB (jd_name 0 (pv 0) rfl)))) (JD.toB jd_int) (nomark _)))))
 (jss_one (js_ret (JD.toE jd_bl)))
 jss_nil)
 (jss_cons (js_asg (jd_name 0 (pv 0) rfl) (jg_tup rfl (jgs_cons (jg_name (i := 1) hN rfl (.inl rfl)) (jgs_cons (jg_name (i := 2) hN rfl (.inl rfl)) (jgs_cons (jg_name (i := 3) hN rfl (.inl rfl)) jgs_nil)))))
 (jss_cons (js_if (JW.t (jw_or (jt_not (jt_val (je_callH (ks := [none]) H_are_pairs hr (by decide) hq rfl (takes_of rfl rfl rfl rfl) (jp_d (jd_name 1 (pv 1) rfl) jp_nil) (by decide) rfl))) (jw_or (jt_not (jt_val (je_callH (ks := [none]) H_is_integer hr (by decide) hq rfl (takes_of rfl rfl rfl rfl) (jp_d (jd_name 2 (pv 2) rfl) jp_nil) (by decide) rfl))) (jw_or (jt_cmp opd_lt (jd_name 2 (pv 2) rfl) (JD.toB jd_int) (nomark _)) (jw_or1 (jt_not (jt_val (je_callH (ks := [none]) H_is_stack hr (by decide) hq rfl (takes_of rfl rfl rfl rfl) (jp_d (jd_name 3 (pv 3) rfl) jp_nil) (by decide) rfl))))))))
 (jss_one (js_ret (JD.toE jd_bl)))
 jss_nil)
 (jss_cons (js_if (jt_cmp (opd_eqS hu) (jd_name 1 (pv 1) rfl) (JD.toB (JE.toD (je_tup ja_nil))) (nomark _))
 (jss_one (js_ret (je_cmp (opd_eqS hu) (jd_name 3 (pv 3) rfl) (JD.toB (JE.toD (je_tup ja_nil))) (nomark _))))
 jss_nil)
 (jss_one (js_ret (je_and (je_cmp opd_le (JE.toD (je_ix (JE.toD (je_ix (jd_name 1 (pv 1) rfl) jd_int)) jd_int)) (JD.toB (jd_name 2 (pv 2) rfl)) (nomark _)) (je_one (je_or (je_cmp (opd_eqS hu) (jd_name 3 (pv 3) rfl) (JD.toB (JE.toD (je_tup ja_nil))) (nomark _)) (je_one (je_cmp opd_le (JE.toD (je_ix (JE.toD (je_ix (jd_name 3 (pv 3) rfl) jd_int)) jd_int)) (JD.toB (JE.toD (je_ix (JE.toD (je_ix (jd_name 1 (pv 1) rfl) (JE.toD (je_neg jd_int)))) jd_int))) (nomark _))))))))))))
abbrev st_check_effect : Stmt := topS 16
theorem sc_check_effect : FnScope ["value"] ["value"] (defScope st_check_effect) := ⟨rfl, rfl, rfl, by decide +kernel, rfl, by decide +kernel, by decide +kernel⟩
theorem has_check_effect {P : Program} {w : World} {K : PySem.W.Frag} {mg : Str → Option Value} {base : Heap} {f : Addr} {fd : FuncData} (D : Def K mg "check_effect" st_check_effect ["value"] f fd) (H_is_effect : Has P w K mg base "is_effect" 5 ["value"] m_is_effect) (H_InvalidEffect : ErrC P w K mg base 1 "InvalidEffect") : Has P w K mg base "check_effect" 6 ["value"] m_check_effect :=
 has_of D sc_check_effect fun cdv A outer s H E hr hq => by
  have hu := hr.units
  have hN := sc_check_effect.nd
  exact (jss_one (js_if (jt_not (jt_val (je_callH (ks := [none]) H_is_effect hr (by decide) hq rfl (takes_of rfl rfl rfl rfl) (jp_d (jd_name 0 (pv 0) rfl) jp_nil) (by decide) rfl)))
 (jss_one (js_raise (c := "InvalidEffect") rfl H_InvalidEffect hr (by decide) (takes_of rfl rfl rfl rfl) (fun _ _ _ _ _ _ _ h => h.elim) rfl (jd_name 0 (pv 0) rfl)))
 jss_nil))
abbrev st_shortest : Stmt := topS 19
theorem sc_shortest : FnScope ["effect"] ["effect"] (defScope st_shortest) := ⟨rfl, rfl, rfl, by decide +kernel, rfl, by decide +kernel, by decide +kernel⟩
theorem has_shortest {P : Program} {w : World} {K : PySem.W.Frag} {mg : Str → Option Value} {base : Heap} {f : Addr} {fd : FuncData} (D : Def K mg "shortest" st_shortest ["effect"] f fd) (H_check_effect : Has P w K mg base "check_effect" 6 ["value"] m_check_effect) (H_shortest_of : Has P w K mg base "shortest_of" 1 ["effect"] m_shortest_of) : Has P w K mg base "shortest" 7 ["effect"] m_shortest :=
 has_of D sc_shortest fun cdv A outer s H E hr hq => by
  have hu := hr.units
  have hN := sc_shortest.nd
  exact (jss_cons (js_expr (je_callH (ks := [none]) H_check_effect hr (by decide) hq rfl (takes_of rfl rfl rfl rfl) (jp_d (jd_name 0 (pv 0) rfl) jp_nil) (by decide) rfl))
 (jss_one (js_ret (je_callH (ks := [none]) H_shortest_of hr (by decide) hq rfl (takes_of rfl rfl rfl rfl) (jp_d (jd_name 0 (pv 0) rfl) jp_nil) (by decide) rfl))))
abbrev st_steps_in : Stmt := topS 20
theorem sc_steps_in : FnScope ["effect"] ["effect"] (defScope st_steps_in) := ⟨rfl, rfl, rfl, by decide +kernel, rfl, by decide +kernel, by decide +kernel⟩
theorem has_steps_in {P : Program} {w : World} {K : PySem.W.Frag} {mg : Str → Option Value} {base : Heap} {f : Addr} {fd : FuncData} (D : Def K mg "steps_in" st_steps_in ["effect"] f fd) (H_check_effect : Has P w K mg base "check_effect" 6 ["value"] m_check_effect) (H_length_of : Has P w K mg base "length_of" 1 ["sequence"] m_length_of) (H_shortest_of : Has P w K mg base "shortest_of" 1 ["effect"] m_shortest_of) : Has P w K mg base "steps_in" 7 ["effect"] m_steps_in :=
 has_of D sc_steps_in fun cdv A outer s H E hr hq => by
  have hu := hr.units
  have hN := sc_steps_in.nd
  exact (jss_cons (js_expr (je_callH (ks := [none]) H_check_effect hr (by decide) hq rfl (takes_of rfl rfl rfl rfl) (jp_d (jd_name 0 (pv 0) rfl) jp_nil) (by decide) rfl))
 (jss_one (js_ret (je_callH (ks := [none]) H_length_of hr (by decide) hq rfl (takes_of rfl rfl rfl rfl) (jp_d (JE.toD (je_callH (ks := [none]) H_shortest_of hr (by decide) hq rfl (takes_of rfl rfl rfl rfl) (jp_d (jd_name 0 (pv 0) rfl) jp_nil) (by decide) rfl)) jp_nil) (by decide) rfl))))
abbrev st_law : Stmt := topS 28
theorem sc_law : FnScope ["_law_script", "_law_pool_here", "_law_numbers", "_law_choices", "_law_level", "_law_found", "_law_turn", "_law_later", "_law_fresh", "_law_steps", "_law_effect_here", "_law_many", "_law_number", "_law_step"] ["_law_script"] (defScope st_law) := ⟨rfl, rfl, rfl, by decide +kernel, rfl, by decide +kernel, by decide +kernel⟩
theorem fd_law {P : Program} {w : World} {K : PySem.W.Frag} {mg : Str → Option Value} {base : Heap} {f : Addr} {fd : FuncData} (D : Def K mg "law" st_law ["_law_script"] f fd) (H__law_pool : Has P w K mg base "_law_pool" 1 ["_law_script", "_law_k"] m__law_pool_k01) (H__law_shuffled : Has P w K mg base "_law_shuffled" 2 ["_law_pool_here", "_law_some"] m__law_shuffled) (H__law_effect : Has P w K mg base "_law_effect" 2 ["_law_steps"] m__law_effect_k06) (H__law_joined : Has P w K mg base "_law_joined" 1 ["_law_steps"] m__law_joined_k11) (H_shortest : Has P w K mg base "shortest" 7 ["effect"] m_shortest) (H_steps_in : Has P w K mg base "steps_in" 7 ["effect"] m_steps_in) (z_len : mg "len" = none) (z_range : mg "range" = none) (z_sorted : mg "sorted" = none) : FD P w K mg base 8 f fd ["_law_script"] m_law_k11 :=
 fd_of D.fn sc_law fun cdv A outer s H E hr hq => by
  have hu := hr.units
  have hN := sc_law.nd
  exact (jss_cons (js_set (i := 1) hN rfl (.inl rfl) (je_callH (ks := [some 0, none]) H__law_pool hr (by decide) hq rfl (takes_of rfl rfl rfl rfl) (jp_ref (pv 0) (jp_d jd_int jp_nil)) (by decide) rfl))
 (jss_cons (js_set (i := 2) hN rfl (.inl rfl) (je_call1 (cd_sortedA hu) rfl z_sorted rfl (JD.toB (JE.toD (je_sl (JE.toD (je_callH (ks := [some 1, none]) H__law_shuffled hr (by decide) hq rfl (takes_of rfl rfl rfl rfl) (jp_ref (pv 1) (jp_d (JE.toD (je_lst (ja_cons (JE.toD (je_neg jd_int)) (ja_cons (JE.toD (je_neg jd_int)) (ja_cons jd_int (ja_cons jd_int (ja_cons jd_int (ja_cons jd_int (ja_cons (JE.toD (je_bin opd_pow jd_int (JD.toB jd_int))) ja_nil))))))))) jp_nil)) (by decide) rfl)) jo_none (jo_some jd_int))))))
 (jss_cons (js_set (i := 3) hN rfl (.inl rfl) (je_bin opd_add (JE.toD (je_lc rfl hN (ji_any (jd_name 2 (pv 2) rfl)) (own := [(("_law_number" : Str), 12)]) (blkOk_by (by kernel_rfl)) (fun _ _ _ _ _ => (jgw_name (i := 12) (by decide) hN rfl (.inl rfl))) (fun _ _ _ _ _ => jts_nil) (fun _ _ _ _ _ => (JE.toD (je_tup (ja_cons jd_str (ja_cons (jd_name 12 (pv 12) rfl) (ja_cons jd_int ja_nil)))))))) (JD.toB (JE.toD (je_lst (ja_cons (JE.toD (je_tup (ja_cons jd_str (ja_cons jd_int ja_nil)))) ja_nil))))))
 (jss_cons (js_parD (i := 4) (j := 5) rfl hN rfl rfl (by decide) rfl rfl (je_lst (ja_cons (JE.toD (je_lst ja_nil)) ja_nil)) (by rfl))
 (jss_cons (js_for (passes_of rfl) rfl (ji_range1 rfl z_range (ja_cons jd_int ja_nil)) (jg_name (i := 6) hN rfl (.inl rfl))
 (jss_cons (js_parD (i := 7) (j := 8) rfl hN rfl rfl (by decide) rfl rfl (je_lst ja_nil) (by rfl))
 (jss_cons (js_for (passes_of rfl) rfl (ji_any (jd_name 4 (pv 4) rfl)) (jg_name (i := 9) hN rfl (.inr rfl))
 (jss_cons (js_set (i := 10) hN rfl (.inl rfl) (je_callH (ks := [none]) H__law_effect hr (by decide) hq rfl (takes_of rfl rfl rfl rfl) (jp_d (jd_name 9 (pv 9) rfl) jp_nil) (by decide) rfl))
 (jss_one (js_if (jt_dhas (i := 5) true rfl (units65 hr) (pv 5) (jd_name 10 (pv 10) rfl))
 (jss_cons (js_dset (i := 8) (units65 hr) (pv 8) (jd_name 10 (pv 10) rfl) (JE.toD (je_bin opd_add (jd_dget (i := 8) (units65 hr) (pv 8) (jd_name 10 (pv 10) rfl) jd_int ⟨rfl, rfl, rfl, rfl⟩) (JD.toB jd_int))))
 (jss_cons (js_if (jt_cmp (opd_eqS hu) (jd_didx (i := 8) (units65 hr) (pv 8) (jd_name 10 (pv 10) rfl) (fun _ _ => rfl)) (JD.toB jd_int) (nomark _))
 (jss_one (js_if (JW.t (jw_or (jt_cmp (opd_neS hu) (JE.toD (je_callH (ks := [none]) H_shortest hr (by decide) hq rfl (takes_of rfl rfl rfl rfl) (jp_d (jd_name 10 (pv 10) rfl) jp_nil) (by decide) rfl)) (JD.toB (JE.toD (je_callH (ks := [none]) H__law_joined hr (by decide) hq rfl (takes_of rfl rfl rfl rfl) (jp_d (jd_name 9 (pv 9) rfl) jp_nil) (by decide) rfl))) (nomark _)) (jw_or1 (jt_cmp (opd_neS hu) (JE.toD (je_callH (ks := [none]) H_steps_in hr (by decide) hq rfl (takes_of rfl rfl rfl rfl) (jp_d (jd_name 10 (pv 10) rfl) jp_nil) (by decide) rfl)) (JD.toB (JE.toD (je_call1 cd_len rfl z_len rfl (JD.toB (jd_name 9 (pv 9) rfl))))) (nomark _)))))
 (jss_one (js_ret (JD.toE jd_bl)))
 jss_nil))
 jss_nil)
 (jss_one (js_set (i := 7) hN rfl (.inl rfl) (je_bin opd_add (jd_name 7 (pv 7) rfl) (JD.toB (JE.toD (je_lc rfl hN (ji_any (jd_name 3 (pv 3) rfl)) (own := [(("_law_step" : Str), 13)]) (blkOk_by (by kernel_rfl)) (fun _ _ _ _ _ => (jgw_name (i := 13) (by decide) hN rfl (.inl rfl))) (fun _ _ _ _ _ => jts_nil) (fun _ _ _ _ _ => (JE.toD (je_bin opd_add (jd_name 9 (pv 9) rfl) (JD.toB (JE.toD (je_lst (ja_cons (jd_name 13 (pv 13) rfl) ja_nil)))))))))))))))
 jss_nil))))
 (jss_cons (js_for (passes_of rfl) rfl (ji_items (i := 8) (pv 8)) (jg_tup rfl (jgs_cons (jg_name (i := 10) hN rfl (.inl rfl)) (jgs_cons (jg_name (i := 11) hN rfl (.inl rfl)) jgs_nil)))
 (jss_cons (js_if (jt_cmp (opd_neS hu) (jd_name 11 (pv 11) rfl) (JD.toB jd_int) (nomark _))
 (jss_one (js_ret (JD.toE jd_bl)))
 jss_nil)
 (jss_one (js_dset (i := 5) (units65 hr) (pv 5) (jd_name 10 (pv 10) rfl) jd_bl))))
 (jss_one (js_set (i := 4) hN rfl (.inl rfl) (JD.toE (jd_name 7 (pv 7) rfl))))))))
 (jss_one (js_ret (JD.toE jd_bl))))))))
theorem all_mk {w : World} {K : PySem.W.Frag} {h : Heap} {mg : Str → Option Value} {fa : Addr} (X : K.In h) (G : h.Ns mainGlobals mg) (hfa : mg "law" = some (.ref fa))
 {f_is_integer : Addr} {od_is_integer an_is_integer : Option Addr} {sl_is_integer : Array (Option Value)} {oc_is_integer kV_is_integer dc_is_integer pm_is_integer cd_is_integer ct_is_integer : Value}  (a_is_integer : PySem.W.nsIn K mainGlobals "is_integer" = some (some (.ref f_is_integer))) (l_is_integer : K.lookup f_is_integer = some ⟨oc_is_integer, od_is_integer, .func (PySem.W.fnOf "is_integer" "is_integer" (defArgs st_is_integer) (defBody st_is_integer) (defScope st_is_integer) .none kV_is_integer dc_is_integer pm_is_integer an_is_integer cd_is_integer ct_is_integer), sl_is_integer⟩) (c_is_integer : PySem.W.codeIn K cd_is_integer "is_integer" = true) (k_is_integer : PySem.W.keepIn K (.ref f_is_integer) = true)
 {f_length_of : Addr} {od_length_of an_length_of : Option Addr} {sl_length_of : Array (Option Value)} {oc_length_of kV_length_of dc_length_of pm_length_of cd_length_of ct_length_of : Value}  (a_length_of : PySem.W.nsIn K mainGlobals "length_of" = some (some (.ref f_length_of))) (l_length_of : K.lookup f_length_of = some ⟨oc_length_of, od_length_of, .func (PySem.W.fnOf "length_of" "length_of" (defArgs st_length_of) (defBody st_length_of) (defScope st_length_of) .none kV_length_of dc_length_of pm_length_of an_length_of cd_length_of ct_length_of), sl_length_of⟩) (c_length_of : PySem.W.codeIn K cd_length_of "length_of" = true) (k_length_of : PySem.W.keepIn K (.ref f_length_of) = true)
 {f_shortest_of : Addr} {od_shortest_of an_shortest_of : Option Addr} {sl_shortest_of : Array (Option Value)} {oc_shortest_of kV_shortest_of dc_shortest_of pm_shortest_of cd_shortest_of ct_shortest_of : Value}  (a_shortest_of : PySem.W.nsIn K mainGlobals "shortest_of" = some (some (.ref f_shortest_of))) (l_shortest_of : K.lookup f_shortest_of = some ⟨oc_shortest_of, od_shortest_of, .func (PySem.W.fnOf "shortest_of" "shortest_of" (defArgs st_shortest_of) (defBody st_shortest_of) (defScope st_shortest_of) .none kV_shortest_of dc_shortest_of pm_shortest_of an_shortest_of cd_shortest_of ct_shortest_of), sl_shortest_of⟩) (c_shortest_of : PySem.W.codeIn K cd_shortest_of "shortest_of" = true) (k_shortest_of : PySem.W.keepIn K (.ref f_shortest_of) = true)
 {f__law_pool : Addr} {od__law_pool an__law_pool : Option Addr} {sl__law_pool : Array (Option Value)} {oc__law_pool kV__law_pool dc__law_pool pm__law_pool cd__law_pool ct__law_pool : Value}  (a__law_pool : PySem.W.nsIn K mainGlobals "_law_pool" = some (some (.ref f__law_pool))) (l__law_pool : K.lookup f__law_pool = some ⟨oc__law_pool, od__law_pool, .func (PySem.W.fnOf "_law_pool" "_law_pool" (defArgs st__law_pool) (defBody st__law_pool) (defScope st__law_pool) .none kV__law_pool dc__law_pool pm__law_pool an__law_pool cd__law_pool ct__law_pool), sl__law_pool⟩) (c__law_pool : PySem.W.codeIn K cd__law_pool "_law_pool" = true) (k__law_pool : PySem.W.keepIn K (.ref f__law_pool) = true)
 {f__law_take : Addr} {od__law_take an__law_take : Option Addr} {sl__law_take : Array (Option Value)} {oc__law_take kV__law_take dc__law_take pm__law_take cd__law_take ct__law_take : Value}  (a__law_take : PySem.W.nsIn K mainGlobals "_law_take" = some (some (.ref f__law_take))) (l__law_take : K.lookup f__law_take = some ⟨oc__law_take, od__law_take, .func (PySem.W.fnOf "_law_take" "_law_take" (defArgs st__law_take) (defBody st__law_take) (defScope st__law_take) .none kV__law_take dc__law_take pm__law_take an__law_take cd__law_take ct__law_take), sl__law_take⟩) (c__law_take : PySem.W.codeIn K cd__law_take "_law_take" = true) (k__law_take : PySem.W.keepIn K (.ref f__law_take) = true)
 {f__law_runs : Addr} {od__law_runs an__law_runs : Option Addr} {sl__law_runs : Array (Option Value)} {oc__law_runs kV__law_runs dc__law_runs pm__law_runs cd__law_runs ct__law_runs : Value}  (a__law_runs : PySem.W.nsIn K mainGlobals "_law_runs" = some (some (.ref f__law_runs))) (l__law_runs : K.lookup f__law_runs = some ⟨oc__law_runs, od__law_runs, .func (PySem.W.fnOf "_law_runs" "_law_runs" (defArgs st__law_runs) (defBody st__law_runs) (defScope st__law_runs) .none kV__law_runs dc__law_runs pm__law_runs an__law_runs cd__law_runs ct__law_runs), sl__law_runs⟩) (c__law_runs : PySem.W.codeIn K cd__law_runs "_law_runs" = true) (k__law_runs : PySem.W.keepIn K (.ref f__law_runs) = true)
 {f__law_joined : Addr} {od__law_joined an__law_joined : Option Addr} {sl__law_joined : Array (Option Value)} {oc__law_joined kV__law_joined dc__law_joined pm__law_joined cd__law_joined ct__law_joined : Value}  (a__law_joined : PySem.W.nsIn K mainGlobals "_law_joined" = some (some (.ref f__law_joined))) (l__law_joined : K.lookup f__law_joined = some ⟨oc__law_joined, od__law_joined, .func (PySem.W.fnOf "_law_joined" "_law_joined" (defArgs st__law_joined) (defBody st__law_joined) (defScope st__law_joined) .none kV__law_joined dc__law_joined pm__law_joined an__law_joined cd__law_joined ct__law_joined), sl__law_joined⟩) (c__law_joined : PySem.W.codeIn K cd__law_joined "_law_joined" = true) (k__law_joined : PySem.W.keepIn K (.ref f__law_joined) = true)
 {f_is_count : Addr} {od_is_count an_is_count : Option Addr} {sl_is_count : Array (Option Value)} {oc_is_count kV_is_count dc_is_count pm_is_count cd_is_count ct_is_count : Value}  (a_is_count : PySem.W.nsIn K mainGlobals "is_count" = some (some (.ref f_is_count))) (l_is_count : K.lookup f_is_count = some ⟨oc_is_count, od_is_count, .func (PySem.W.fnOf "is_count" "is_count" (defArgs st_is_count) (defBody st_is_count) (defScope st_is_count) .none kV_is_count dc_is_count pm_is_count an_is_count cd_is_count ct_is_count), sl_is_count⟩) (c_is_count : PySem.W.codeIn K cd_is_count "is_count" = true) (k_is_count : PySem.W.keepIn K (.ref f_is_count) = true)
 {f_is_pair : Addr} {od_is_pair an_is_pair : Option Addr} {sl_is_pair : Array (Option Value)} {oc_is_pair kV_is_pair dc_is_pair pm_is_pair cd_is_pair ct_is_pair : Value}  (a_is_pair : PySem.W.nsIn K mainGlobals "is_pair" = some (some (.ref f_is_pair))) (l_is_pair : K.lookup f_is_pair = some ⟨oc_is_pair, od_is_pair, .func (PySem.W.fnOf "is_pair" "is_pair" (defArgs st_is_pair) (defBody st_is_pair) (defScope st_is_pair) .none kV_is_pair dc_is_pair pm_is_pair an_is_pair cd_is_pair ct_is_pair), sl_is_pair⟩) (c_is_pair : PySem.W.codeIn K cd_is_pair "is_pair" = true) (k_is_pair : PySem.W.keepIn K (.ref f_is_pair) = true)
 {f__law_effect : Addr} {od__law_effect an__law_effect : Option Addr} {sl__law_effect : Array (Option Value)} {oc__law_effect kV__law_effect dc__law_effect pm__law_effect cd__law_effect ct__law_effect : Value}  (a__law_effect : PySem.W.nsIn K mainGlobals "_law_effect" = some (some (.ref f__law_effect))) (l__law_effect : K.lookup f__law_effect = some ⟨oc__law_effect, od__law_effect, .func (PySem.W.fnOf "_law_effect" "_law_effect" (defArgs st__law_effect) (defBody st__law_effect) (defScope st__law_effect) .none kV__law_effect dc__law_effect pm__law_effect an__law_effect cd__law_effect ct__law_effect), sl__law_effect⟩) (c__law_effect : PySem.W.codeIn K cd__law_effect "_law_effect" = true) (k__law_effect : PySem.W.keepIn K (.ref f__law_effect) = true)
 {f__law_shuffled : Addr} {od__law_shuffled an__law_shuffled : Option Addr} {sl__law_shuffled : Array (Option Value)} {oc__law_shuffled kV__law_shuffled dc__law_shuffled pm__law_shuffled cd__law_shuffled ct__law_shuffled : Value}  (a__law_shuffled : PySem.W.nsIn K mainGlobals "_law_shuffled" = some (some (.ref f__law_shuffled))) (l__law_shuffled : K.lookup f__law_shuffled = some ⟨oc__law_shuffled, od__law_shuffled, .func (PySem.W.fnOf "_law_shuffled" "_law_shuffled" (defArgs st__law_shuffled) (defBody st__law_shuffled) (defScope st__law_shuffled) .none kV__law_shuffled dc__law_shuffled pm__law_shuffled an__law_shuffled cd__law_shuffled ct__law_shuffled), sl__law_shuffled⟩) (c__law_shuffled : PySem.W.codeIn K cd__law_shuffled "_law_shuffled" = true) (k__law_shuffled : PySem.W.keepIn K (.ref f__law_shuffled) = true)
 {f_is_run : Addr} {od_is_run an_is_run : Option Addr} {sl_is_run : Array (Option Value)} {oc_is_run kV_is_run dc_is_run pm_is_run cd_is_run ct_is_run : Value}  (a_is_run : PySem.W.nsIn K mainGlobals "is_run" = some (some (.ref f_is_run))) (l_is_run : K.lookup f_is_run = some ⟨oc_is_run, od_is_run, .func (PySem.W.fnOf "is_run" "is_run" (defArgs st_is_run) (defBody st_is_run) (defScope st_is_run) .none kV_is_run dc_is_run pm_is_run an_is_run cd_is_run ct_is_run), sl_is_run⟩) (c_is_run : PySem.W.codeIn K cd_is_run "is_run" = true) (k_is_run : PySem.W.keepIn K (.ref f_is_run) = true)
 {f_are_pairs : Addr} {od_are_pairs an_are_pairs : Option Addr} {sl_are_pairs : Array (Option Value)} {oc_are_pairs kV_are_pairs dc_are_pairs pm_are_pairs cd_are_pairs ct_are_pairs : Value}  (a_are_pairs : PySem.W.nsIn K mainGlobals "are_pairs" = some (some (.ref f_are_pairs))) (l_are_pairs : K.lookup f_are_pairs = some ⟨oc_are_pairs, od_are_pairs, .func (PySem.W.fnOf "are_pairs" "are_pairs" (defArgs st_are_pairs) (defBody st_are_pairs) (defScope st_are_pairs) .none kV_are_pairs dc_are_pairs pm_are_pairs an_are_pairs cd_are_pairs ct_are_pairs), sl_are_pairs⟩) (c_are_pairs : PySem.W.codeIn K cd_are_pairs "are_pairs" = true) (k_are_pairs : PySem.W.keepIn K (.ref f_are_pairs) = true)
 {f_is_stack : Addr} {od_is_stack an_is_stack : Option Addr} {sl_is_stack : Array (Option Value)} {oc_is_stack kV_is_stack dc_is_stack pm_is_stack cd_is_stack ct_is_stack : Value}  (a_is_stack : PySem.W.nsIn K mainGlobals "is_stack" = some (some (.ref f_is_stack))) (l_is_stack : K.lookup f_is_stack = some ⟨oc_is_stack, od_is_stack, .func (PySem.W.fnOf "is_stack" "is_stack" (defArgs st_is_stack) (defBody st_is_stack) (defScope st_is_stack) .none kV_is_stack dc_is_stack pm_is_stack an_is_stack cd_is_stack ct_is_stack), sl_is_stack⟩) (c_is_stack : PySem.W.codeIn K cd_is_stack "is_stack" = true) (k_is_stack : PySem.W.keepIn K (.ref f_is_stack) = true)
 {f_is_effect : Addr} {od_is_effect an_is_effect : Option Addr} {sl_is_effect : Array (Option Value)} {oc_is_effect kV_is_effect dc_is_effect pm_is_effect cd_is_effect ct_is_effect : Value}  (a_is_effect : PySem.W.nsIn K mainGlobals "is_effect" = some (some (.ref f_is_effect))) (l_is_effect : K.lookup f_is_effect = some ⟨oc_is_effect, od_is_effect, .func (PySem.W.fnOf "is_effect" "is_effect" (defArgs st_is_effect) (defBody st_is_effect) (defScope st_is_effect) .none kV_is_effect dc_is_effect pm_is_effect an_is_effect cd_is_effect ct_is_effect), sl_is_effect⟩) (c_is_effect : PySem.W.codeIn K cd_is_effect "is_effect" = true) (k_is_effect : PySem.W.keepIn K (.ref f_is_effect) = true)
 {f_check_effect : Addr} {od_check_effect an_check_effect : Option Addr} {sl_check_effect : Array (Option Value)} {oc_check_effect kV_check_effect dc_check_effect pm_check_effect cd_check_effect ct_check_effect : Value}  (a_check_effect : PySem.W.nsIn K mainGlobals "check_effect" = some (some (.ref f_check_effect))) (l_check_effect : K.lookup f_check_effect = some ⟨oc_check_effect, od_check_effect, .func (PySem.W.fnOf "check_effect" "check_effect" (defArgs st_check_effect) (defBody st_check_effect) (defScope st_check_effect) .none kV_check_effect dc_check_effect pm_check_effect an_check_effect cd_check_effect ct_check_effect), sl_check_effect⟩) (c_check_effect : PySem.W.codeIn K cd_check_effect "check_effect" = true) (k_check_effect : PySem.W.keepIn K (.ref f_check_effect) = true)
 {f_shortest : Addr} {od_shortest an_shortest : Option Addr} {sl_shortest : Array (Option Value)} {oc_shortest kV_shortest dc_shortest pm_shortest cd_shortest ct_shortest : Value}  (a_shortest : PySem.W.nsIn K mainGlobals "shortest" = some (some (.ref f_shortest))) (l_shortest : K.lookup f_shortest = some ⟨oc_shortest, od_shortest, .func (PySem.W.fnOf "shortest" "shortest" (defArgs st_shortest) (defBody st_shortest) (defScope st_shortest) .none kV_shortest dc_shortest pm_shortest an_shortest cd_shortest ct_shortest), sl_shortest⟩) (c_shortest : PySem.W.codeIn K cd_shortest "shortest" = true) (k_shortest : PySem.W.keepIn K (.ref f_shortest) = true)
 {f_steps_in : Addr} {od_steps_in an_steps_in : Option Addr} {sl_steps_in : Array (Option Value)} {oc_steps_in kV_steps_in dc_steps_in pm_steps_in cd_steps_in ct_steps_in : Value}  (a_steps_in : PySem.W.nsIn K mainGlobals "steps_in" = some (some (.ref f_steps_in))) (l_steps_in : K.lookup f_steps_in = some ⟨oc_steps_in, od_steps_in, .func (PySem.W.fnOf "steps_in" "steps_in" (defArgs st_steps_in) (defBody st_steps_in) (defScope st_steps_in) .none kV_steps_in dc_steps_in pm_steps_in an_steps_in cd_steps_in ct_steps_in), sl_steps_in⟩) (c_steps_in : PySem.W.codeIn K cd_steps_in "steps_in" = true) (k_steps_in : PySem.W.keepIn K (.ref f_steps_in) = true)
 {f_law : Addr} {od_law an_law : Option Addr} {sl_law : Array (Option Value)} {oc_law kV_law dc_law pm_law cd_law ct_law : Value}  (a_law : PySem.W.nsIn K mainGlobals "law" = some (some (.ref f_law))) (l_law : K.lookup f_law = some ⟨oc_law, od_law, .func (PySem.W.fnOf "law" "law" (defArgs st_law) (defBody st_law) (defScope st_law) .none kV_law dc_law pm_law an_law cd_law ct_law), sl_law⟩) (c_law : PySem.W.codeIn K cd_law "law" = true) (k_law : PySem.W.keepIn K (.ref f_law) = true)
 (z_abs : PySem.W.nsIn K mainGlobals "abs" = some none)
 (z_all : PySem.W.nsIn K mainGlobals "all" = some none)
 (z_bool : PySem.W.nsIn K mainGlobals "bool" = some none)
 (z_int : PySem.W.nsIn K mainGlobals "int" = some none)
 (z_isinstance : PySem.W.nsIn K mainGlobals "isinstance" = some none)
 (z_len : PySem.W.nsIn K mainGlobals "len" = some none)
 (z_list : PySem.W.nsIn K mainGlobals "list" = some none)
 (z_range : PySem.W.nsIn K mainGlobals "range" = some none)
 (z_sorted : PySem.W.nsIn K mainGlobals "sorted" = some none)
 (z_sum : PySem.W.nsIn K mainGlobals "sum" = some none)
 (z_tuple : PySem.W.nsIn K mainGlobals "tuple" = some none)
 (z_zip : PySem.W.nsIn K mainGlobals "zip" = some none)
 {t_POP : Tok} (g_POP : PySem.W.nsIn K mainGlobals "POP" = some (some (.str ("pop" : Str) t_POP)))
 {t_PUSH : Tok} (g_PUSH : PySem.W.nsIn K mainGlobals "PUSH" = some (some (.str ("push" : Str) t_PUSH)))
 {C_InvalidEffect f_InvalidEffect N_InvalidEffect SkylineErrorS_InvalidEffect : Addr} {nm_InvalidEffect q_InvalidEffect : Str} {bs_InvalidEffect : List Value} {sn_InvalidEffect : List Str} {sub_InvalidEffect : List Value} {ab_InvalidEffect : Bool} {col_InvalidEffect : Option Bool} {dd_InvalidEffect : Option Addr} {m0_InvalidEffect m1_InvalidEffect m2_InvalidEffect m3_InvalidEffect m5_InvalidEffect : Option Value} {od_InvalidEffect an_InvalidEffect : Option Addr} {sl_InvalidEffect : Array (Option Value)} {oc_InvalidEffect kV_InvalidEffect dc_InvalidEffect pm_InvalidEffect cd_InvalidEffect ct_InvalidEffect : Value} (a_InvalidEffect : PySem.W.nsIn K mainGlobals "InvalidEffect" = some (some (.ref C_InvalidEffect))) (x_InvalidEffect : K.lookup C_InvalidEffect = some (excClassObj nm_InvalidEffect q_InvalidEffect C_InvalidEffect N_InvalidEffect bs_InvalidEffect [.ref SkylineErrorS_InvalidEffect, .type "ValueError", .type "Exception", .type "BaseException", .type "object"] true sn_InvalidEffect sub_InvalidEffect ab_InvalidEffect col_InvalidEffect dd_InvalidEffect m0_InvalidEffect m1_InvalidEffect m2_InvalidEffect m3_InvalidEffect m5_InvalidEffect "ValueError.__new__")) (sa_InvalidEffect : PySem.W.findIn K (.ref C_InvalidEffect) "__setattr__" = some (some (.builtin "object.__setattr__"))) (nb_InvalidEffect : PySem.W.findIn K (.ref C_InvalidEffect) "value" = some none) (i_InvalidEffect : PySem.W.findIn K (.ref C_InvalidEffect) "__init__" = some (some (.ref f_InvalidEffect))) (t_InvalidEffect : PySem.W.typeIn K (.ref f_InvalidEffect) = some (.type "function")) (l_InvalidEffect : K.lookup f_InvalidEffect = some ⟨oc_InvalidEffect, od_InvalidEffect, .func (PySem.W.fnOf "__init__" "InvalidEffect.__init__" (defArgs st_InvalidEffect) (defBody st_InvalidEffect) (defScope st_InvalidEffect) .none kV_InvalidEffect dc_InvalidEffect pm_InvalidEffect an_InvalidEffect cd_InvalidEffect ct_InvalidEffect), sl_InvalidEffect⟩) (c_InvalidEffect : PySem.W.codeIn K cd_InvalidEffect "InvalidEffect.__init__" = true) (k_InvalidEffect : PySem.W.keepIn K (.ref f_InvalidEffect) = true) (kC_InvalidEffect : PySem.W.keepIn K (.ref C_InvalidEffect) = true) (e_InvalidEffect : PySem.W.subIn K (.ref C_InvalidEffect) (.type "BaseException") = some true) (tC_InvalidEffect : PySem.W.typeIn K (.ref C_InvalidEffect) = some (.type "type")) :
 ∃ fd : FuncData, (∀ (s : Shared) (v : Value), BindsTo s fd ⟨[v], []⟩ [("_law_script", v)]) ∧ ∀ base : Heap, K.In base → base.Ns mainGlobals mg → FD PySem.Challenge.rw_skylineeffect_k11_whole_shortest.prog w K mg base 8 fa fd ["_law_script"] m_law_k11 := by
  have e := hfa.symm.trans (PySem.W.mg_of X G a_law)
  cases e
  refine ⟨PySem.W.fnOf "law" "law" (defArgs st_law) (defBody st_law) (defScope st_law) .none kV_law dc_law pm_law an_law cd_law ct_law, fun s v => .of_eq rfl, fun base _ _ => ?_⟩
  have z_abs := PySem.W.mg_none_of X G z_abs
  have z_all := PySem.W.mg_none_of X G z_all
  have z_bool := PySem.W.mg_none_of X G z_bool
  have z_int := PySem.W.mg_none_of X G z_int
  have z_isinstance := PySem.W.mg_none_of X G z_isinstance
  have z_len := PySem.W.mg_none_of X G z_len
  have z_list := PySem.W.mg_none_of X G z_list
  have z_range := PySem.W.mg_none_of X G z_range
  have z_sorted := PySem.W.mg_none_of X G z_sorted
  have z_sum := PySem.W.mg_none_of X G z_sum
  have z_tuple := PySem.W.mg_none_of X G z_tuple
  have z_zip := PySem.W.mg_none_of X G z_zip
  have g_POP := PySem.W.mg_of X G g_POP
  have g_PUSH := PySem.W.mg_of X G g_PUSH
  have T_InvalidEffect : OexT K C_InvalidEffect := ⟨⟨_, _, nm_InvalidEffect, q_InvalidEffect, N_InvalidEffect, bs_InvalidEffect, _, sn_InvalidEffect, sub_InvalidEffect, ab_InvalidEffect, col_InvalidEffect, dd_InvalidEffect, m0_InvalidEffect, m1_InvalidEffect, m2_InvalidEffect, m3_InvalidEffect, m5_InvalidEffect, baseV, x_InvalidEffect, rfl⟩, sa_InvalidEffect, e_InvalidEffect, tC_InvalidEffect, kC_InvalidEffect⟩
  have F_InvalidEffect := fun_mk (st := st_InvalidEffect) l_InvalidEffect c_InvalidEffect k_InvalidEffect
  have H_InvalidEffect : ErrC PySem.Challenge.rw_skylineeffect_k11_whole_shortest.prog w K mg base 1 "InvalidEffect" := errC_of F_InvalidEffect sc_InvalidEffect T_InvalidEffect nb_InvalidEffect i_InvalidEffect t_InvalidEffect (F_InvalidEffect.binds (ps := ["self", "value"]) fun _ _ _ _ _ _ us hl => match us, hl with | [_, _], _ => rfl) (PySem.W.mg_of X G a_InvalidEffect) fun cdv A outer s H E => pss_one (ps_ost1 (pv 0) (pv 1))
  have F_is_integer := fun_mk (st := st_is_integer) l_is_integer c_is_integer k_is_integer
  have D_is_integer : Def K mg "is_integer" st_is_integer ["value"] _ _ := ⟨F_is_integer, PySem.W.mg_of X G a_is_integer, F_is_integer.binds (ps := ["value"]) fun _ _ _ _ _ _ us hl => match us, hl with | [_], _ => rfl⟩
  have H_is_integer := has_is_integer (P := PySem.Challenge.rw_skylineeffect_k11_whole_shortest.prog) (w := w) (base := base) D_is_integer z_bool z_int z_isinstance
  have F_length_of := fun_mk (st := st_length_of) l_length_of c_length_of k_length_of
  have D_length_of : Def K mg "length_of" st_length_of ["sequence"] _ _ := ⟨F_length_of, PySem.W.mg_of X G a_length_of, F_length_of.binds (ps := ["sequence"]) fun _ _ _ _ _ _ us hl => match us, hl with | [_], _ => rfl⟩
  have H_length_of := has_length_of (P := PySem.Challenge.rw_skylineeffect_k11_whole_shortest.prog) (w := w) (base := base) D_length_of z_sum
  have F_shortest_of := fun_mk (st := st_shortest_of) l_shortest_of c_shortest_of k_shortest_of
  have D_shortest_of : Def K mg "shortest_of" st_shortest_of ["effect"] _ _ := ⟨F_shortest_of, PySem.W.mg_of X G a_shortest_of, F_shortest_of.binds (ps := ["effect"]) fun _ _ _ _ _ _ us hl => match us, hl with | [_], _ => rfl⟩
  have H_shortest_of := has_shortest_of (P := PySem.Challenge.rw_skylineeffect_k11_whole_shortest.prog) (w := w) (base := base) D_shortest_of z_zip g_POP g_PUSH
  have F__law_pool := fun_mk (st := st__law_pool) l__law_pool c__law_pool k__law_pool
  have D__law_pool : Def K mg "_law_pool" st__law_pool ["_law_script", "_law_k"] _ _ := ⟨F__law_pool, PySem.W.mg_of X G a__law_pool, F__law_pool.binds (ps := ["_law_script", "_law_k"]) fun _ _ _ _ _ _ us hl => match us, hl with | [_, _], _ => rfl⟩
  have H__law_pool := has__law_pool (P := PySem.Challenge.rw_skylineeffect_k11_whole_shortest.prog) (w := w) (base := base) D__law_pool z_abs z_int z_len
  have F__law_take := fun_mk (st := st__law_take) l__law_take c__law_take k__law_take
  have D__law_take : Def K mg "_law_take" st__law_take ["_law_pool_here", "_law_wide"] _ _ := ⟨F__law_take, PySem.W.mg_of X G a__law_take, F__law_take.binds (ps := ["_law_pool_here", "_law_wide"]) fun _ _ _ _ _ _ us hl => match us, hl with | [_, _], _ => rfl⟩
  have H__law_take := has__law_take (P := PySem.Challenge.rw_skylineeffect_k11_whole_shortest.prog) (w := w) (base := base) D__law_take 
  have F__law_runs := fun_mk (st := st__law_runs) l__law_runs c__law_runs k__law_runs
  have D__law_runs : Def K mg "_law_runs" st__law_runs ["_law_row"] _ _ := ⟨F__law_runs, PySem.W.mg_of X G a__law_runs, F__law_runs.binds (ps := ["_law_row"]) fun _ _ _ _ _ _ us hl => match us, hl with | [_], _ => rfl⟩
  have H__law_runs := has__law_runs (P := PySem.Challenge.rw_skylineeffect_k11_whole_shortest.prog) (w := w) (base := base) D__law_runs z_tuple
  have F__law_joined := fun_mk (st := st__law_joined) l__law_joined c__law_joined k__law_joined
  have D__law_joined : Def K mg "_law_joined" st__law_joined ["_law_steps"] _ _ := ⟨F__law_joined, PySem.W.mg_of X G a__law_joined, F__law_joined.binds (ps := ["_law_steps"]) fun _ _ _ _ _ _ us hl => match us, hl with | [_], _ => rfl⟩
  have H__law_joined := has__law_joined (P := PySem.Challenge.rw_skylineeffect_k11_whole_shortest.prog) (w := w) (base := base) D__law_joined 
  have F_is_count := fun_mk (st := st_is_count) l_is_count c_is_count k_is_count
  have D_is_count : Def K mg "is_count" st_is_count ["value"] _ _ := ⟨F_is_count, PySem.W.mg_of X G a_is_count, F_is_count.binds (ps := ["value"]) fun _ _ _ _ _ _ us hl => match us, hl with | [_], _ => rfl⟩
  have H_is_count := has_is_count (P := PySem.Challenge.rw_skylineeffect_k11_whole_shortest.prog) (w := w) (base := base) D_is_count H_is_integer
  have F_is_pair := fun_mk (st := st_is_pair) l_is_pair c_is_pair k_is_pair
  have D_is_pair : Def K mg "is_pair" st_is_pair ["value"] _ _ := ⟨F_is_pair, PySem.W.mg_of X G a_is_pair, F_is_pair.binds (ps := ["value"]) fun _ _ _ _ _ _ us hl => match us, hl with | [_], _ => rfl⟩
  have H_is_pair := has_is_pair (P := PySem.Challenge.rw_skylineeffect_k11_whole_shortest.prog) (w := w) (base := base) D_is_pair H_is_integer z_isinstance z_len z_tuple
  have F__law_effect := fun_mk (st := st__law_effect) l__law_effect c__law_effect k__law_effect
  have D__law_effect : Def K mg "_law_effect" st__law_effect ["_law_steps"] _ _ := ⟨F__law_effect, PySem.W.mg_of X G a__law_effect, F__law_effect.binds (ps := ["_law_steps"]) fun _ _ _ _ _ _ us hl => match us, hl with | [_], _ => rfl⟩
  have H__law_effect := has__law_effect (P := PySem.Challenge.rw_skylineeffect_k11_whole_shortest.prog) (w := w) (base := base) D__law_effect H__law_runs z_range z_sorted z_tuple
  have F__law_shuffled := fun_mk (st := st__law_shuffled) l__law_shuffled c__law_shuffled k__law_shuffled
  have D__law_shuffled : Def K mg "_law_shuffled" st__law_shuffled ["_law_pool_here", "_law_some"] _ _ := ⟨F__law_shuffled, PySem.W.mg_of X G a__law_shuffled, F__law_shuffled.binds (ps := ["_law_pool_here", "_law_some"]) fun _ _ _ _ _ _ us hl => match us, hl with | [_, _], _ => rfl⟩
  have H__law_shuffled := has__law_shuffled (P := PySem.Challenge.rw_skylineeffect_k11_whole_shortest.prog) (w := w) (base := base) D__law_shuffled H__law_take z_len z_list
  have F_is_run := fun_mk (st := st_is_run) l_is_run c_is_run k_is_run
  have D_is_run : Def K mg "is_run" st_is_run ["value"] _ _ := ⟨F_is_run, PySem.W.mg_of X G a_is_run, F_is_run.binds (ps := ["value"]) fun _ _ _ _ _ _ us hl => match us, hl with | [_], _ => rfl⟩
  have H_is_run := has_is_run (P := PySem.Challenge.rw_skylineeffect_k11_whole_shortest.prog) (w := w) (base := base) D_is_run H_is_integer H_is_count z_isinstance z_len z_tuple
  have F_are_pairs := fun_mk (st := st_are_pairs) l_are_pairs c_are_pairs k_are_pairs
  have D_are_pairs : Def K mg "are_pairs" st_are_pairs ["value"] _ _ := ⟨F_are_pairs, PySem.W.mg_of X G a_are_pairs, F_are_pairs.binds (ps := ["value"]) fun _ _ _ _ _ _ us hl => match us, hl with | [_], _ => rfl⟩
  have H_are_pairs := has_are_pairs (P := PySem.Challenge.rw_skylineeffect_k11_whole_shortest.prog) (w := w) (base := base) D_are_pairs H_is_pair z_all z_isinstance z_list z_tuple z_zip
  have F_is_stack := fun_mk (st := st_is_stack) l_is_stack c_is_stack k_is_stack
  have D_is_stack : Def K mg "is_stack" st_is_stack ["value"] _ _ := ⟨F_is_stack, PySem.W.mg_of X G a_is_stack, F_is_stack.binds (ps := ["value"]) fun _ _ _ _ _ _ us hl => match us, hl with | [_], _ => rfl⟩
  have H_is_stack := has_is_stack (P := PySem.Challenge.rw_skylineeffect_k11_whole_shortest.prog) (w := w) (base := base) D_is_stack H_is_run z_all z_isinstance z_tuple z_zip
  have F_is_effect := fun_mk (st := st_is_effect) l_is_effect c_is_effect k_is_effect
  have D_is_effect : Def K mg "is_effect" st_is_effect ["value"] _ _ := ⟨F_is_effect, PySem.W.mg_of X G a_is_effect, F_is_effect.binds (ps := ["value"]) fun _ _ _ _ _ _ us hl => match us, hl with | [_], _ => rfl⟩
  have H_is_effect := has_is_effect (P := PySem.Challenge.rw_skylineeffect_k11_whole_shortest.prog) (w := w) (base := base) D_is_effect H_are_pairs H_is_integer H_is_stack z_isinstance z_len z_tuple
  have F_check_effect := fun_mk (st := st_check_effect) l_check_effect c_check_effect k_check_effect
  have D_check_effect : Def K mg "check_effect" st_check_effect ["value"] _ _ := ⟨F_check_effect, PySem.W.mg_of X G a_check_effect, F_check_effect.binds (ps := ["value"]) fun _ _ _ _ _ _ us hl => match us, hl with | [_], _ => rfl⟩
  have H_check_effect := has_check_effect (P := PySem.Challenge.rw_skylineeffect_k11_whole_shortest.prog) (w := w) (base := base) D_check_effect H_is_effect H_InvalidEffect
  have F_shortest := fun_mk (st := st_shortest) l_shortest c_shortest k_shortest
  have D_shortest : Def K mg "shortest" st_shortest ["effect"] _ _ := ⟨F_shortest, PySem.W.mg_of X G a_shortest, F_shortest.binds (ps := ["effect"]) fun _ _ _ _ _ _ us hl => match us, hl with | [_], _ => rfl⟩
  have H_shortest := has_shortest (P := PySem.Challenge.rw_skylineeffect_k11_whole_shortest.prog) (w := w) (base := base) D_shortest H_check_effect H_shortest_of
  have F_steps_in := fun_mk (st := st_steps_in) l_steps_in c_steps_in k_steps_in
  have D_steps_in : Def K mg "steps_in" st_steps_in ["effect"] _ _ := ⟨F_steps_in, PySem.W.mg_of X G a_steps_in, F_steps_in.binds (ps := ["effect"]) fun _ _ _ _ _ _ us hl => match us, hl with | [_], _ => rfl⟩
  have H_steps_in := has_steps_in (P := PySem.Challenge.rw_skylineeffect_k11_whole_shortest.prog) (w := w) (base := base) D_steps_in H_check_effect H_length_of H_shortest_of
  have F_law := fun_mk (st := st_law) l_law c_law k_law
  have D_law : Def K mg "law" st_law ["_law_script"] _ _ := ⟨F_law, PySem.W.mg_of X G a_law, F_law.binds (ps := ["_law_script"]) fun _ _ _ _ _ _ us hl => match us, hl with | [_], _ => rfl⟩
  exact fd_law (P := PySem.Challenge.rw_skylineeffect_k11_whole_shortest.prog) (w := w) (base := base) D_law H__law_pool H__law_shuffled H__law_effect H__law_joined H_shortest H_steps_in z_len z_range z_sorted
end Lk11
namespace Qa
open PySem PySem.Spec PyProof.Rows L2 Evl Mi Pg Pu
def kvT (F : List Ef) : List (D × D) := F.map fun e => (effE e, PyData.bool true)
def addT : List Ef → Ef → List Ef
  | [], e => [e]
  | f :: F, e => if f = e then f :: F else f :: addT F e
theorem val_kvT (e : Ef) : ∀ F : List Ef, (valD (kvT F) (effE e)).isSome = decide (e ∈ F)
  | [] => by simp [kvT, valD]
  | f :: F => by
    show (valD ((effE f, PyData.bool true) :: kvT F) (effE e)).isSome = _
    unfold valD
    by_cases h : f = e
    · rw [if_pos (kEq_eff.mpr h), h]; simp
    · rw [if_neg fun z => h (kEq_eff.mp z), val_kvT e F]
      have : ¬ e = f := fun z => h z.symm
      simp [this]
theorem put_kvT (e : Ef) : ∀ F : List Ef, putD (kvT F) (effE e) (.bool true) = kvT (addT F e)
  | [] => rfl
  | f :: F => by
    show putD ((effE f, PyData.bool true) :: kvT F) (effE e) _ = _
    unfold putD addT
    by_cases h : f = e
    · rw [if_pos (kEq_eff.mpr h), if_pos h]; rfl
    · rw [if_neg fun z => h (kEq_eff.mp z), if_neg h]
      show _ :: _ = (effE f, PyData.bool true) :: kvT _
      rw [put_kvT e F]
theorem mem_addT (e x : Ef) : ∀ F : List Ef, x ∈ addT F e ↔ x = e ∨ x ∈ F
  | [] => by simp [addT]
  | f :: F => by
    unfold addT
    split
    · rename_i h
      rw [h]
      simp
    · rw [List.mem_cons, mem_addT e x F, List.mem_cons]
      constructor
      · rintro (h | h | h)
        · exact .inr (.inl h)
        · exact .inl h
        · exact .inr (.inr h)
      · rintro (h | h | h)
        · exact .inr (.inl h)
        · exact .inl h
        · exact .inr (.inr h)
theorem len_addT (e : Ef) : ∀ F : List Ef, (addT F e).length ≤ F.length + 1
  | [] => Nat.le_refl _
  | f :: F => by
    unfold addT
    split
    · exact Nat.le_succ _
    · have := len_addT e F
      rw [List.length_cons, List.length_cons]; omega
theorem val_has (e : Ef) : ∀ l : Kv, e ∈ l.map (·.1) → valD (kvD l) (effE e) = some (.int (getE l e : Int))
  | p :: r, h => by
    show valD ((effE p.1, PyData.int (p.2 : Int)) :: kvD r) (effE e) = _
    unfold valD getE
    by_cases q : p.1 = e
    · rw [if_pos (kEq_eff.mpr q), if_pos q]
    · rw [if_neg fun z => q (kEq_eff.mp z), if_neg q]
      rw [List.map_cons, List.mem_cons] at h
      exact val_has e r (h.resolve_left fun z => q z.symm)
theorem get_absent (e : Ef) : ∀ l : Kv, e ∉ l.map (·.1) → getE l e = 0
  | [], _ => rfl
  | p :: r, h => by
    rw [List.map_cons, List.mem_cons, not_or] at h
    unfold getE
    rw [if_neg fun z => h.1 z.symm]
    exact get_absent e r h.2
theorem get_add (e : Ef) (m : Nat) : ∀ l : Kv, getE (addE l e m) e = getE l e + m
  | [] => by simp [addE, getE]
  | p :: r => by
    unfold addE
    by_cases q : p.1 = e
    · rw [if_pos q]
      unfold getE
      rw [if_pos q, if_pos q]
    · rw [if_neg q]
      unfold getE
      rw [if_neg q, if_neg q]
      exact get_add e m r
theorem add_in (e : Ef) (m : Nat) : ∀ l : Kv, e ∈ (addE l e m).map (·.1)
  | [] => by simp [addE]
  | p :: r => by
    unfold addE
    by_cases q : p.1 = e
    · rw [if_pos q]; simp [q]
    · rw [if_neg q, List.map_cons]; exact List.mem_cons_of_mem _ (add_in e m r)
theorem add_keep (e x : Ef) (m : Nat) : ∀ l : Kv, x ∈ l.map (·.1) → x ∈ (addE l e m).map (·.1)
  | p :: r, h => by
    unfold addE
    rw [List.map_cons, List.mem_cons] at h
    by_cases q : p.1 = e
    · rw [if_pos q, List.map_cons, List.mem_cons]; exact h
    · rw [if_neg q, List.map_cons, List.mem_cons]
      exact h.imp id fun z => add_keep e x m r z
theorem add_ones (e : Ef) : ∀ l : Kv, e ∉ l.map (·.1) → (∀ p ∈ l, p.2 = 1) → ∀ p ∈ addE l e 1, p.2 = 1
  | [], _, _, p, hp => by rw [List.mem_singleton.mp hp]
  | q :: r, h, ho, p, hp => by
    rw [List.map_cons, List.mem_cons, not_or] at h
    unfold addE at hp
    rw [if_neg fun z => h.1 z.symm] at hp
    rcases List.mem_cons.mp hp with rfl | hp
    · exact ho _ List.mem_cons_self
    · exact add_ones e r h.2 (fun x hx => ho x (List.mem_cons_of_mem _ hx)) p hp
structure Fresh (l : Kv) (ws : List (List Stp)) : Prop where
  one : ∀ p ∈ l, p.2 = 1
  sub : ∀ e ∈ l.map (·.1), ∃ w ∈ ws, effL w = e
  all : ∀ w ∈ ws, effL w ∈ l.map (·.1)
  len : l.length ≤ ws.length
section
variable (S0 S1 S2 : Sl) (A : List Stp) (hA : ∀ s ∈ A, s.cnt = 1) (hA4 : A.length ≤ 10)
abbrev g11 (S0 S1 S2 : Sl) (A : List Stp) (c3 : Bool) (s4 : Sl) (F : List Ef) (s6 : Sl) (lt : List (List Stp)) (l : Kv) (s9 s10 s11 : Sl) : Ga :=
  [S0, S1, S2, sl3 c3 (A.map Stp.d), s4, .own (.o false (.dct (kvT F))) [], s6, .own false (lt.map wD), .own (.o false (.dct (kvD l))) [], s9, s10, s11, .un, .un]
theorem old11 (c3 : Bool) (s4 s6 s10 s11 : Sl) {F : List Ef} (lt : List (List Stp)) (l : Kv) {w : List Stp} (p : Pl w) (hl : w.length ≤ 90) (hF : effL w ∈ F) :
    l3b_law_k11 (g11 S0 S1 S2 A c3 s4 F s6 lt l (.d (wD w)) s10 s11) = .ok (g11 S0 S1 S2 A c3 s4 F s6 lt l (.d (wD w)) (.d (effE (effL w))) s11, .nx) := by
  have ef := law_effect_ok (x := wD w) (.inl rfl) (fun t ht => by rw [p t ht]; omega) hl
  have k := key_eff (effL w)
  have v := val_kvT (effL w) F
  rw [decide_eq_true hF, Option.isSome_iff_exists] at v
  obtain ⟨d, v⟩ := v
  unfold g11
  generalize effE (effL w) = E at *
  generalize wD w = W at *
  generalize kvT F = KF at *
  generalize lt.map wD = LT at *
  generalize sl3 c3 (A.map Stp.d) = S3 at *
  simp [l3b_law_k11, ef, k, v]
include hA4 in
theorem new11 (c3 : Bool) (s4 s6 s10 s11 : Sl) {F : List Ef} {lt : List (List Stp)} (hlt : lt.length ≤ 100000) {l : Kv} (hll : l.length ≤ 100000) {w : List Stp} (p : Pl w) (hl : w.length ≤ 90) (hi : Irr w) (hF : effL w ∉ F) (hn : effL w ∉ l.map (·.1)) (hs : Small 90 (effL w)) :
    l3b_law_k11 (g11 S0 S1 S2 A c3 s4 F s6 lt l (.d (wD w)) s10 s11) = .ok (g11 S0 S1 S2 A false s4 F s6 (lt ++ extW A w) (addE l (effL w) 1) (.d (wD w)) (.d (effE (effL w))) s11, .nx) := by
  have ef := law_effect_ok (x := wD w) (.inl rfl) (fun t ht => by rw [p t ht]; omega) hl
  have k := key_eff (effL w)
  have v := val_kvT (effL w) F
  rw [decide_eq_false hF] at v
  replace v : valD (kvT F) (effE (effL w)) = none := by simpa using v
  have g := val_kvD (effL w) l
  have pt := put_kvD (effL w) 1 l
  have ix := val_has (effL w) (addE l (effL w) 1) (add_in _ _ _)
  rw [get_add, get_absent _ _ hn] at ix
  rw [get_absent _ _ hn] at g pt
  have c1 := check_small hs (by decide)
  have so := shortest_of_ok (e := effL w) (Nat.le_trans hs.p (by decide)) (Nat.le_trans hs.r (by decide))
  have sh : m_shortest [.d (effE (effL w))] = .ok ([.d (effE (effL w))], .f ((shL (effL w)).map Stp.d)) := by
    generalize effE (effL w) = E at *
    simp [m_shortest, b_shortest, c1, so]
  have jn := joined11_ok (w := w) (by omega)
  rw [jn_irr p hi] at jn
  have si := steps_in_ok (e := effL w) hs.v (Nat.le_trans hs.p (by decide)) (Nat.le_trans hs.r (by decide))
  rw [← irr_nf _ w rfl p hi] at si
  have n1 : neS (.list ((shL (effL w)).map Stp.d)) (.list ((shL (effL w)).map Stp.d)) = .ok (.d (.bool false)) := by
    refine (neS_fl (p := True) ?_ ?_ (by simp)).trans (by simp)
    · rw [fl_lst]; exact flAll_map fun p _ => fl_stp
    · rw [fl_lst]; exact flAll_map fun p _ => fl_stp
  have n2 : neS (.int (w.length : Int)) (.int (w.length : Int)) = .ok (.d (.bool false)) := neS_same (by simp)
  have e1 : eqS (.int 1) (.int 1) = .ok (.d (.bool true)) := eqS_same (by simp)
  have l2 : ∀ (G5 G7 G8 G10 : Sl), l2_law_k11 [S0, S1, S2, sl3 c3 (A.map Stp.d), s4, G5, s6, G7, G8, .d (wD w), G10, s11, .un, .un] = .ok ([S0, S1, S2, sl3 false (A.map Stp.d), s4, G5, s6, G7, G8, .d (wD w), G10, s11, .un, .un], .f ((extW A w).map wD)) := fun G5 G7 G8 G10 => by
    have := sLc_map (it := sIt iterA (sName 3)) (g := gN 13) (te := sPub (sBin addG (sName 9) (sPub (sLst (sCons (sName 13) sNil))))) (vs := [13]) Stp.d (fun s => wD (w ++ [s])) (Γ := [S0, S1, S2, .d (.list (A.map Stp.d)), s4, G5, s6, G7, G8, .d (wD w), G10, s11, .un, .un]) (xs := A) (by simp) rfl
      (fun s _ => ⟨[S0, S1, S2, .d (.list (A.map Stp.d)), s4, G5, s6, G7, G8, .d (wD w), G10, s11, .un, .d s.d], rfl, by
        have kk : (w.map Stp.d).length + 1 ≤ 16777216 := by rw [List.length_map]; omega
        have e : wD (w ++ [s]) = .list (w.map Stp.d ++ [s.d]) := by unfold wD; rw [List.map_append]; rfl
        rw [e]
        unfold wD
        generalize w.map Stp.d = W at *
        generalize A.map Stp.d = AD at *
        simp [kk], rfl⟩) (by omega)
    unfold extW
    rw [List.map_map]
    show _ = Res.ok (_, R.f (A.map fun s => wD (w ++ [s])))
    rw [show ([S0, S1, S2, sl3 false (A.map Stp.d), s4, G5, s6, G7, G8, .d (wD w), G10, s11, .un, .un] : Ga) = [S0, S1, S2, .d (.list (A.map Stp.d)), s4, G5, s6, G7, G8, .d (wD w), G10, s11, .un, .un] from rfl, ← this]
    unfold l2_law_k11 sLc
    generalize A.map Stp.d = AD at *
    cases c3 <;> simp [sl3]
  have kl : (lt.map wD).length + ((extW A w).map wD).length ≤ 16777216 := by
    unfold extW
    simp
    omega
  have hz : (kvD l).length < 16777216 := by rw [kvD, List.length_map]; omega
  have wl : (w.map Stp.d).length = w.length := List.length_map _
  have pt : putD (kvD l) (effE (effL w)) (.int 1) = kvD (addE l (effL w) 1) := pt
  have g : (valD (kvD l) (effE (effL w))).getD (.int 0) = .int 0 := g
  have ix : valD (kvD (addE l (effL w) 1)) (effE (effL w)) = some (.int 1) := ix
  have lw : lenG (wD w) = .ok (.d (.int w.length)) := by
    unfold wD
    rw [z_lenl, wl]
  unfold g11
  rw [List.map_append]
  generalize effE (effL w) = E at *
  generalize wD w = W at *
  generalize kvT F = KF at *
  generalize kvD (addE l (effL w) 1) = K2 at *
  generalize kvD l = K1 at *
  generalize (extW A w).map wD = X at *
  generalize lt.map wD = LT at *
  generalize sl3 c3 (A.map Stp.d) = S3 at *
  generalize sl3 false (A.map Stp.d) = S3' at *
  generalize (shL (effL w)).map Stp.d = SH at *
  simp [l3b_law_k11, ef, k, v, hz, g, pt, ix, svV, e1, sh, jn, si, n1, lw, n2, l2, kl]
theorem add_sub (e x : Ef) (m : Nat) : ∀ l : Kv, x ∈ (addE l e m).map (·.1) → x = e ∨ x ∈ l.map (·.1)
  | [], h => .inl (by simpa [addE] using h)
  | p :: r, h => by
    unfold addE at h
    by_cases q : p.1 = e
    · rw [if_pos q, List.map_cons, List.mem_cons] at h
      rw [List.map_cons, List.mem_cons]
      exact .inr h
    · rw [if_neg q, List.map_cons, List.mem_cons] at h
      rw [List.map_cons, List.mem_cons]
      rcases h with h | h
      · exact .inr (.inl h)
      · exact (add_sub e x m r h).imp id .inr
theorem addE_len (e : Ef) (m : Nat) : ∀ l : Kv, (addE l e m).length ≤ l.length + 1
  | [] => Nat.le_refl _
  | p :: r => by
    unfold addE
    split
    · exact Nat.le_succ _
    · have := addE_len e m r
      rw [List.length_cons, List.length_cons]; omega
theorem Fresh.add {l : Kv} {ws : List (List Stp)} (h : Fresh l ws) {w : List Stp} (hn : effL w ∉ l.map (·.1)) : Fresh (addE l (effL w) 1) (ws ++ [w]) where
  one := add_ones _ _ hn h.one
  sub := fun e he => by
    rcases add_sub _ _ _ _ he with rfl | he
    · exact ⟨w, by simp, rfl⟩
    · obtain ⟨v, hv, q⟩ := h.sub e he
      exact ⟨v, List.mem_append_left _ hv, q⟩
  all := fun v hv => by
    rcases List.mem_append.mp hv with hv | hv
    · exact add_keep _ _ _ _ (h.all v hv)
    · rw [List.mem_singleton.mp hv]; exact add_in _ _ _
  len := by
    have := addE_len (effL w) 1 l
    have := h.len
    rw [List.length_append]
    exact Nat.le_trans ‹_› (Nat.succ_le_succ this)
def Fnd (A : List Stp) (t : Nat) (F : List Ef) : Prop := ∀ e, e ∈ F ↔ ∃ s, s < t ∧ ∃ v ∈ irW A s, effL v = e
variable (hNd : A.Nodup)
include hA hA4 hNd
theorem row11 {t : Nat} (ht : t ≤ 5) {F : List Ef} (hF : Fnd A t F) (hz : A.length ^ (t + 1) ≤ 100000) (s4 s6 s11 : Sl) : ∀ (ws done : List (List Stp)) (c3 : Bool) (l : Kv) (s9 s10 : Sl), done ++ ws = levW A t → Fresh l (done.filter irb) →
    ∃ c s9' s10' l', Fresh l' (irW A t) ∧ forL (gN 9) l3b_law_k11 (ws.map wD) (g11 S0 S1 S2 A c3 s4 F s6 ((done.filter irb).flatMap (extW A)) l s9 s10 s11) = .ok (g11 S0 S1 S2 A c s4 F s6 (levW A (t + 1)) l' s9' s10' s11, .nx)
  | [], done, c3, l, s9, s10, hd, hf => by
    rw [List.append_nil] at hd
    subst hd
    exact ⟨c3, s9, s10, l, hf, rfl⟩
  | w :: ws, done, c3, l, s9, s10, hd, hf => by
    have hm : w ∈ levW A t := by rw [← hd]; simp
    obtain ⟨hl, hwm⟩ := lev_spec t w hm
    have p := lev_pl hA hm
    have hd' : (done ++ [w]) ++ ws = levW A t := by rw [← hd]; simp
    have oi := old_iff hA hm
    rw [← hF] at oi
    by_cases hi : Irr w
    · have nF : effL w ∉ F := fun z => oi.mp z hi
      have hn : effL w ∉ l.map (·.1) := fun z => by
        obtain ⟨v, hv, q⟩ := hf.sub _ z
        obtain ⟨hv1, hv2⟩ := List.mem_filter.mp hv
        have hvl : v ∈ levW A t := by rw [← hd]; exact List.mem_append_left _ hv1
        have := irr_uniq (lev_pl hA hvl) p (irb_iff.mp hv2) hi q
        subst this
        have nd := lev_nodup hNd t
        rw [← hd, List.nodup_append] at nd
        exact nd.2.2 v hv1 v List.mem_cons_self rfl
      have hfl : (done.filter irb ++ [w]) = (done ++ [w]).filter irb := by
        rw [List.filter_append, List.filter_cons_of_pos (irb_iff.mpr hi), List.filter_nil]
      have hlen : ((done ++ [w]).filter irb).length ≤ (levW A t).length := by
        rw [← hd', List.length_append]
        exact Nat.le_trans (List.length_filter_le _ _) (Nat.le_add_right _ _)
      have hll := lev_len (A := A) t
      have hdl : (done.filter irb).length ≤ A.length ^ t := by
        refine Nat.le_trans ?_ (Nat.le_trans hlen hll)
        rw [← hfl, List.length_append]; exact Nat.le_add_right _ _
      have hpow : A.length ^ t ≤ 100000 := by
        rcases Nat.eq_zero_or_pos A.length with z | z
        · rw [z]
          rcases Nat.eq_zero_or_pos t with y | y
          · rw [y]; decide
          · rw [Nat.zero_pow y]; omega
        · exact Nat.le_trans (Nat.pow_le_pow_right z (Nat.le_succ t)) hz
      have hlt : ((done.filter irb).flatMap (extW A)).length ≤ 100000 := by
        rw [flat_const _ A.length _ fun x _ => by simp [extW]]
        refine Nat.le_trans (Nat.mul_le_mul_right _ hdl) ?_
        rw [← Nat.pow_succ]; exact hz
      have one := new11 S0 S1 S2 A hA4 c3 s4 s6 s10 s11 hlt (Nat.le_trans hf.len (Nat.le_trans hdl hpow)) p (by omega) hi nF hn ((effL_steps p.one).up (by omega))
      have hf' := hf.add hn
      rw [hfl] at hf'
      obtain ⟨c, s9', s10', l', h1, e⟩ := row11 ht hF hz s4 s6 s11 ws (done ++ [w]) false (addE l (effL w) 1) (.d (wD w)) (.d (effE (effL w))) hd' hf'
      refine ⟨c, s9', s10', l', h1, ?_⟩
      rw [← hfl, List.flatMap_append, List.flatMap_cons, List.flatMap_nil, List.append_nil] at e
      rw [List.map_cons]
      exact (forL_nx (g := gN 9) (Γ1 := g11 S0 S1 S2 A c3 s4 F s6 ((done.filter irb).flatMap (extW A)) l (.d (wD w)) s10 s11) rfl one).trans e
    · have one := old11 S0 S1 S2 A c3 s4 s6 s10 s11 ((done.filter irb).flatMap (extW A)) l p (by omega) (oi.mpr hi)
      have hfl : (done ++ [w]).filter irb = done.filter irb := by
        rw [List.filter_append, List.filter_cons_of_neg (fun z => hi (irb_iff.mp z)), List.filter_nil, List.append_nil]
      have hf' := hf
      rw [← hfl] at hf'
      obtain ⟨c, s9', s10', l', h1, e⟩ := row11 ht hF hz s4 s6 s11 ws (done ++ [w]) c3 l (.d (wD w)) (.d (effE (effL w))) hd' hf'
      refine ⟨c, s9', s10', l', h1, ?_⟩
      rw [hfl] at e
      rw [List.map_cons]
      exact (forL_nx (g := gN 9) (Γ1 := g11 S0 S1 S2 A c3 s4 F s6 ((done.filter irb).flatMap (extW A)) l (.d (wD w)) s10 s11) rfl one).trans e
omit hA hA4 hNd in
theorem put11 (S3 s4 s6 s7 s8 s9 : Sl) : ∀ (l : Kv) (F : List Ef) (s10 s11 : Sl), (∀ p ∈ l, p.2 = 1) → F.length + l.length ≤ 1000000 →
    ∃ F' s10' s11', (∀ e, e ∈ F' ↔ e ∈ F ∨ e ∈ l.map (·.1)) ∧ F'.length ≤ F.length + l.length ∧ forL (gTup' (gCons' (gN 10) (gCons' (gN 11) gNil')) 2) l4b_law_k11 (pairsD (kvD l)) [S0, S1, S2, S3, s4, .own (.o false (.dct (kvT F))) [], s6, s7, s8, s9, s10, s11, .un, .un] = .ok ([S0, S1, S2, S3, s4, .own (.o false (.dct (kvT F'))) [], s6, s7, s8, s9, s10', s11', .un, .un], .nx)
  | [], F, s10, s11, _, _ => ⟨F, s10, s11, (fun e => by simp), Nat.le_refl _, rfl⟩
  | (e, m) :: l, F, s10, s11, ho, hl => by
    have hm : m = 1 := ho _ List.mem_cons_self
    subst hm
    rw [List.length_cons] at hl
    have la := len_addT e F
    obtain ⟨F', s10', s11', h1, h2, h3⟩ := put11 S3 s4 s6 s7 s8 s9 l (addT F e) (.d (effE e)) (.d (.int 1)) (fun p hp => ho p (List.mem_cons_of_mem _ hp)) (by omega)
    refine ⟨F', s10', s11', fun x => ?_, by rw [List.length_cons]; omega, ?_⟩
    · rw [h1, mem_addT, List.map_cons, List.mem_cons]
      constructor
      · rintro ((h | h) | h)
        · exact .inr (.inl h)
        · exact .inl h
        · exact .inr (.inr h)
      · rintro (h | h | h)
        · exact .inl (.inr h)
        · exact .inl (.inl h)
        · exact .inr h
    · have one : l4b_law_k11 [S0, S1, S2, S3, s4, .own (.o false (.dct (kvT F))) [], s6, s7, s8, s9, .d (effE e), .d (.int 1), .un, .un] = .ok ([S0, S1, S2, S3, s4, .own (.o false (.dct (kvT (addT F e)))) [], s6, s7, s8, s9, .d (effE e), .d (.int 1), .un, .un], .nx) := by
        have n1 : neS (.int 1) (.int 1) = .ok (.d (.bool false)) := neS_same (by simp)
        have pt := put_kvT e F
        have k := key_eff e
        have hz : (kvT F).length < 16777216 := by rw [kvT, List.length_map]; omega
        generalize effE e = E at *
        generalize kvT (addT F e) = F2 at *
        generalize kvT F = F1 at *
        simp [l4b_law_k11, n1, pt, k, hz, svV]
      exact (forL_nx (g := gTup' (gCons' (gN 10) (gCons' (gN 11) gNil')) 2) (Γ1 := [S0, S1, S2, S3, s4, .own (.o false (.dct (kvT F))) [], s6, s7, s8, s9, .d (effE e), .d (.int 1), .un, .un]) rfl one).trans h3
theorem turn11 {t : Nat} (ht : t ≤ 5) (hz : A.length ^ (t + 1) ≤ 100000) (hO : pO ∈ A) {F : List Ef} (hF : Fnd A t F) (hFl : F.length ≤ 100000 * t) {s4 : Sl} (h4 : LsOk s4 ((levW A t).map wD)) (c3 : Bool) (s6 s7 s8 s9 s10 s11 : Sl) :
    ∃ c F' s7' s8' s9' s10' s11', Fnd A (t + 1) F' ∧ F'.length ≤ 100000 * (t + 1) ∧ l5b_law_k11 [S0, S1, S2, sl3 c3 (A.map Stp.d), s4, .own (.o false (.dct (kvT F))) [], s6, s7, s8, s9, s10, s11, .un, .un] =
      .ok ([S0, S1, S2, sl3 c (A.map Stp.d), .d (.list ((levW A (t + 1)).map wD)), .own (.o false (.dct (kvT F'))) [], s6, s7', s8', s9', s10', s11', .un, .un], .nx) := by
  obtain ⟨c, s9', s10', l, hf, e3⟩ := row11 S0 S1 S2 A hA hA4 hNd ht hF hz (.d (.list ((levW A t).map wD))) s6 s11 (levW A t) [] c3 [] s9 s10 rfl ⟨(fun p hp => nomatch hp), (fun e he => nomatch he), (fun w hw => nomatch hw), Nat.le_refl _⟩
  have hll := lev_len (A := A) t
  have hpow : A.length ^ t ≤ 100000 := Nat.le_trans (Nat.pow_le_pow_right (List.length_pos_of_mem hO) (Nat.le_succ t)) hz
  have hl : l.length ≤ 100000 := Nat.le_trans hf.len (Nat.le_trans (List.length_filter_le _ _) (Nat.le_trans hll hpow))
  obtain ⟨F', s10'', s11'', h1, h2, e4⟩ := put11 S0 S1 S2 (sl3 c (A.map Stp.d)) (.d (.list ((levW A t).map wD))) s6 (.own false ((levW A (t + 1)).map wD)) (.d (.dict (kvD l))) s9' l F s10' s11 hf.one (by omega)
  have hrep : List.replicate t pO ∈ irW A t := ir_mem t _ (List.length_replicate ..) (fun s hs => by rw [List.eq_of_mem_replicate hs]; exact hO) (pops_irr t)
  obtain ⟨q, m, em⟩ : ∃ q m, l = q :: m := by
    have := hf.all _ hrep
    cases l with
    | nil => cases this
    | cons q m => exact ⟨q, m, rfl⟩
  refine ⟨c, F', .d (.list ((levW A (t + 1)).map wD)), .d (.dict (kvD l)), s9', s10'', s11'', fun e => ?_, by omega, ?_⟩
  · rw [h1, hF]
    constructor
    · rintro (⟨s, hs, h⟩ | h)
      · exact ⟨s, by omega, h⟩
      · obtain ⟨v, hv, q⟩ := hf.sub e h
        exact ⟨t, by omega, v, hv, q⟩
    · rintro ⟨s, hs, v, hv, q⟩
      rcases Nat.lt_or_ge s t with h | h
      · exact .inl ⟨s, h, v, hv, q⟩
      · have : s = t := by omega
        subst this
        rw [← q]
        exact .inr (hf.all v hv)
  · have e3' : l3_law_k11 [S0, S1, S2, sl3 c3 (A.map Stp.d), s4, .own (.o false (.dct (kvT F))) [], s6, .own false [], .own (.o false (.dct [])) [], s9, s10, s11, .un, .un] = .ok ([S0, S1, S2, sl3 c (A.map Stp.d), .d (.list ((levW A t).map wD)), .own (.o false (.dct (kvT F))) [], s6, .own false ((levW A (t + 1)).map wD), .own (.o false (.dct (kvD l))) [], s9', s10', s11, .un, .un], .nx) := by
      unfold l3_law_k11 sFor
      have e3 : forL (gN 9) l3b_law_k11 ((levW A t).map wD) [S0, S1, S2, sl3 c3 (A.map Stp.d), .d (.list ((levW A t).map wD)), .own (.o false (.dct (kvT F))) [], s6, .own false [], .own (.o false (.dct [])) [], s9, s10, s11, .un, .un] = .ok ([S0, S1, S2, sl3 c (A.map Stp.d), .d (.list ((levW A t).map wD)), .own (.o false (.dct (kvT F))) [], s6, .own false ((levW A (t + 1)).map wD), .own (.o false (.dct (kvD l))) [], s9', s10', s11, .un, .un], .nx) := e3
      generalize (levW A (t + 1)).map wD = W1 at *
      generalize (levW A t).map wD = W0 at *
      generalize sl3 c3 (A.map Stp.d) = S3 at *
      generalize sl3 c (A.map Stp.d) = S3' at *
      rcases h4 with rfl | rfl <;> (simp; exact e3)
    have e4' : l4_law_k11 [S0, S1, S2, sl3 c (A.map Stp.d), .d (.list ((levW A t).map wD)), .own (.o false (.dct (kvT F))) [], s6, .own false ((levW A (t + 1)).map wD), .own (.o false (.dct (kvD l))) [], s9', s10', s11, .un, .un] = .ok ([S0, S1, S2, sl3 c (A.map Stp.d), .d (.list ((levW A t).map wD)), .own (.o false (.dct (kvT F'))) [], s6, .own false ((levW A (t + 1)).map wD), .d (.dict (kvD l)), s9', s10'', s11'', .un, .un], .nx) := by
      unfold l4_law_k11 sFor
      have ek : kvD l = (effE q.1, PyData.int (q.2 : Int)) :: kvD m := by rw [em]; rfl
      generalize (levW A (t + 1)).map wD = W1 at *
      generalize (levW A t).map wD = W0 at *
      generalize sl3 c (A.map Stp.d) = S3' at *
      rw [ek] at e4 ⊢
      generalize (effE q.1, PyData.int (q.2 : Int)) = Q at *
      simp
      exact e4
    generalize (levW A (t + 1)).map wD = W1 at *
    generalize (levW A t).map wD = W0 at *
    generalize sl3 c3 (A.map Stp.d) = S3 at *
    generalize sl3 c (A.map Stp.d) = S3' at *
    simp [l5b_law_k11, e3', e4']
end
theorem law_k11_true (ns : List Int) (hn : ns.length ≤ 63) : ∃ Γ, m_law_k11 [.scr ns] = .ok (Γ, .d (.bool true)) := by
  obtain ⟨p, ep⟩ := pool01_ok ns 0 (by decide)
  have ep : m__law_pool_k01 [.scr ns, .d (.int 0)] = _ := ep
  obtain ⟨q, B, hB, es⟩ := shuffled_ok [-9, -2, 0, 1, 2, 7, 1000000000000000000000000000000] p (by decide)
  have lB : B.length = 7 := hB.length_eq
  have ndB : B.Nodup := hB.nodup_iff.mpr (by decide)
  have so := sort_ints (B.take 3) (by rw [List.length_take]; omega)
  generalize hN : (B.take 3).mergeSort leI = N at so
  have lN : N.length = 3 := by rw [← hN, List.length_mergeSort, List.length_take, lB]; rfl
  have ndN : N.Nodup := by
    rw [← hN]
    exact (List.mergeSort_perm _ _).nodup_iff.mpr (ndB.sublist (List.take_sublist 3 B))
  have cut : Mi.cutD (B.map PyData.int) none (some 3) = (B.take 3).map PyData.int := by
    rw [List.map_take]
    exact cut_take _ 3
  have l1 : l1_law_k11 [.scr ns, .own false (pl q), .own false (N.map .int), .un, .un, .un, .un, .un, .un, .un, .un, .un, .un, .un] = .ok ([.scr ns, .own false (pl q), .d (.list (N.map .int)), .un, .un, .un, .un, .un, .un, .un, .un, .un, .un, .un], .f ((N.map pP).map Stp.d)) := by
    have := sLc_map (it := sIt iterA (sName 2)) (g := gN 12) (te := sPub (sTup (sCons (sC (.str ("push" : Str))) (sCons (sName 12) (sCons (sC (.int 1)) sNil))))) (vs := [12]) PyData.int (fun n => (pP n).d) (Γ := [.scr ns, .own false (pl q), .d (.list (N.map .int)), .un, .un, .un, .un, .un, .un, .un, .un, .un, .un, .un]) (xs := N) (by simp) rfl
      (fun n _ => ⟨[.scr ns, .own false (pl q), .d (.list (N.map .int)), .un, .un, .un, .un, .un, .un, .un, .un, .un, .d (.int n), .un], rfl, by
        generalize N.map PyData.int = W at *
        simp [pP, Stp.d], rfl⟩) (by omega)
    rw [List.map_map]
    show _ = Res.ok (_, R.f (N.map fun n => (pP n).d))
    rw [← this]
    unfold l1_law_k11 sLc
    generalize N.map PyData.int = W at *
    simp
  have hA : ∀ s ∈ N.map pP ++ [pO], s.cnt = 1 := fun s hs => by
    rcases List.mem_append.mp hs with hs | hs
    · obtain ⟨n, _, rfl⟩ := List.mem_map.mp hs
      rfl
    · rw [List.mem_singleton.mp hs]; rfl
  have lA : (N.map pP ++ [pO]).length = 4 := by rw [List.length_append, List.length_map, lN]; rfl
  have nA : (N.map pP ++ [pO]).Nodup := by
    rw [List.nodup_append]
    refine ⟨List.Pairwise.map _ (fun a b hab e => hab (by injection e)) ndN, by simp, fun a ha b hb e => ?_⟩
    obtain ⟨n, _, rfl⟩ := List.mem_map.mp ha
    rw [List.mem_singleton.mp hb] at e
    cases e
  have eA : (N.map pP ++ [pO]).map Stp.d = (N.map pP).map Stp.d ++ [.tuple [.str "pop", .int 1]] := by rw [List.map_append]; rfl
  have lM : ((N.map pP).map Stp.d).length = 3 := by rw [List.length_map, List.length_map, lN]
  have hO : pO ∈ N.map pP ++ [pO] := by simp
  generalize (N.map pP).map Stp.d = M at *
  generalize N.map pP ++ [pO] = A at *
  have hz : ∀ t, t < 6 → A.length ^ (t + 1) ≤ 100000 := fun t ht => by
    rw [lA]
    exact Nat.le_trans (Nat.pow_le_pow_right (by decide) (show t + 1 ≤ 6 by omega)) (by decide)
  obtain ⟨Γ', e5, c, F, s4, s6, s7, s8, s9, s10, s11, rfl, hF, hFl, h4⟩ := forL_rel (g := gN 6) (b := l5b_law_k11)
    (fun t Γ => ∃ c F s4 s6 s7 s8 s9 s10 s11, Γ = [.scr ns, .own false (pl q), .d (.list (N.map .int)), sl3 c (A.map Stp.d), s4, .own (.o false (.dct (kvT F))) [], s6, s7, s8, s9, s10, s11, .un, .un] ∧ Fnd A t F ∧ F.length ≤ 100000 * t ∧ LsOk s4 ((levW A t).map wD)) (rangeD 0 6) 0
    [.scr ns, .own false (pl q), .d (.list (N.map .int)), sl3 true (A.map Stp.d), .own false [.list []], .own (.o false (.dct [])) [], .un, .un, .un, .un, .un, .un, .un, .un]
    ⟨true, [], .own false [.list []], .un, .un, .un, .un, .un, .un, rfl, (by intro e; exact ⟨(fun h => nomatch h), (fun ⟨s, h, _⟩ => absurd h (Nat.not_lt_zero _))⟩), Nat.zero_le _, .inl rfl⟩ (fun j x hx Γ ⟨c, F, s4, s6, s7, s8, s9, s10, s11, hΓ, hF, hFl, h4⟩ => by
      have hj : j < 6 := by
        have := (List.getElem?_eq_some_iff.mp hx).1
        simpa [rangeD] using this
      rw [Nat.zero_add] at hF hFl h4
      subst hΓ
      obtain ⟨c', F', s7', s8', s9', s10', s11', k1, k2, e⟩ := turn11 (.scr ns) (.own false (pl q)) (.d (.list (N.map .int))) A hA (by omega) nA (by omega) (hz j hj) hO hF hFl h4 c (.d x) s7 s8 s9 s10 s11
      refine ⟨_, _, rfl, e, c', F', _, _, _, _, _, _, _, rfl, ?_, ?_, .inr ?_⟩
      · rw [Nat.zero_add]; exact k1
      · rw [Nat.zero_add]; exact k2
      · rw [Nat.zero_add])
  have hr : rng1 [.int 6] = .ok (rangeD 0 6) := z_rng1 (k := 6) (by omega) (by omega)
  have e5' : l5_law_k11 [.scr ns, .own false (pl q), .d (.list (N.map .int)), .own false (A.map Stp.d), .own false [.list []], .own (.o false (.dct [])) [], .un, .un, .un, .un, .un, .un, .un, .un] = .ok ([.scr ns, .own false (pl q), .d (.list (N.map .int)), sl3 c (A.map Stp.d), s4, .own (.o false (.dct (kvT F))) [], s6, s7, s8, s9, s10, s11, .un, .un], .nx) := by
    have e5 : forL (gN 6) l5b_law_k11 (rangeD 0 6) [.scr ns, .own false (pl q), .d (.list (N.map .int)), .own false (A.map Stp.d), .own false [.list []], .own (.o false (.dct [])) [], .un, .un, .un, .un, .un, .un, .un, .un] = _ := e5
    unfold l5_law_k11 sFor
    simp [hr, e5]
  have kM : M.length + 1 ≤ 16777216 := by omega
  have kN : N.length ≤ 16777216 := by omega
  have kB : B.length ≤ 16777216 := by omega
  generalize sl3 c (A.map Stp.d) = S3 at *
  rw [eA] at e5'
  generalize kvT F = KF at *
  generalize N.map PyData.int = NM at *
  generalize (B.take 3).map PyData.int = B3 at *
  generalize hBM : B.map PyData.int = BM at *
  have es : m__law_shuffled [.own true (pl p), .d (.list [.int (-9), .int (-2), .int 0, .int 1, .int 2, .int 7, .int 1000000000000000000000000000000])] = .ok ([.own true (pl q), .d (.list [.int (-9), .int (-2), .int 0, .int 1, .int 2, .int 7, .int 1000000000000000000000000000000])], .f BM) := es
  exact ⟨_, by simp [m_law_k11, b_law_k11, ep, es, cut, so, l1, kM, e5']; rfl⟩
end Qa
theorem Lk11.the_law (ns : List Int) (h1 : ns.length ≤ 63) (h2 : ∀ z ∈ ns, PySem.Builtin.Int.intBits z ≤ 1048576) : ∃ Γ, Pg.m_law_k11 [.scr ns] = .ok (Γ, .d (.bool true)) := Qa.law_k11_true ns h1
open PySem PySem.W PyProof.Rows
set_option maxHeartbeats 0 in
theorem PySem.Challenge.cw_skylineeffect_k11_whole_shortest_holds : PySem.Challenge.rw_skylineeffect_k11_whole_shortest.Holds := by
  w_on; o_law; k_head; (case hw => w_witness2)
  k_fill
  refine Mi.walkG (l := PySem.Challenge.rw_skylineeffect_k11_whole_shortest) (n := 63) (k := 8) (x := "_law_script") (m := Pg.m_law_k11) rfl (by decide) rfl ⟨rfl, by decide, by decide⟩ (fun w h Y => PySem.W.kIn_of Y) ?F Lk11.the_law
  case F =>
    intro w mg fa h Y KX G hmg
    refine Mi.wG0 ?_
    intro inst
    refine' Lk11.all_mk KX G hmg ?a_is_integer ?l_is_integer ?c_is_integer ?k_is_integer ?a_length_of ?l_length_of ?c_length_of ?k_length_of ?a_shortest_of ?l_shortest_of ?c_shortest_of ?k_shortest_of ?a__law_pool ?l__law_pool ?c__law_pool ?k__law_pool ?a__law_take ?l__law_take ?c__law_take ?k__law_take ?a__law_runs ?l__law_runs ?c__law_runs ?k__law_runs ?a__law_joined ?l__law_joined ?c__law_joined ?k__law_joined ?a_is_count ?l_is_count ?c_is_count ?k_is_count ?a_is_pair ?l_is_pair ?c_is_pair ?k_is_pair ?a__law_effect ?l__law_effect ?c__law_effect ?k__law_effect ?a__law_shuffled ?l__law_shuffled ?c__law_shuffled ?k__law_shuffled ?a_is_run ?l_is_run ?c_is_run ?k_is_run ?a_are_pairs ?l_are_pairs ?c_are_pairs ?k_are_pairs ?a_is_stack ?l_is_stack ?c_is_stack ?k_is_stack ?a_is_effect ?l_is_effect ?c_is_effect ?k_is_effect ?a_check_effect ?l_check_effect ?c_check_effect ?k_check_effect ?a_shortest ?l_shortest ?c_shortest ?k_shortest ?a_steps_in ?l_steps_in ?c_steps_in ?k_steps_in ?a_law ?l_law ?c_law ?k_law ?z_abs ?z_all ?z_bool ?z_int ?z_isinstance ?z_len ?z_list ?z_range ?z_sorted ?z_sum ?z_tuple ?z_zip ?g_POP ?g_PUSH ?a_InvalidEffect ?x_InvalidEffect ?sa_InvalidEffect ?nb_InvalidEffect ?i_InvalidEffect ?t_InvalidEffect ?l_InvalidEffect ?c_InvalidEffect ?k_InvalidEffect ?kC_InvalidEffect ?e_InvalidEffect ?tC_InvalidEffect
    (case a_is_integer => k_is); (case l_is_integer => k_is); (case c_is_integer => k_is); (case k_is_integer => k_is); (case a_length_of => k_is); (case l_length_of => k_is); (case c_length_of => k_is); (case k_length_of => k_is); (case a_shortest_of => k_is); (case l_shortest_of => k_is); (case c_shortest_of => k_is); (case k_shortest_of => k_is); (case a__law_pool => k_is); (case l__law_pool => k_is); (case c__law_pool => k_is); (case k__law_pool => k_is); (case a__law_take => k_is); (case l__law_take => k_is); (case c__law_take => k_is); (case k__law_take => k_is); (case a__law_runs => k_is); (case l__law_runs => k_is); (case c__law_runs => k_is); (case k__law_runs => k_is); (case a__law_joined => k_is); (case l__law_joined => k_is); (case c__law_joined => k_is); (case k__law_joined => k_is); (case a_is_count => k_is); (case l_is_count => k_is); (case c_is_count => k_is); (case k_is_count => k_is); (case a_is_pair => k_is); (case l_is_pair => k_is); (case c_is_pair => k_is); (case k_is_pair => k_is); (case a__law_effect => k_is); (case l__law_effect => k_is); (case c__law_effect => k_is); (case k__law_effect => k_is); (case a__law_shuffled => k_is); (case l__law_shuffled => k_is); (case c__law_shuffled => k_is); (case k__law_shuffled => k_is); (case a_is_run => k_is); (case l_is_run => k_is); (case c_is_run => k_is); (case k_is_run => k_is); (case a_are_pairs => k_is); (case l_are_pairs => k_is); (case c_are_pairs => k_is); (case k_are_pairs => k_is); (case a_is_stack => k_is); (case l_is_stack => k_is); (case c_is_stack => k_is); (case k_is_stack => k_is); (case a_is_effect => k_is); (case l_is_effect => k_is); (case c_is_effect => k_is); (case k_is_effect => k_is); (case a_check_effect => k_is); (case l_check_effect => k_is); (case c_check_effect => k_is); (case k_check_effect => k_is); (case a_shortest => k_is); (case l_shortest => k_is); (case c_shortest => k_is); (case k_shortest => k_is); (case a_steps_in => k_is); (case l_steps_in => k_is); (case c_steps_in => k_is); (case k_steps_in => k_is); (case a_law => k_is); (case l_law => k_is); (case c_law => k_is); (case k_law => k_is); (case z_abs => k_is); (case z_all => k_is); (case z_bool => k_is); (case z_int => k_is); (case z_isinstance => k_is); (case z_len => k_is); (case z_list => k_is); (case z_range => k_is); (case z_sorted => k_is); (case z_sum => k_is); (case z_tuple => k_is); (case z_zip => k_is); (case g_POP => k_is); (case g_PUSH => k_is); (case a_InvalidEffect => k_is); (case x_InvalidEffect => k_is); (case sa_InvalidEffect => k_is); (case nb_InvalidEffect => k_is); (case i_InvalidEffect => k_is); (case t_InvalidEffect => k_is); (case l_InvalidEffect => k_is); (case c_InvalidEffect => k_is); (case k_InvalidEffect => k_is); (case kC_InvalidEffect => k_is); (case e_InvalidEffect => k_is); (case tC_InvalidEffect => k_is)
