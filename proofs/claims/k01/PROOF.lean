import PyProof.Rows.All
import Wide.All
import OpenK.AllK
import Wide.FinOn
import KE.KStateDown
import HandS.Base
import HandS.Call
import HandS.List
import HandS.Comp
import HandS.Ends
import HandS.Dict
import HandS.Iter
import HandS.Text
import HandS.More
import HandS.Exc
import HandS.TryOnly
import HandS.ExcOwn
import HandS.ExcIs
import HandS.HotCalls
import HandS.Deep
import HandS.Words
import HandS.WordsList
import HandS.WordsDict
import HandS.WordsExc
import HandS.IsInst
import HandS.Flow
import HandS.Conv
import HandS.FStr
import HandS.Defaults
import HandS.Strs
import HandS.Evl
import PyProof.StrLawsFrom
import HandS.ExcCtx
import HandS.Head0
import HandS.Head1
import HandS.Head2
import HandS.HeadEnd
import HandS.HeadHook1
import HandS.HeadHook2
import PySem.Challenge.RW_onelineatatime_k01_names_and_letters
set_option Elab.async false
set_option linter.all false
set_option maxRecDepth 100000
set_option maxHeartbeats 4000000
/-! KitA: callables, data over the heap, worlds -/
namespace Q
open PySem PySem.Spec PyProof.Rows L2

/-! ### the surroundings of a program -/
structure Env where
  P : Program
  w : World
  K : PySem.W.Frag
  mg : Str → Option Value
  base : Heap
/-- what a name of the module calls: a promise by at most level k -/
def Can (Z : Env) (CX : CXT) (k : Nat) (x : Str) (ps : List Str) (dvs : List V) (sp : Sp) : Prop :=
  ∃ (f : Addr) (fd : FuncData) (ds : List Value), Z.mg x = some (.ref f) ∧ PySem.W.keepIn Z.K (.ref f) = true ∧ Binds Z.K fd ps ds ∧ Vals dvs ds ∧ FnOk Z.P Z.w Z.K Z.mg Z.base CX k f fd ps sp
theorem Can.mono {Z : Env} {CX : CXT} {j k : Nat} {x : Str} {ps : List Str} {dvs : List V} {sp : Sp} (c : Can Z CX j x ps dvs sp) (h : j ≤ k) : Can Z CX k x ps dvs sp := by
  obtain ⟨f, fd, ds, h1, h2, h3, h4, h5⟩ := c
  exact ⟨f, fd, ds, h1, h2, h3, h4, h5.mono h⟩
theorem Can.imp {Z : Env} {CX : CXT} {k : Nat} {x : Str} {ps : List Str} {dvs : List V} {sp sp' : Sp} (c : Can Z CX k x ps dvs sp) (h : ∀ vs H Q E, sp' vs H Q E → sp vs H Q E) : Can Z CX k x ps dvs sp' := by
  obtain ⟨f, fd, ds, h1, h2, h3, h4, h5⟩ := c
  exact ⟨f, fd, ds, h1, h2, h3, h4, h5.imp h⟩
/-- a def of the text stands under its name -/
def DefAt (Z : Env) (x : Str) (st : Stmt) (dvs : List V) : Prop := ∃ (f : Addr) (fd : FuncData), Z.mg x = some (.ref f) ∧ FunD Z.K x x (defArgs st) (defBody st) (defScope st) dvs [] f fd
/-- a context over these surroundings -/
structure At (Z : Env) (X : Cx) : Prop where
  P : X.prog = Z.P
  w : X.w = Z.w
  K : X.K = Z.K
  mg : X.mg = Z.mg
  base : X.base = Z.base
section
variable {Z : Env} {X : Cx} {CX : CXT} {k : Nat} {x : Str} {ps : List Str} {dvs : List V} {sp : Sp} {E : XK} {p pos : Pos} {e : Expr} {es : List Expr} {t : TA}
theorem pcall (c : Can Z CX k x ps dvs sp) (hr : Room k X.A) (ha : PA X (e :: es) t) (hx : Passes CX X E) (z : At Z X := by exact ⟨rfl, rfl, rfl, rfl, rfl⟩) (hg : Gl X x := by rfl) (hdb : (x == ("__debug__" : Str)) = false := by decide)
    (he : starEach (e :: es) X.env = (false, eval e X.env) :: starEach es X.env := by rfl) (hpl : (backTo pos (starEach es X.env)).any (·.1) = false := by rfl) :
    PE X (.Call (.Name x p) (e :: es) [] pos) (tCall sp dvs E t) := by
  obtain ⟨f, fd, ds, h1, h2, h3, h4, h5⟩ := c
  obtain ⟨e1, e2, e3, e4, e5⟩ := z
  rw [← e1, ← e2, ← e3, ← e4, ← e5] at h5
  rw [← e4] at h1
  rw [← e3] at h2 h3
  exact pe_call h5 hr hg h1 h2 h3 h4 hx ha hdb he hpl
theorem pcall0 (c : Can Z CX k x ps dvs sp) (hr : Room k X.A) (hx : Passes CX X E) (z : At Z X := by exact ⟨rfl, rfl, rfl, rfl, rfl⟩) (hg : Gl X x := by rfl) (hdb : (x == ("__debug__" : Str)) = false := by decide) :
    PE X (.Call (.Name x p) [] [] pos) (tCall sp dvs E tNil) := by
  obtain ⟨f, fd, ds, h1, h2, h3, h4, h5⟩ := c
  obtain ⟨e1, e2, e3, e4, e5⟩ := z
  rw [← e1, ← e2, ← e3, ← e4, ← e5] at h5
  rw [← e4] at h1
  rw [← e3] at h2 h3
  exact pe_call0 h5 hr hg h1 h2 h3 h4 hx hdb
/-- a def without defaults keeps its promise -/
theorem can_of {st : Stmt} {N : List Str} (D : DefAt Z x st []) (S : FnScope N ps (defScope st)) (len : ∀ vs H Q E, sp vs H Q E → vs.length = ps.length)
    (hb : ∀ (kV doc pm : Value) (an : Option Addr) (cdv ct : Value) (us : List Value), us.length = ps.length → bindArgs (PySem.W.fnOf x x (defArgs st) (defBody st) (defScope st) .none kV doc pm an cdv ct) ⟨us, []⟩ = pure (ps.zip us))
    (hbody : ∀ (f : Addr) (cdv : Value) (A : Around) (outer : List PySem.Env) (s : Shared) (H : Hp) (vs : List V) (Q : VK) (E : XK), Room k (A.deeper (envOfC x (defScope st) s.heap.objs.size f cdv)) → sp vs H Q E →
      ∃ t, PSs (cxOf CX Z.P Z.w Z.K Z.mg Z.base N x (defScope st) f cdv A outer s H E) (defBody st) t ∧ t { nx := fun _ H' => Q .non H', rt := Q } (start N vs) H) : Can Z CX (k + 1) x ps [] sp := by
  obtain ⟨f, fd, hm, F⟩ := D
  have b := FunD.bindsN F hb
  exact ⟨f, fd, [], hm, F.kp, b, .nil, F.ok S len fun cdv A outer s H vs Q E hr h => hbody f cdv A outer s H vs Q E hr h⟩
end

/-! ### operators for every kind -/
section
variable {X : Cx}
theorem OpR.or2 {f : Value → Value → Sem Value} {r r' : R2} (h : OpR X f r) (h' : OpR X f r') : OpR X f (fun x y H Q => r x y H Q ∨ r' x y H Q) := fun pins s σ H x y v u Q I rx ry q =>
  q.elim (h pins s σ H x y v u Q I rx ry) (h' pins s σ H x y v u Q I rx ry)
theorem CallR.or2 {f : Value} {r r' : List V → Hp → VK → Prop} (h : CallR X f r) (h' : CallR X f r') : CallR X f (fun xs H Q => r xs H Q ∨ r' xs H Q) := fun pins s σ H xs us Q I rx q =>
  q.elim (h pins s σ H xs us Q I rx) (h' pins s σ H xs us Q I rx)
abbrev rAddS : R2 := fun x y H Q => ∃ i j, x = .str i ∧ y = .str j ∧ i.length + j.length ≤ sizeLine ∧ Q (.str (i ++ j)) H
def rAddU : R2 := fun x y H Q => rI0 (fun i j => .int (i + j)) x y H Q ∨ rAddS x y H Q ∨ rCat x y H Q
theorem o_add : OpR X (binaryOp .Add) rAddU := OpR.or2 op_add (OpR.or2 op_add_str op_cat)
theorem o_sub : OpR X (binaryOp .Sub) (rI0 fun i j => .int (i - j)) := op_sub
theorem o_mul : OpR X (binaryOp .Mult) (rI CMul fun i j => .int (i * j)) := op_mul
theorem o_fdiv : OpR X (binaryOp .FloorDiv) (rI CDivN fun i j => .int (i.fdiv j)) := op_fdivN
theorem o_mod : OpR X (binaryOp .Mod) (rI (fun _ j => j ≠ 0) fun i j => .int (i.fmod j)) := op_modN
theorem o_pow : OpR X (binaryOp .Pow) (rI CPow fun i j => .int (i ^ j.toNat)) := op_pow
def rLeU : R2 := rI0 fun i j => .bl (decide (i ≤ j))
def rGtU : R2 := rI0 fun i j => .bl (decide (j < i))
def rGeU : R2 := rI0 fun i j => .bl (decide (j ≤ i))
def rLtU : R2 := rI0 fun i j => .bl (decide (i < j))
theorem o_lt : OpR X (compareOp .Lt) rLtU := op_lt
theorem o_gt : OpR X (compareOp .Gt) rGtU := op_gt
theorem o_le : OpR X (compareOp .LtE) rLeU := op_le
theorem o_ge : OpR X (compareOp .GtE) rGeU := op_ge
def rIsNU : R2 := fun x y H Q => y = .non ∧ Q (.bl (decide (x = .non))) H
def rNotNU : R2 := fun x y H Q => y = .non ∧ Q (.bl (!decide (x = .non))) H
theorem o_isN : OpR X (compareOp .Is) rIsNU := op_isN
theorem o_notN : OpR X (compareOp .IsNot) rNotNU := op_notN
abbrev rInStr (neg : Bool) : R2 := fun x y H Q => ∃ i j, x = .str i ∧ y = .str j ∧ Q (.bl (if neg then !(!(Builtin.Str.occurrences j i 0 j.length 1).isEmpty) else !(Builtin.Str.occurrences j i 0 j.length 1).isEmpty)) H
abbrev rInSign (neg : Bool) : R2 := fun x y H Q => ∃ (c : Nat) (z : Str), x = .str ⟨#[c]⟩ ∧ y = .str z ∧ Q (.bl (if neg then !decide (c ∈ z.cps.toList) else decide (c ∈ z.cps.toList))) H
def rInU (K : PySem.W.Frag) (neg : Bool) : R2 := fun x y H Q => rIn K neg x y H Q ∨ rInSign neg x y H Q ∨ rInStr neg x y H Q
theorem o_in : OpR X (compareOp .In) (rInU X.K false) := OpR.or2 op_in_seq (OpR.or2 op_in_sign op_in_str)
theorem o_notIn : OpR X (compareOp .NotIn) (rInU X.K true) := OpR.or2 op_notIn_seq (OpR.or2 op_notIn_sign op_notin_str)
end
end Q
/-! KitB: data over the heap, worlds -/
namespace Q
open PySem PySem.Spec PyProof.Rows L2

/-- plain data -/
inductive D where
  | non | bl (b : Bool) | int (i : Int) | str (x : Str) | lst (xs : List D) | tup (xs : List D) | dct (kvs : List (Key × D))

/-- a heap and what of it is being changed -/
structure Wd where
  H : Hp
  M : Addr → Prop
  ok : ∀ a, M a → ∃ o, H a = some o ∧ Mut (some o)
theorem Wd.ne {W : Wd} {a : Addr} (h : W.M a) : W.H a ≠ none := fun e => by
  obtain ⟨o, q, _⟩ := W.ok a h
  rw [e] at q; cases q

mutual
inductive Rp (K : PySem.W.Frag) (W : Wd) : V → D → Prop
  | non : Rp K W .non .non
  | bl {b : Bool} : Rp K W (.bl b) (.bl b)
  | int {i : Int} : Rp K W (.int i) (.int i)
  | str {x : Str} : Rp K W (.str x) (.str x)
  | lst {a : Addr} {xs : List V} {ds : List D} : W.H a = some (.lst xs) → ¬ W.M a → RpL K W xs ds → Rp K W (.ref a) (.lst ds)
  | tup {a : Addr} {xs : List V} {ds : List D} : SqT K W.H a xs → RpL K W xs ds → Rp K W (.ref a) (.tup ds)
  | dct {a : Addr} {kvs : List (Key × V)} {ds : List (Key × D)} : Rd W.H a (.dK kvs) → ¬ W.M a → RpK K W kvs ds → Rp K W (.ref a) (.dct ds)
inductive RpL (K : PySem.W.Frag) (W : Wd) : List V → List D → Prop
  | nil : RpL K W [] []
  | cons {v : V} {vs : List V} {d : D} {ds : List D} : Rp K W v d → RpL K W vs ds → RpL K W (v :: vs) (d :: ds)
inductive RpK (K : PySem.W.Frag) (W : Wd) : List (Key × V) → List (Key × D) → Prop
  | nil : RpK K W [] []
  | cons {k : Key} {v : V} {vs : List (Key × V)} {d : D} {ds : List (Key × D)} : Rp K W v d → RpK K W vs ds → RpK K W ((k, v) :: vs) ((k, d) :: ds)
end

/-- from W to W' only what stands at X was changed -/
structure Mod (X : List Addr) (W W' : Wd) : Prop where
  keep : ∀ a o, a ∉ X → W.H a = some o → W'.H a = some o
  inM : ∀ a, a ∈ X → W.M a
  old : ∀ a, W'.M a → W.M a ∨ W.H a = none
  stay : ∀ a, W.M a → W'.M a
theorem Mod.refl (W : Wd) : Mod [] W W := ⟨fun _ _ _ e => e, fun _ h => (nomatch h), fun _ h => .inl h, fun _ h => h⟩
theorem Mod.lift {X : List Addr} {W : Wd} (h : ∀ a, a ∈ X → W.M a) : Mod X W W := ⟨fun _ _ _ e => e, h, fun _ h => .inl h, fun _ h => h⟩
theorem Mod.ne {X : List Addr} {W W' : Wd} (m : Mod X W W') {a : Addr} (h : W.H a ≠ none) : W'.H a ≠ none := fun z => by
  cases q : W.H a with
  | none => exact h q
  | some o =>
    by_cases hx : a ∈ X
    · exact Wd.ne (m.stay a (m.inM a hx)) z
    · rw [m.keep a o hx q] at z; cases z
theorem Mod.free {X : List Addr} {W W' : Wd} (m : Mod X W W') {a : Addr} (h : W'.H a = none) : W.H a = none := by
  cases q : W.H a with
  | none => rfl
  | some o => exact absurd h (m.ne (by rw [q]; intro z; cases z))
theorem Mod.trans {X Y : List Addr} {W W1 W2 : Wd} (a : Mod X W W1) (b : Mod Y W1 W2) (h : ∀ y ∈ Y, y ∈ X ∨ W.H y = none) : Mod X W W2 where
  keep := fun c o hc e => by
    have e1 := a.keep c o hc e
    refine b.keep c o (fun hy => ?_) e1
    rcases h c hy with z | z
    · exact hc z
    · rw [e] at z; cases z
  inM := a.inM
  old := fun c hc => by
    rcases b.old c hc with z | z
    · exact a.old c z
    · exact .inr (a.free z)
  stay := fun c hc => b.stay c (a.stay c hc)
/-- nothing else than a fresh thing was changed, or nothing -/
theorem Mod.tr0 {X : List Addr} {W W1 W2 : Wd} (a : Mod X W W1) (b : Mod [] W1 W2) : Mod X W W2 := a.trans b fun _ h => nomatch h
theorem Mod.trS {X : List Addr} {W W1 W2 : Wd} (a : Mod X W W1) (b : Mod X W1 W2) : Mod X W W2 := a.trans b fun _ h => .inl h
theorem Mod.trN {X : List Addr} {p : Addr} {W W1 W2 : Wd} (a : Mod X W W1) (b : Mod [p] W1 W2) (h : W.H p = none) : Mod X W W2 := a.trans b fun y hy => .inr (by
  have e : y = p := by simpa using hy
  rw [e]; exact h)
theorem Mod.seqT {K : PySem.W.Frag} {X : List Addr} {W W' : Wd} (m : Mod X W W') {a : Addr} {xs : List V} (h : SqT K W.H a xs) : SqT K W'.H a xs := by
  have nx : ∀ o, ¬ Mut (some o) → W.H a = some o → a ∉ X := fun o n e hx => by
    obtain ⟨u, e2, mu⟩ := W.ok a (m.inM a hx)
    rw [e] at e2
    cases e2
    exact n mu
  rcases h with (h | ⟨o, h⟩) | h
  · exact .inl (.inl (m.keep _ _ (nx (.tup xs) (fun z => z) h) h))
  · exact .inl (.inr ⟨o, m.keep _ _ (nx (.frz o (.tup xs)) (fun z => z) h) h⟩)
  · exact .inr h
mutual
theorem Rp.up {K : PySem.W.Frag} {X : List Addr} {W W' : Wd} (m : Mod X W W') : ∀ {v : V} {d : D}, Rp K W v d → Rp K W' v d
  | _, _, .non => .non
  | _, _, .bl => .bl
  | _, _, .int => .int
  | _, _, .str => .str
  | _, _, .lst e n r => .lst (m.keep _ _ (fun hx => n (m.inM _ hx)) e) (fun z => (m.old _ z).elim n fun q => by rw [e] at q; cases q) (RpL.up m r)
  | _, _, .tup s r => .tup (m.seqT s) (RpL.up m r)
  | _, _, .dct e n r => .dct (e.elim (fun e => .inl (m.keep _ _ (fun hx => n (m.inM _ hx)) e)) fun ⟨o, e⟩ => .inr ⟨o, m.keep _ _ (fun hx => n (m.inM _ hx)) e⟩)
      (fun z => (m.old _ z).elim n fun q => by rcases e with e | ⟨o, e⟩ <;> · rw [e] at q; cases q) (RpK.up m r)
theorem RpL.up {K : PySem.W.Frag} {X : List Addr} {W W' : Wd} (m : Mod X W W') : ∀ {vs : List V} {ds : List D}, RpL K W vs ds → RpL K W' vs ds
  | _, _, .nil => .nil
  | _, _, .cons h t => .cons (Rp.up m h) (RpL.up m t)
theorem RpK.up {K : PySem.W.Frag} {X : List Addr} {W W' : Wd} (m : Mod X W W') : ∀ {vs : List (Key × V)} {ds : List (Key × D)}, RpK K W vs ds → RpK K W' vs ds
  | _, _, .nil => .nil
  | _, _, .cons h t => .cons (Rp.up m h) (RpK.up m t)
end
/-- the same heap, less that is being changed -/
structure Less (W W' : Wd) : Prop where
  H : W'.H = W.H
  M : ∀ a, W'.M a → W.M a
mutual
theorem Rp.less {K : PySem.W.Frag} {W W' : Wd} (m : Less W W') : ∀ {v : V} {d : D}, Rp K W v d → Rp K W' v d
  | _, _, .non => .non
  | _, _, .bl => .bl
  | _, _, .int => .int
  | _, _, .str => .str
  | _, _, .lst e n r => .lst (by rw [m.H]; exact e) (fun z => n (m.M _ z)) (RpL.less m r)
  | _, _, .tup s r => .tup (by rw [m.H]; exact s) (RpL.less m r)
  | _, _, .dct e n r => .dct (by rw [m.H]; exact e) (fun z => n (m.M _ z)) (RpK.less m r)
theorem RpL.less {K : PySem.W.Frag} {W W' : Wd} (m : Less W W') : ∀ {vs : List V} {ds : List D}, RpL K W vs ds → RpL K W' vs ds
  | _, _, .nil => .nil
  | _, _, .cons h t => .cons (Rp.less m h) (RpL.less m t)
theorem RpK.less {K : PySem.W.Frag} {W W' : Wd} (m : Less W W') : ∀ {vs : List (Key × V)} {ds : List (Key × D)}, RpK K W vs ds → RpK K W' vs ds
  | _, _, .nil => .nil
  | _, _, .cons h t => .cons (Rp.less m h) (RpK.less m t)
end
/-- a list that is being changed -/
def Own (W : Wd) (p : Addr) (xs : List V) : Prop := W.H p = some (.lst xs) ∧ W.M p
theorem Own.up {X : List Addr} {W W' : Wd} {p : Addr} {xs : List V} (h : Own W p xs) (m : Mod X W W') (n : p ∉ X) : Own W' p xs := ⟨m.keep _ _ n h.1, m.stay _ h.2⟩
theorem Own.sq {K : PySem.W.Frag} {W : Wd} {p : Addr} {xs : List V} (h : Own W p xs) : SqL K W.H p xs := .inl (.inl h.1)

/-! ### making -/
/-- a new thing that will not change -/
def Wd.put (W : Wd) (p : Addr) (o : HO) (h : W.H p = none) : Wd := ⟨upd W.H p o, W.M, fun a ha => by
  obtain ⟨u, e, mu⟩ := W.ok a ha
  exact ⟨u, by rw [upd_ne (ne_of_none e h)]; exact e, mu⟩⟩
theorem Wd.put_mod {W : Wd} {p : Addr} {o : HO} (h : W.H p = none) : Mod [] W (W.put p o h) :=
  ⟨fun a u _ e => by show upd W.H p o a = _; rw [upd_ne (ne_of_none e h)]; exact e, fun _ z => (nomatch z), fun _ z => .inl z, fun _ z => z⟩
/-- a new list that is going to be changed -/
def Wd.own (W : Wd) (p : Addr) (xs : List V) (h : W.H p = none) : Wd := ⟨upd W.H p (.lst xs), fun a => W.M a ∨ a = p, fun a ha => by
  rcases ha with ha | rfl
  · obtain ⟨u, e, mu⟩ := W.ok a ha
    exact ⟨u, by rw [upd_ne (ne_of_none e h)]; exact e, mu⟩
  · exact ⟨_, upd_same, True.intro⟩⟩
theorem Wd.own_mod {W : Wd} {p : Addr} {xs : List V} (h : W.H p = none) : Mod [] W (W.own p xs h) :=
  ⟨fun a u _ e => by show upd W.H p _ a = _; rw [upd_ne (ne_of_none e h)]; exact e, fun _ z => (nomatch z), fun a z => z.imp id fun e => by rw [e]; exact h, fun _ z => .inl z⟩
/-- a list is changed -/
def Wd.set (W : Wd) (p : Addr) (xs : List V) : Wd := ⟨upd W.H p (.lst xs), W.M, fun a ha => by
  by_cases e : a = p
  · rw [e]; exact ⟨_, upd_same, True.intro⟩
  · obtain ⟨u, q, mu⟩ := W.ok a ha
    exact ⟨u, by rw [upd_ne e]; exact q, mu⟩⟩
theorem Wd.set_mod {W : Wd} {p : Addr} {xs : List V} (h : W.M p) : Mod [p] W (W.set p xs) :=
  ⟨fun a u n e => by show upd W.H p _ a = _; rw [upd_ne (fun z => n (by rw [z]; exact List.mem_singleton.mpr rfl))]; exact e, fun a z => by rw [List.mem_singleton.mp z]; exact h, fun _ z => .inl z, fun _ z => z⟩
theorem Wd.set_own {W : Wd} {p : Addr} {xs : List V} (h : W.M p) : Own (W.set p xs) p xs := ⟨upd_same, h⟩

theorem new_lst {K : PySem.W.Frag} {W : Wd} {xs : List V} {ds : List D} {G : V → Hp → Prop} (r : RpL K W xs ds) (k : ∀ p W', Mod [] W W' → W.H p = none → W'.H p = some (.lst xs) → Rp K W' (.ref p) (.lst ds) → G (.ref p) W'.H) :
    ∀ p, W.H p = none → G (.ref p) (upd W.H p (.lst xs)) := fun p hp =>
  k p (W.put p _ hp) (Wd.put_mod hp) hp upd_same (.lst upd_same (fun z => Wd.ne (show W.M p from z) hp) (r.up (Wd.put_mod hp)))
theorem new_tup {K : PySem.W.Frag} {W : Wd} {xs : List V} {ds : List D} {G : V → Hp → Prop} (r : RpL K W xs ds) (k : ∀ p W', Mod [] W W' → W.H p = none → SqT K W'.H p xs → Rp K W' (.ref p) (.tup ds) → G (.ref p) W'.H) :
    ∀ p, W.H p = none → G (.ref p) (upd W.H p (.tup xs)) := fun p hp =>
  k p (W.put p _ hp) (Wd.put_mod hp) hp (SqT.of upd_same) (.tup (SqT.of upd_same) (r.up (Wd.put_mod hp)))
theorem new_own {W : Wd} {xs : List V} {G : V → Hp → Prop} (k : ∀ p W', Mod [] W W' → W.H p = none → Own W' p xs → G (.ref p) W'.H) :
    ∀ p, W.H p = none → G (.ref p) (upd W.H p (.lst xs)) := fun p hp => k p (W.own p xs hp) (Wd.own_mod hp) hp ⟨upd_same, .inr rfl⟩
/-- at the end of a body: what was changed within it and was made within it is let go -/
theorem fin {X : List Addr} {W0 W : Wd} (m : Mod X W0 W) : ∃ W', W'.H = W.H ∧ Less W W' ∧ Mod X W0 W' ∧ ∀ a, W'.M a ↔ W0.M a := by
  refine ⟨⟨W.H, W0.M, fun a ha => W.ok a (m.stay a ha)⟩, rfl, ⟨rfl, fun a ha => m.stay a ha⟩, ⟨m.keep, m.inM, fun a ha => .inl ha, fun a ha => ha⟩, fun a => Iff.rfl⟩
theorem RpL.length {K : PySem.W.Frag} {W : Wd} : ∀ {vs : List V} {ds : List D}, RpL K W vs ds → vs.length = ds.length
  | _, _, .nil => rfl
  | _, _, .cons _ t => congrArg Nat.succ t.length
theorem RpL.append {K : PySem.W.Frag} {W : Wd} : ∀ {vs ws : List V} {ds es : List D}, RpL K W vs ds → RpL K W ws es → RpL K W (vs ++ ws) (ds ++ es)
  | _, _, _, _, .nil, s => s
  | _, _, _, _, .cons h t, s => .cons h (t.append s)
theorem RpL.get {K : PySem.W.Frag} {W : Wd} : ∀ {vs : List V} {ds : List D} {i : Nat} {v : V}, RpL K W vs ds → vs[i]? = some v → ∃ d, ds[i]? = some d ∧ Rp K W v d
  | _, _, _, _, .nil, e => by simp at e
  | _, _, 0, _, .cons h _, e => by simp at e; subst e; exact ⟨_, rfl, h⟩
  | _, _, i + 1, v, .cons _ t, e => by
    obtain ⟨d, h1, h2⟩ := t.get (i := i) (v := v) (by simpa using e)
    exact ⟨d, by simpa using h1, h2⟩
theorem RpL.getD {K : PySem.W.Frag} {W : Wd} : ∀ {vs : List V} {ds : List D} {i : Nat} {d : D}, RpL K W vs ds → ds[i]? = some d → ∃ v, vs[i]? = some v ∧ Rp K W v d
  | _, _, _, _, .nil, e => by simp at e
  | _, _, 0, _, .cons h _, e => by simp at e; subst e; exact ⟨_, rfl, h⟩
  | _, _, i + 1, v, .cons _ t, e => by
    obtain ⟨d, h1, h2⟩ := t.getD (i := i) (d := v) (by simpa using e)
    exact ⟨d, by simpa using h1, h2⟩
theorem RpL.snoc {K : PySem.W.Frag} {W : Wd} {vs : List V} {ds : List D} {v : V} {d : D} (h : RpL K W vs ds) (t : Rp K W v d) : RpL K W (vs ++ [v]) (ds ++ [d]) := h.append (.cons t .nil)

/-! ### the store of the draws -/
theorem RpL.map {α : Type} {K : PySem.W.Frag} {W : Wd} {f : α → V} {g : α → D} (h : ∀ a, Rp K W (f a) (g a)) : ∀ l : List α, RpL K W (l.map f) (l.map g)
  | [] => .nil
  | a :: l => .cons (h a) (RpL.map h l)
/-- the store at st -/
def Sto (K : PySem.W.Frag) (st : Addr) (W : Wd) : Prop := ∃ (c : Addr) (ns : List Int) (i b s f n : Int), Own W st [.ref c, .int i, .int b, .int s, .int f, .int n] ∧ 0 ≤ i ∧ Rp K W (.ref c) (.lst (ns.map D.int))
theorem Sto.up {K : PySem.W.Frag} {X : List Addr} {st : Addr} {W W' : Wd} (h : Sto K st W) (m : Mod X W W') (n : st ∉ X) : Sto K st W' := by
  obtain ⟨c, ns, i, b, s, f, k, o, hi, hc⟩ := h
  exact ⟨c, ns, i, b, s, f, k, o.up m n, hi, hc.up m⟩
theorem Sto.inM {K : PySem.W.Frag} {st : Addr} {W : Wd} (h : Sto K st W) : W.M st := by
  obtain ⟨c, ns, i, b, s, f, k, o, _⟩ := h
  exact o.2
theorem Sto.less {K : PySem.W.Frag} {st : Addr} {W W' : Wd} (h : Sto K st W) (m : Less W W') (n : W'.M st) : Sto K st W' := by
  obtain ⟨c, ns, i, b, s, f, k, o, hi, hc⟩ := h
  exact ⟨c, ns, i, b, s, f, k, ⟨by rw [m.H]; exact o.1, n⟩, hi, hc.less m⟩
theorem Sto.ne {K : PySem.W.Frag} {st : Addr} {W : Wd} (h : Sto K st W) {p : Addr} (hp : W.H p = none) : st ≠ p := fun e => by
  rw [← e] at hp
  exact Wd.ne h.inM hp
end Q
/-! KitC: the rules that the printed terms use -/
namespace Q
open PySem PySem.Spec PyProof.Rows L2
/-- the builtins' names are the builtins' -/
structure Std (Z : Env) : Prop where
  len : Z.mg "len" = none
  range : Z.mg "range" = none
  isinstance : Z.mg "isinstance" = none
  int : Z.mg "int" = none
  str : Z.mg "str" = none
  bool : Z.mg "bool" = none
  list : Z.mg "list" = none
  tuple : Z.mg "tuple" = none
  dict : Z.mg "dict" = none
  all : Z.mg "all" = none
  any : Z.mg "any" = none
  abs : Z.mg "abs" = none
  sum : Z.mg "sum" = none
  sorted : Z.mg "sorted" = none
  min : Z.mg "min" = none
  max : Z.mg "max" = none
  set : Z.mg "set" = none
  enumerate : Z.mg "enumerate" = none
  zip : Z.mg "zip" = none
  reversed : Z.mg "reversed" = none
  ValueError : Z.mg "ValueError" = none
/-- the module's name x holds v -/
def Gv (Z : Env) (x : Str) (v : V) : Prop := ∃ u, Z.mg x = some u ∧ RelV v u
section
variable {X : Cx} {Z : Env}
theorem pglob {x : Str} {v : V} {pos : Pos} (g : Gv Z x v) (hm : X.mg = Z.mg := by rfl) (hg : Gl X x := by rfl) (hd : (x == ("__debug__" : Str)) = false := by decide) : PE X (.Name x pos) (tC v) := by
  obtain ⟨u, h1, h2⟩ := g
  rw [← hm] at h1
  exact pe_glob hg h1 h2 hd
def rLenU (K : PySem.W.Frag) : List V → Hp → VK → Prop := fun xs H Q => (∃ x n, xs = [x] ∧ LenV K x H n ∧ Q (.int n) H) ∨ ∃ a kvs, xs = [V.ref a] ∧ Rd H a (.dK kvs) ∧ Q (.int kvs.length) H
theorem call_lenRd {X : Cx} : CallR X (.builtin "len") (fun xs H Q => ∃ a kvs, xs = [V.ref a] ∧ Rd H a (.dK kvs) ∧ Q (.int kvs.length) H) := by
  intro pins s σ H xs us Q I r ⟨a, kvs, e, ha, q⟩
  subst e
  obtain ⟨u, rfl, ru⟩ := vals1 r
  obtain rfl : u = Value.ref a := ru
  exact d_len I ha fun t s2 I2 => ⟨V.int kvs.length, H, I2, ⟨t, rfl⟩, q⟩
theorem c_len : CallR X (.builtin "len") (rLenU X.K) := CallR.or2 call_len call_lenRd
def rIntU : List V → Hp → VK → Prop := fun xs H Q => ((∃ i, xs = [.int i] ∧ Q (.int i) H) ∨ ∃ k, xs = [.bl k] ∧ Q (.int (if k then 1 else 0)) H) ∨ ∃ a n, xs = [.str a] ∧ PySem.intText? a = some n ∧ a.length ≤ 640 ∧ Q (.int n) H
theorem c_int : CallR X (.type "int") rIntU := CallR.or2 call_int1 call_int_str
def rStrU : List V → Hp → VK → Prop := fun xs H Q => ∃ i, xs = [.int i] ∧ i.natAbs.log2 < 1920 ∧ Q (.str (toString i)) H
theorem c_str : CallR X (.type "str") rStrU := call_str_int
def rEqU (K : PySem.W.Frag) : R2 := fun x y H Q => rEq x y H Q ∨ rEqD K x y H Q
def rNeU (K : PySem.W.Frag) : R2 := fun x y H Q => rNe x y H Q ∨ rNeD K x y H Q
theorem o_eq (hu : X.A.units + 64 < cLine) : OpR X (compareOp .Eq) (rEqU X.K) := OpR.or2 op_eq (op_eqD hu)
theorem o_ne (hu : X.A.units + 64 < cLine) : OpR X (compareOp .NotEq) (rNeU X.K) := OpR.or2 op_ne (op_neD hu)
def rSlU (K : PySem.W.Frag) : V → Option Int → Option Int → Hp → VK → Prop := fun x lo hi H Q => rSlL K x lo hi H Q ∨ rSlS x lo hi H Q
theorem sl_any : SlR X (rSlU X.K) := SlR.or sl_list sl_str
def iAny (K : PySem.W.Frag) (te : TE) : TI := fun σ H R => iList K te σ H R ∨ iTup K te σ H R ∨ iStr te σ H R
theorem pi_any {tg e : Expr} {te : TE} (he : PE X e te) : PI X tg e (iAny X.K te) := ⟨fun pins s σ H R I h => h.elim ((pi_list he).run pins s σ H R I) fun h => h.elim ((pi_tup he).run pins s σ H R I) ((pi_str he).run pins s σ H R I)⟩
end
/-! the same, the written part named -/
section
variable {X : Cx} (K : PySem.W.Frag)
theorem k_ix (hK : X.K = K := by rfl) : IxR X (rIx K) := by rw [← hK]; exact ix_seq
theorem k_len (hK : X.K = K := by rfl) : CallR X (.builtin "len") (rLenU K) := by rw [← hK]; exact c_len
theorem k_in (hK : X.K = K := by rfl) : OpR X (compareOp .In) (rInU K false) := by rw [← hK]; exact o_in
theorem k_notIn (hK : X.K = K := by rfl) : OpR X (compareOp .NotIn) (rInU K true) := by rw [← hK]; exact o_notIn
theorem k_eq (hu : X.A.units + 64 < cLine) (hK : X.K = K := by rfl) : OpR X (compareOp .Eq) (rEqU K) := by rw [← hK]; exact o_eq hu
theorem k_ne (hu : X.A.units + 64 < cLine) (hK : X.K = K := by rfl) : OpR X (compareOp .NotEq) (rNeU K) := by rw [← hK]; exact o_ne hu
theorem k_sl (hK : X.K = K := by rfl) : SlR X (rSlU K) := by rw [← hK]; exact sl_any
theorem k_isi (hK : X.K = K := by rfl) : CallR X (.builtin "isinstance") (rIsi K) := by rw [← hK]; exact call_isi
theorem k_all (hc : X.calm = true := by rfl) (hK : X.K = K := by rfl) : CallR X (.builtin "all") (rAll K) := by rw [← hK]; exact cr_all hc
theorem k_anyB (hc : X.calm = true := by rfl) (hK : X.K = K := by rfl) : CallR X (.builtin "any") (rAny K) := by rw [← hK]; exact cr_any hc
theorem k_sum (hc : X.calm = true := by rfl) (hK : X.K = K := by rfl) : CallR X (.builtin "sum") (rSum K) := by rw [← hK]; exact cr_sum hc
def rListOf (K : PySem.W.Frag) : List V → Hp → VK → Prop := fun xs H Q => ∃ p ys, xs = [.ref p] ∧ (SqL K H p ys ∨ SqT K H p ys) ∧ ∀ l, H l = none → Q (.ref l) (upd H l (.lst ys))
theorem k_listOf (hK : X.K = K := by rfl) : CallR X (.type "list") (rListOf K) := by rw [← hK]; exact call_list_of
def rTupleOf (K : PySem.W.Frag) : List V → Hp → VK → Prop := fun xs H Q => ∃ p ys, xs = [.ref p] ∧ ((SqL K H p ys ∧ ∀ l, H l = none → Q (.ref l) (upd H l (.tup ys))) ∨ (SqT K H p ys ∧ Q (.ref p) H))
theorem k_tupleOf (hK : X.K = K := by rfl) : CallR X (.type "tuple") (rTupleOf K) := by rw [← hK]; exact call_tuple_of
theorem k_pi {tg e : Expr} {te : TE} (he : PE X e te) (hK : X.K = K := by rfl) : PI X tg e (iAny K te) := by rw [← hK]; exact pi_any he
theorem k_tup {es : List Expr} {k : Nat} {t : TGs} {n : Nat} {pos : Pos} (hc : X.calm = true) (h : PGs X es t) (hK : X.K = K := by rfl)
    (hn : (assignEach es X.env).length = n := by rfl) (hst : (assignEach es X.env).findIdx? (·.1) = none := by rfl) : PG X (.Tuple es k pos) (gTup K n t) := by rw [← hK]; exact pg_tup hc h hn hst
def rJoinK (K : PySem.W.Frag) : V → List V → Hp → VK → Prop := fun x xs H Q => ∃ a p, ∃ ys : List Str, x = .str a ∧ xs = [.ref p] ∧ (SqL K H p (ys.map V.str) ∨ SqT K H p (ys.map V.str)) ∧ (ys.map (·.length)).sum + ys.length * a.length ≤ 16777216 ∧ Q (.str (Txt.join a ys)) H
theorem k_join {o e : Expr} {to te : TE} {apos pos : Pos} (ho : PE X o to) (he : PE X e te) (hK : X.K = K := by rfl) (hs : starEach [e] X.env = [(false, eval e X.env)] := by rfl) (hbase : attributeBase o "join" X.env (eval o X.env) = eval o X.env := by rfl) (hline : (apos.endLine == pos.line) = true := by rfl) :
    PE X (.Call (.Attribute o "join" apos) [e] [] pos) (tM1 (rJoinK K) to te) := by rw [← hK]; exact pe_join ho he hs hbase hline
variable {o e : Expr} {es : List Expr} {to : TE} {t : TA} {name : Str} {apos cpos : Pos} {T id : String} {r : V → List V → Hp → VK → Prop}
theorem k_bm0 (pa : PlainAttrs T) (slot : Slot T name id) (hty : typeOf (.builtin id) = pure (.type "method_descriptor")) (hm : MtR X id r) (ho : PE X o to) (hK : X.K = K := by rfl)
    (hbase : attributeBase o name X.env (eval o X.env) = eval o X.env := by rfl) (hline : (apos.endLine == cpos.line) = true := by rfl) : PE X (.Call (.Attribute o name apos) [] [] cpos) (tBM0 K T r to) := by
  rw [← hK]; exact pe_bm0 pa slot hty hm ho hbase hline
theorem k_bm (pa : PlainAttrs T) (slot : Slot T name id) (hty : typeOf (.builtin id) = pure (.type "method_descriptor")) (hm : MtR X id r) (ho : PE X o to) (ha : PA X (e :: es) t) (hK : X.K = K := by rfl)
    (hbase : attributeBase o name X.env (eval o X.env) = eval o X.env := by rfl)
    (hfew : ((backTo cpos (starEach (e :: es) X.env)).all (fun x => !x.1) && (backToKw cpos (keywordEach [] X.env)).all (fun x => x.1.isSome)
      && decide ((e :: es).length + ([] : List Keyword).length + (if ([] : List Keyword).isEmpty then 0 else 1) < 30)) = true := by rfl)
    (hline : (apos.endLine == cpos.line) = true := by rfl) (hs : starEach (e :: es) X.env = (false, eval e X.env) :: starEach es X.env := by rfl) (hplain : (backTo cpos (starEach es X.env)).any (·.1) = false := by rfl) :
    PE X (.Call (.Attribute o name apos) (e :: es) [] cpos) (tBM K T r to t) := by
  rw [← hK]; exact pe_bm pa slot hty hm ho ha hbase hfew hline hs hplain
end
def rPartK : V → List V → Hp → VK → Prop := fun x xs H Q => ∃ a b, x = .str a ∧ xs = [.str b] ∧ (b.length == 0) = false ∧ a.length ≤ sizeLine ∧ ∀ p, H p = none → Q (.ref p) (upd H p (.tup [.str (Txt.partition a b).1, .str (Txt.partition a b).2.1, .str (Txt.partition a b).2.2]))
def rSplitK : V → List V → Hp → VK → Prop := fun x xs H Q => ∃ a b, x = .str a ∧ xs = [.str b] ∧ (b.length == 0) = false ∧ a.length + 2 ≤ sizeLine ∧ rNewStrs (Txt.split a b) H Q
section
variable {X : Cx} {o e : Expr} {to te : TE} {apos pos : Pos}
theorem k_partition (ho : PE X o to) (he : PE X e te) (hs : starEach [e] X.env = [(false, eval e X.env)] := by rfl) (hbase : attributeBase o "partition" X.env (eval o X.env) = eval o X.env := by rfl) (hline : (apos.endLine == pos.line) = true := by rfl) :
    PE X (.Call (.Attribute o "partition" apos) [e] [] pos) (tM1 rPartK to te) := pe_partition ho he hs hbase hline
theorem k_split (ho : PE X o to) (he : PE X e te) (hs : starEach [e] X.env = [(false, eval e X.env)] := by rfl) (hbase : attributeBase o "split" X.env (eval o X.env) = eval o X.env := by rfl) (hline : (apos.endLine == pos.line) = true := by rfl) :
    PE X (.Call (.Attribute o "split" apos) [e] [] pos) (tM1 rSplitK to te) := pe_split ho he hs hbase hline
end
theorem h64 {A : Around} {k : Nat} (r : Room k A) : A.units + 64 < cLine := by have := r.un; omega
theorem h1 {A : Around} {k : Nat} (r : Room k A) : A.units + 1 < cLine := by have := r.un; omega
/-- a list that is being changed is changed -/
theorem set_own {W : Wd} {p : Addr} {xs ys : List V} {G : Hp → Prop} (h : Own W p xs) (k : ∀ W', Mod [p] W W' → Own W' p ys → G W'.H) : G (upd W.H p (.lst ys)) :=
  k (W.set p ys) (Wd.set_mod h.2) (Wd.set_own h.2)
/-! ### the promises of the draws -/
def spLoad (K : PySem.W.Frag) : Sp := fun vs H Q _ => ∃ W st, W.H = H ∧ vs = [.ref st] ∧ Sto K st W ∧ ∀ W', Mod [st] W W' → Sto K st W' → Q .non W'.H
def spTake (K : PySem.W.Frag) : Sp := fun vs H Q _ => ∃ W st m, W.H = H ∧ vs = [.ref st, .int m] ∧ Sto K st W ∧ m < 1073741824 ∧ ∀ r W', Mod [st] W W' → Sto K st W' → 0 ≤ r → (r < m ∨ r = 0) → Q (.int r) W'.H
end Q
/-! KitD: readings, step by step -/
namespace Q
open PySem PySem.Spec PyProof.Rows L2
theorem sz {n : Nat} (h : n ≤ 100000) : n ≤ sizeLine := Nat.le_trans h (by decide)
theorem szl {n : Nat} (h : n < 100000) : n < sizeLine := Nat.lt_of_lt_of_le h (by decide)
/-- a word kept closed -/
def hide (P : L2.St → Hp → Prop) : L2.St → Hp → Prop := P
section
variable {σ : L2.St} {H : Hp} {Q : VK} {v x y : V} {i j : Int} {n : Nat} {a b : Str} {c : Bool} {K : PySem.W.Frag}
theorem i_var (h : σ[n]? = some (some v)) (q : Q v H) : tVar n σ H Q := ⟨v, h, q⟩
theorem i_I0 {g : Int → Int → V} (q : Q (g i j) H) : rI0 g (.int i) (.int j) H Q := ⟨i, j, rfl, rfl, q⟩
theorem i_I {C : Int → Int → Prop} {g : Int → Int → V} (h : C i j) (q : Q (g i j) H) : rI C g (.int i) (.int j) H Q := ⟨i, j, rfl, rfl, h, q⟩
theorem i_U {g : Int → V} (q : Q (g i) H) : rU g (.int i) H Q := ⟨i, rfl, q⟩
theorem i_addI (q : Q (.int (i + j)) H) : rAddU (.int i) (.int j) H Q := .inl ⟨i, j, rfl, rfl, q⟩
theorem i_addS (h : a.length + b.length ≤ sizeLine) (q : Q (.str (a ++ b)) H) : rAddU (.str a) (.str b) H Q := .inr (.inl ⟨a, b, rfl, rfl, h, q⟩)
theorem i_lt (q : Q (.bl (decide (i < j))) H) : rLtU (.int i) (.int j) H Q := ⟨i, j, rfl, rfl, q⟩
theorem i_gt (q : Q (.bl (decide (j < i))) H) : rGtU (.int i) (.int j) H Q := ⟨i, j, rfl, rfl, q⟩
theorem i_le (q : Q (.bl (decide (i ≤ j))) H) : rLeU (.int i) (.int j) H Q := ⟨i, j, rfl, rfl, q⟩
theorem i_ge (q : Q (.bl (decide (j ≤ i))) H) : rGeU (.int i) (.int j) H Q := ⟨i, j, rfl, rfl, q⟩
theorem i_isN (q : Q (.bl (decide (x = .non))) H) : rIsNU x .non H Q := ⟨rfl, q⟩
theorem i_notN (q : Q (.bl (!decide (x = .non))) H) : rNotNU x .non H Q := ⟨rfl, q⟩
theorem i_isNI (q : Q (.bl false) H) : rIsNU (.int i) .non H Q := ⟨rfl, q⟩
theorem i_notNI (q : Q (.bl true) H) : rNotNU (.int i) .non H Q := ⟨rfl, q⟩
theorem i_isNS (q : Q (.bl false) H) : rIsNU (.str a) .non H Q := ⟨rfl, q⟩
theorem i_notNS (q : Q (.bl true) H) : rNotNU (.str a) .non H Q := ⟨rfl, q⟩
theorem i_isNB (q : Q (.bl false) H) : rIsNU (.bl c) .non H Q := ⟨rfl, q⟩
theorem i_notNB (q : Q (.bl true) H) : rNotNU (.bl c) .non H Q := ⟨rfl, q⟩
theorem i_isNR {p : Addr} (q : Q (.bl false) H) : rIsNU (.ref p) .non H Q := ⟨rfl, q⟩
theorem i_notNR {p : Addr} (q : Q (.bl true) H) : rNotNU (.ref p) .non H Q := ⟨rfl, q⟩
theorem i_isN0 (q : Q (.bl true) H) : rIsNU .non .non H Q := ⟨rfl, q⟩
theorem i_notN0 (q : Q (.bl false) H) : rNotNU .non .non H Q := ⟨rfl, q⟩
theorem i_int (q : Q (.int i) H) : rIntU [.int i] H Q := .inl (.inl ⟨i, rfl, q⟩)
theorem i_intB (q : Q (.int (if c then 1 else 0)) H) : rIntU [.bl c] H Q := .inl (.inr ⟨c, rfl, q⟩)
theorem i_intS (h : PySem.intText? a = some i) (hl : a.length ≤ 640) (q : Q (.int i) H) : rIntU [.str a] H Q := .inr ⟨a, i, rfl, h, hl, q⟩
theorem i_str (h : i.natAbs.log2 < 1920) (q : Q (.str (toString i)) H) : rStrU [.int i] H Q := ⟨i, rfl, h, q⟩
theorem ex_bl {B : Bool → Hp → Prop} (q : B c H) : ∃ k, V.bl c = .bl k ∧ B k H := ⟨c, rfl, q⟩
theorem ex_bl2 {B : Bool → Prop} (q : B c) : ∃ k, V.bl c = .bl k ∧ B k := ⟨c, rfl, q⟩
theorem ex_int {B : Int → Prop} (q : B i) : ∃ k, V.int i = .int k ∧ B k := ⟨i, rfl, q⟩
theorem ex_str2 {B : Str → Prop} {z : Str} (q : B z) : ∃ y, V.str z = .str y ∧ B y := ⟨z, rfl, q⟩
theorem ex_ref {B : Addr → Prop} {p : Addr} (q : B p) : ∃ a, V.ref p = .ref a ∧ B a := ⟨p, rfl, q⟩
theorem ex_ints {B : Int → Prop} {i : Int} (q : B i) : ∃ k, [V.int i] = [.int k] ∧ B k := ⟨i, rfl, q⟩
theorem ex_str {B : Prop} (q : B) : (∃ k, V.str a = .str k) ∧ B := ⟨⟨a, rfl⟩, q⟩
end
/-! what stands there -/
section
variable {σ : L2.St} {H : Hp} {Q : VK} {v x y o : V} {n : Nat} {K : PySem.W.Frag} {G : Hp → Prop} {xs : List V} {C : Int → Int → Prop} {g : Int → Int → V}
theorem g_setL (h : rSetL o x v H G) : rSetL o x v H G := h
theorem g_ix (h : rIx K x y H Q) : rIx K x y H Q := h
theorem g_len (h : rLenU K xs H Q) : rLenU K xs H Q := h
theorem g_var (h : tVar n σ H Q) : tVar n σ H Q := h
theorem g_I (h : rI C g x y H Q) : rI C g x y H Q := h
end
/-- a new list, a new tuple -/
def NewL (xs : List V) (Q : VK) (H : Hp) : Prop := ∀ p, H p = none → Q (.ref p) (upd H p (.lst xs))
def NewT (xs : List V) (Q : VK) (H : Hp) : Prop := ∀ p, H p = none → Q (.ref p) (upd H p (.tup xs))
def NewD (kvs : List (Key × V)) (Q : VK) (H : Hp) : Prop := ∀ p, H p = none → Q (.ref p) (upd H p (.dK kvs))
theorem mk_lst {K : PySem.W.Frag} {W : Wd} {xs : List V} {ds : List D} {Q : VK} (r : RpL K W xs ds) (k : ∀ p W', Mod [] W W' → W.H p = none → Rp K W' (.ref p) (.lst ds) → Q (.ref p) W'.H) : NewL xs Q W.H :=
  new_lst (G := Q) r fun p W' m n _ q => k p W' m n q
theorem mk_own {W : Wd} {xs : List V} {Q : VK} (k : ∀ p W', Mod [] W W' → W.H p = none → Own W' p xs → Q (.ref p) W'.H) : NewL xs Q W.H := new_own (G := Q) k
theorem mk_tup {K : PySem.W.Frag} {W : Wd} {xs : List V} {ds : List D} {Q : VK} (r : RpL K W xs ds) (k : ∀ p W', Mod [] W W' → W.H p = none → SqT K W'.H p xs → Rp K W' (.ref p) (.tup ds) → Q (.ref p) W'.H) : NewT xs Q W.H :=
  new_tup (G := Q) r k
theorem mk_dct {K : PySem.W.Frag} {W : Wd} {kvs : List (Key × V)} {ds : List (Key × D)} {Q : VK} (r : RpK K W kvs ds) (k : ∀ p W', Mod [] W W' → W.H p = none → Rp K W' (.ref p) (.dct ds) → Q (.ref p) W'.H) : NewD kvs Q W.H := fun p hp =>
  k p (W.put p _ hp) (Wd.put_mod hp) hp (.dct (.inl upd_same) (fun z => Wd.ne (show W.M p from z) hp) (r.up (Wd.put_mod hp)))
/-! structure -/
section
variable {σ : L2.St} {H : Hp} {R : List V → Hp → Prop} {te ta tb tc : TE} {tr : TA} {D : Ends} {t u : TS} {tt tu : TT} {g : TG} {B : Bool → Hp → Prop} {Q : VK} {v : V} {r r' : R2} {sp : Sp} {dvs : List V} {E : XK} {K : PySem.W.Frag}
theorem i_nil (h : R [] H) : tNil σ H R := h
theorem i_cons (h : ta σ H fun x H1 => tr σ H1 fun xs H2 => R (x :: xs) H2) : tCons ta tr σ H R := h
theorem i_c (h : Q v H) : tC v σ H Q := h
theorem i_op (h : ta σ H fun x H1 => tb σ H1 fun y H2 => r x y H2 Q) : tOp r ta tb σ H Q := h
theorem i_un {ru : V → Hp → VK → Prop} (h : ta σ H fun x H1 => ru x H1 Q) : tUn ru ta σ H Q := h
theorem i_test (h : te σ H fun x H' => ∃ k, x = .bl k ∧ B k H') : tTest te σ H B := h
theorem i_b (h : te σ H fun x H' => ∃ k, x = .bl k ∧ B k H') : tB te σ H B := h
theorem i_and (h : tt σ H fun c H1 => if c = true then tu σ H1 B else B false H1) : tAnd tt tu σ H B := h
theorem i_or (h : tt σ H fun c H1 => if c = true then B true H1 else tu σ H1 B) : tOr tt tu σ H B := h
theorem i_not (h : tt σ H fun c H1 => B (!c) H1) : tNot tt σ H B := h
theorem i_andV (h : ta σ H fun x H1 => ∃ c, x = .bl c ∧ if c = true then tb σ H1 Q else Q (.bl false) H1) : tAndV ta tb σ H Q := h
theorem i_orV (h : ta σ H fun x H1 => ∃ c, x = .bl c ∧ if c = true then Q (.bl true) H1 else tb σ H1 Q) : tOrV ta tb σ H Q := h
theorem i_notV (h : ta σ H fun x H1 => ∃ c, x = .bl c ∧ Q (.bl (!c)) H1) : tNotV ta σ H Q := h
theorem i_if (h : tt σ H fun c H1 => if c = true then ta σ H1 Q else tb σ H1 Q) : tIf tt ta tb σ H Q := h
theorem i_seq (h : t { D with nx := u D } σ H) : tSeq t u D σ H := h
theorem i_next (h : D.nx σ H) : tNext D σ H := h
theorem i_drop (h : te σ H fun _ H1 => D.nx σ H1) : tDrop te D σ H := h
theorem i_ret (h : te σ H D.rt) : tRet te D σ H := h
theorem i_retN (h : D.rt .non H) : tRetN D σ H := h
theorem i_ifS (h : tt σ H fun b H1 => if b = true then t D σ H1 else u D σ H1) : tIfS tt t u D σ H := h
theorem i_asg (h : te σ H fun x H1 => g x σ H1 D.nx) : tAsg te g D σ H := h
theorem i_name {i : Nat} {R : L2.St → Hp → Prop} (h : R (σ.set i (some v)) H) : gName i v σ H R := h
theorem i_sub {ts : TSet} {R : L2.St → Hp → Prop} (h : ta σ H fun o H1 => tb σ H1 fun i H2 => ts o i v H2 fun H3 => R σ H3) : gSub ta tb ts v σ H R := h
theorem i_cb {rc : List V → Hp → VK → Prop} (h : tr σ H fun vs H1 => rc vs H1 Q) : tCB rc tr σ H Q := h
theorem i_call (h : tr σ H fun vs H1 => sp (vs ++ dvs) H1 Q E) : tCall sp dvs E tr σ H Q := h
theorem i_tup (h : tr σ H fun xs H1 => xs.length ≤ sizeLine ∧ NewT xs Q H1) : tTup tr σ H Q := h
theorem i_lst (h : tr σ H fun xs H1 => xs.length ≤ sizeLine ∧ NewL xs Q H1) : tLst tr σ H Q := h
theorem i_bm {T : String} {rm : V → List V → Hp → VK → Prop} (h : te σ H fun x H1 => tyV K T x H1 ∧ tr σ H1 fun xs H2 => rm x xs H2 Q) : tBM K T rm te tr σ H Q := h
theorem i_bm0 {T : String} {rm : V → List V → Hp → VK → Prop} (h : te σ H fun x H1 => tyV K T x H1 ∧ rm x [] H1 Q) : tBM0 K T rm te σ H Q := h
theorem i_m1 {rm : V → List V → Hp → VK → Prop} (h : te σ H fun x H1 => (∃ a, x = .str a) ∧ ta σ H1 fun y H2 => rm x [y] H2 Q) : tM1 rm te ta σ H Q := h
theorem i_m0 {rm : V → List V → Hp → VK → Prop} (h : te σ H fun x H1 => (∃ a, x = .str a) ∧ rm x [] H1 Q) : tM0 rm te σ H Q := h
theorem i_sl {rs : V → Option Int → Option Int → Hp → VK → Prop} {tl th : TO} (h : te σ H fun x H1 => tl σ H1 fun l H2 => th σ H2 fun u H3 => rs x l u H3 Q) : tSl rs te tl th σ H Q := h
theorem i_noPart {R : Option Int → Hp → Prop} (h : R none H) : tNoPart σ H R := h
theorem i_part {R : Option Int → Hp → Prop} (h : te σ H fun x H1 => ∃ i, x = .int i ∧ R (some i) H1) : tPart te σ H R := h
theorem i_chain (h : ta σ H fun x H1 => tb σ H1 fun y H2 => r x y H2 fun z H3 => ∃ k, z = .bl k ∧ if k = true then tc σ H3 fun w H4 => r' y w H4 Q else Q (.bl false) H3) : tChain r r' ta tb tc σ H Q := h
end
section
variable {K : PySem.W.Frag} {W : Wd} {p : Addr} {xs ys : List V} {ds : List D} {d : D} {i k : Int} {j n : Nat} {v x y : V} {Q : VK} {G : Hp → Prop} {z : Str}
theorem Rp.seqL (h : Rp K W (.ref p) (.lst ds)) : ∃ xs, SqL K W.H p xs ∧ RpL K W xs ds := by
  cases h with
  | lst h1 _ h2 => exact ⟨_, .inl (.inl h1), h2⟩
theorem Rp.seqT (h : Rp K W (.ref p) (.tup ds)) : ∃ xs, SqT K W.H p xs ∧ RpL K W xs ds := by
  cases h with
  | tup h1 h2 => exact ⟨_, h1, h2⟩
/-! subscripts -/
theorem ixL (h : SqL K W.H p xs) (ha : atI xs i = some v) (q : Q v W.H) : rIx K (.ref p) (.int i) W.H Q := .inl ⟨p, xs, i, v, rfl, rfl, h, ha, q⟩
theorem ixT (h : SqT K W.H p xs) (ha : atI xs i = some v) (q : Q v W.H) : rIx K (.ref p) (.int i) W.H Q := .inr (.inl ⟨p, xs, i, v, rfl, rfl, h, ha, q⟩)
theorem ixO (h : Own W p xs) (ha : atI xs i = some v) (q : Q v W.H) : rIx K (.ref p) (.int i) W.H Q := ixL h.sq ha q
theorem ixS {c : Nat} (hz : z.length ≤ sizeLine) (ha : atI z.cps.toList i = some c) (q : Q (.str ⟨#[c]⟩) W.H) : rIx K (.str z) (.int i) W.H Q := .inr (.inr ⟨z, i, c, rfl, rfl, hz, ha, q⟩)
theorem at_nat {α : Type} {l : List α} {j : Nat} {x : α} (h : l[j]? = some x) : atI l (j : Int) = some x := atI_nat h
theorem at_pos {α : Type} {l : List α} {i : Int} {x : α} (h0 : 0 ≤ i) (h : l[i.toNat]? = some x) : atI l i = some x := by
  obtain ⟨n, rfl⟩ := Int.eq_ofNat_of_zero_le h0
  exact atI_nat (by simpa using h)
theorem ixRL (h : Rp K W (.ref p) (.lst ds)) (h0 : 0 ≤ i) (hd : ds[i.toNat]? = some d) (q : ∀ v, Rp K W v d → Q v W.H) : rIx K (.ref p) (.int i) W.H Q := by
  obtain ⟨xs, h1, h2⟩ := h.seqL
  obtain ⟨v, h3, h4⟩ := h2.getD hd
  exact ixL h1 (at_pos h0 h3) (q v h4)
theorem ixRT (h : Rp K W (.ref p) (.tup ds)) (h0 : 0 ≤ i) (hd : ds[i.toNat]? = some d) (q : ∀ v, Rp K W v d → Q v W.H) : rIx K (.ref p) (.int i) W.H Q := by
  obtain ⟨xs, h1, h2⟩ := h.seqT
  obtain ⟨v, h3, h4⟩ := h2.getD hd
  exact ixT h1 (at_pos h0 h3) (q v h4)
/-! lengths -/
theorem lenL (h : SqL K W.H p xs) (q : Q (.int xs.length) W.H) : rLenU K [.ref p] W.H Q := .inl ⟨_, xs.length, rfl, .inl ⟨xs, h, rfl⟩, q⟩
theorem lenO (h : Own W p xs) (q : Q (.int xs.length) W.H) : rLenU K [.ref p] W.H Q := lenL h.sq q
theorem lenT (h : SqT K W.H p xs) (q : Q (.int xs.length) W.H) : rLenU K [.ref p] W.H Q := .inl ⟨_, xs.length, rfl, .inr ⟨xs, h, rfl⟩, q⟩
theorem lenS (hz : z.length ≤ sizeLine) (q : Q (.int z.length) W.H) : rLenU K [.str z] W.H Q := .inl ⟨_, z.length, rfl, ⟨hz, rfl⟩, q⟩
theorem lenRL (h : Rp K W (.ref p) (.lst ds)) (q : Q (.int ds.length) W.H) : rLenU K [.ref p] W.H Q := by
  obtain ⟨xs, h1, h2⟩ := h.seqL
  exact lenL h1 (by rw [h2.length]; exact q)
theorem lenRT (h : Rp K W (.ref p) (.tup ds)) (q : Q (.int ds.length) W.H) : rLenU K [.ref p] W.H Q := by
  obtain ⟨xs, h1, h2⟩ := h.seqT
  exact lenT h1 (by rw [h2.length]; exact q)
/-! a list that is being changed -/
theorem setO (h : Own W p xs) (hj : ixN xs.length k = some j) (q : ∀ W', Mod [p] W W' → Own W' p (xs.set j v) → G W'.H) : rSetL (.ref p) (.int k) v W.H G :=
  ⟨p, xs, k, j, rfl, rfl, h.1, hj, set_own h q⟩
theorem tyO (h : Own W p xs) : tyV K "list" (.ref p) W.H := .inl ⟨rfl, _, h.sq⟩
theorem appO (h : Own W p xs) (hz : xs.length < sizeLine) (q : ∀ W', Mod [p] W W' → Own W' p (xs ++ [y]) → Q .non W'.H) : rAppend (.ref p) [y] W.H Q :=
  ⟨p, xs, y, rfl, rfl, h.1, hz, set_own (G := fun H => Q .non H) h q⟩
theorem popO (h : Own W p xs) (hx : xs[xs.length - 1]? = some y) (q : ∀ W', Mod [p] W W' → Own W' p xs.dropLast → Q y W'.H) : rPop (.ref p) [] W.H Q :=
  ⟨p, xs, y, rfl, rfl, h.1, hx, set_own (G := fun H => Q y H) h q⟩
theorem popAtO (h : Own W p xs) (h1 : 0 ≤ i) (h2 : i < 2 ^ 62) (hx : xs[i.toNat]? = some y) (q : ∀ W', Mod [p] W W' → Own W' p (xs.eraseIdx i.toNat) → Q y W'.H) : rPopAt (.ref p) [.int i] W.H Q := by
  refine ⟨p, xs, i, i.toNat, y, rfl, rfl, h.1, by omega, by omega, ?_, hx, set_own (G := fun H => Q y H) h q⟩
  have hl : i.toNat < xs.length := (List.getElem?_eq_some_iff.mp hx).1
  unfold seqIndex?
  first
    | (simp only [show ¬ i < 0 by omega, if_false, show (0 ≤ i ∧ i < xs.length) by omega, if_true]; done)
    | (simp; omega)
/-! tests -/
theorem iteD {c A B : Prop} [Decidable c] (h1 : c → A) (h2 : ¬ c → B) : if decide c = true then A else B := by
  by_cases h : c
  · rw [if_pos (decide_eq_true h)]; exact h1 h
  · rw [if_neg (by simpa using h)]; exact h2 h
theorem iteND {c A B : Prop} [Decidable c] (h1 : ¬ c → A) (h2 : c → B) : if (!decide c) = true then A else B := by
  by_cases h : c
  · rw [if_neg (by simp [h])]; exact h2 h
  · rw [if_pos (by simp [h])]; exact h1 h
theorem iteB {b : Bool} {A B : Prop} (h1 : b = true → A) (h2 : b = false → B) : if b = true then A else B := by
  cases b with
  | true => rw [if_pos rfl]; exact h1 rfl
  | false => rw [if_neg Bool.false_ne_true]; exact h2 rfl
theorem iteNT {A B : Prop} (h : B) : if (!true) = true then A else B := h
theorem iteNF {A B : Prop} (h : A) : if (!false) = true then A else B := h
theorem iteNB {b : Bool} {A B : Prop} (h1 : b = false → A) (h2 : b = true → B) : if (!b) = true then A else B := by
  cases b with
  | true => exact h2 rfl
  | false => exact h1 rfl
/-! == of flat things -/
theorem eqF (hs : scal x y = true) (q : Q (.bl (decide (x = y))) W.H) : rEqU K x y W.H Q := .inl ⟨hs, q⟩
theorem neF (hs : scal x y = true) (q : Q (.bl (!decide (x = y))) W.H) : rNeU K x y W.H Q := .inl ⟨hs, q⟩
theorem dI {a b : Int} : decide (V.int a = V.int b) = decide (a = b) := decide_eq_decide.mpr ⟨fun h => by cases h; rfl, fun h => by rw [h]⟩
theorem dS {a b : Str} : decide (V.str a = V.str b) = decide (a = b) := decide_eq_decide.mpr ⟨fun h => by cases h; rfl, fun h => by rw [h]⟩
theorem dB {a b : Bool} : decide (V.bl a = V.bl b) = decide (a = b) := decide_eq_decide.mpr ⟨fun h => by cases h; rfl, fun h => by rw [h]⟩
theorem eqI {a b : Int} (q : Q (.bl (decide (a = b))) W.H) : rEqU K (.int a) (.int b) W.H Q := eqF rfl (by rw [dI]; exact q)
theorem neI {a b : Int} (q : Q (.bl (!decide (a = b))) W.H) : rNeU K (.int a) (.int b) W.H Q := neF rfl (by rw [dI]; exact q)
theorem eqB {a b : Bool} (q : Q (.bl (decide (a = b))) W.H) : rEqU K (.bl a) (.bl b) W.H Q := eqF rfl (by rw [dB]; exact q)
theorem neB {a b : Bool} (q : Q (.bl (!decide (a = b))) W.H) : rNeU K (.bl a) (.bl b) W.H Q := neF rfl (by rw [dB]; exact q)
theorem eqS {a b : Str} (q : Q (.bl (decide (a = b))) W.H) : rEqU K (.str a) (.str b) W.H Q := eqF rfl (by rw [dS]; exact q)
theorem neS {a b : Str} (q : Q (.bl (!decide (a = b))) W.H) : rNeU K (.str a) (.str b) W.H Q := neF rfl (by rw [dS]; exact q)
/-! the draws -/
theorem use_take {st : Addr} {m : Int} {E : XK} (h : Sto K st W) (hm : m < 1073741824) (q : ∀ r W', Mod [st] W W' → Sto K st W' → 0 ≤ r → (r < m ∨ r = 0) → Q (.int r) W'.H) : spTake K ([.ref st, .int m] ++ []) W.H Q E :=
  ⟨W, st, m, rfl, rfl, h, hm, q⟩
theorem use_load {st : Addr} {E : XK} (h : Sto K st W) (q : ∀ W', Mod [st] W W' → Sto K st W' → Q .non W'.H) : spLoad K ([.ref st] ++ []) W.H Q E :=
  ⟨W, st, rfl, rfl, h, q⟩
end
end Q
/-! KitE: comprehensions and loops over worlds -/
namespace Q
open PySem PySem.Spec PyProof.Rows L2
/-- the state of a comprehension: behind i turns the list at p holds xs -/
def LcI (X : List Addr) (W : Wd) (I : Nat → Wd → List V → Prop) (p : Addr) (i : Nat) (H : Hp) : Prop := ∃ W1 xs, W1.H = H ∧ Mod X W W1 ∧ Own W1 p xs ∧ xs.length ≤ i ∧ I i W1 xs
section
variable {K : PySem.W.Frag} {W : Wd} {X : List Addr} {n : Nat} {σ : L2.St} {j : Nat} {vs : List Nat} {tt : TT} {te : TE} {Qd : Hp → Prop} {I : Nat → Wd → List V → Prop} {p : Addr} {i : Nat} {H : Hp} {lo : Int} {y : V}
theorem Mod.notin {W W' : Wd} (m : Mod X W W') (hp : W.H p = none) : p ∉ X := fun h => Wd.ne (m.inM p h) hp
theorem lc_start (hp : W.H p = none) (hX : ∀ a ∈ X, W.M a) (h0 : ∀ W1, Mod [] W W1 → Own W1 p [] → I 0 W1 []) : LcI X W I p 0 (upd W.H p (.lst [])) :=
  ⟨W.own p [] hp, [], rfl, (Mod.lift hX).tr0 (Wd.own_mod hp), ⟨upd_same, .inr rfl⟩, Nat.le_refl 0, h0 _ (Wd.own_mod hp) ⟨upd_same, .inr rfl⟩⟩
/-- a turn that gives an item -/
theorem lc_give {W3 : Wd} {xs : List V} (hp : W.H p = none) (hi : i < 16777216) (m : Mod X W W3) (o : Own W3 p xs) (hl : xs.length ≤ i) (h : ∀ W4, Mod [p] W3 W4 → Own W4 p (xs ++ [y]) → I (i + 1) W4 (xs ++ [y])) :
    ∃ acc, W3.H p = some (.lst acc) ∧ acc.length < sizeLine ∧ LcI X W I p (i + 1) (upd W3.H p (.lst (acc ++ [y]))) :=
  ⟨xs, o.1, by show xs.length < 2 ^ 24; omega, W3.set p (xs ++ [y]), xs ++ [y], rfl, m.trN (Wd.set_mod o.2) hp, Wd.set_own o.2, by simp; omega, h _ (Wd.set_mod o.2) (Wd.set_own o.2)⟩
/-- a turn that gives none -/
theorem lc_skip {W3 : Wd} {xs : List V} (m : Mod X W W3) (o : Own W3 p xs) (hl : xs.length ≤ i) (h : I (i + 1) W3 xs) : LcI X W I p (i + 1) W3.H := ⟨W3, xs, rfl, m, o, by omega, h⟩
abbrev LcOut (J : It) (g : TG) (tt : TT) (te : TE) (vs : List Nat) (σ : L2.St) (H1 : Hp) (Dl : Addr) (Qd : Hp → Prop) : Prop :=
  ∃ W : Nat → Nat → Hp → Prop, (∃ m, W 0 m (upd H1 Dl (.lst []))) ∧ ∀ i m H, W i m H →
    (J.stop i H ∧ Qd H) ∨ (J.go i H ∧ ∃ Nx : Hp → Prop, (∀ H', Nx H' → ∃ m', m' < m ∧ W (i + 1) m' H') ∧ ∀ x H', J.yld i H x H' → g x (wipe σ vs) H' fun σ2 H2 => wipe σ2 vs = wipe σ vs ∧ tt σ2 H2 fun b H3 =>
      if b = true then te σ2 H3 fun y H4 => ∃ acc, H4 Dl = some (.lst acc) ∧ acc.length < sizeLine ∧ Nx (upd H4 Dl (.lst (acc ++ [y]))) else Nx H3)
theorem lcR (hp : W.H p = none) (hX : ∀ a ∈ X, W.M a) (I : Nat → Wd → List V → Prop) (hw : ∀ x, wipe ((wipe σ vs).set j (some x)) vs = wipe σ vs) (h0 : ∀ W1, Mod [] W W1 → Own W1 p [] → I 0 W1 [])
    (hs : ∀ i W1 xs, i < n → Mod X W W1 → Own W1 p xs → xs.length ≤ i → I i W1 xs → tt ((wipe σ vs).set j (some (.int (lo + i)))) W1.H fun b H3 =>
      if b = true then te ((wipe σ vs).set j (some (.int (lo + i)))) H3 fun y H4 => ∃ acc, H4 p = some (.lst acc) ∧ acc.length < sizeLine ∧ LcI X W I p (i + 1) (upd H4 p (.lst (acc ++ [y]))) else LcI X W I p (i + 1) H3)
    (hd : ∀ W1 xs, Mod X W W1 → Own W1 p xs → xs.length ≤ n → I n W1 xs → Qd W1.H) : LcOut (Itr lo n) (gName j) tt te vs σ W.H p Qd :=
  lc_range (lo := lo) (n := n) (LcI X W I p) (lc_start hp hX h0) (fun i H hi ⟨W1, xs, e, m, o, hl, hI⟩ => by
    subst e
    exact ⟨hw _, hs i W1 xs hi m o hl hI⟩) fun H ⟨W1, xs, e, m, o, hl, hI⟩ => by
    subst e
    exact hd W1 xs m o hl hI
theorem lcL {a : Addr} {zs : List V} (hp : W.H p = none) (hX : ∀ a ∈ X, W.M a) (I : Nat → Wd → List V → Prop) (hw : ∀ x, wipe ((wipe σ vs).set j (some x)) vs = wipe σ vs) (hz : ∀ W1, Mod X W W1 → SqL K W1.H a zs) (h0 : ∀ W1, Mod [] W W1 → Own W1 p [] → I 0 W1 [])
    (hs : ∀ i z W1 xs, zs[i]? = some z → Mod X W W1 → Own W1 p xs → xs.length ≤ i → I i W1 xs → tt ((wipe σ vs).set j (some z)) W1.H fun b H3 =>
      if b = true then te ((wipe σ vs).set j (some z)) H3 fun y H4 => ∃ acc, H4 p = some (.lst acc) ∧ acc.length < sizeLine ∧ LcI X W I p (i + 1) (upd H4 p (.lst (acc ++ [y]))) else LcI X W I p (i + 1) H3)
    (hd : ∀ W1 xs, Mod X W W1 → Own W1 p xs → xs.length ≤ zs.length → I zs.length W1 xs → Qd W1.H) : LcOut (Itl K a) (gName j) tt te vs σ W.H p Qd :=
  lc_list (K := K) (a := a) (xs := zs) (LcI X W I p) (lc_start hp hX h0) (fun i H _ ⟨W1, xs, e, m, o, hl, hI⟩ => by
    subst e
    exact hz W1 m) (fun i z H hi ⟨W1, xs, e, m, o, hl, hI⟩ => by
    subst e
    exact ⟨hw _, hs i z W1 xs hi m o hl hI⟩) fun H ⟨W1, xs, e, m, o, hl, hI⟩ => by
    subst e
    exact hd W1 xs m o hl hI
theorem lcT {a : Addr} {zs : List V} (hp : W.H p = none) (hX : ∀ a ∈ X, W.M a) (I : Nat → Wd → List V → Prop) (hw : ∀ x, wipe ((wipe σ vs).set j (some x)) vs = wipe σ vs) (hz : ∀ W1, Mod X W W1 → SqT K W1.H a zs) (h0 : ∀ W1, Mod [] W W1 → Own W1 p [] → I 0 W1 [])
    (hs : ∀ i z W1 xs, zs[i]? = some z → Mod X W W1 → Own W1 p xs → xs.length ≤ i → I i W1 xs → tt ((wipe σ vs).set j (some z)) W1.H fun b H3 =>
      if b = true then te ((wipe σ vs).set j (some z)) H3 fun y H4 => ∃ acc, H4 p = some (.lst acc) ∧ acc.length < sizeLine ∧ LcI X W I p (i + 1) (upd H4 p (.lst (acc ++ [y]))) else LcI X W I p (i + 1) H3)
    (hd : ∀ W1 xs, Mod X W W1 → Own W1 p xs → xs.length ≤ zs.length → I zs.length W1 xs → Qd W1.H) : LcOut (Itt K a) (gName j) tt te vs σ W.H p Qd :=
  lc_tup (K := K) (a := a) (xs := zs) (LcI X W I p) (lc_start hp hX h0) (fun i H _ ⟨W1, xs, e, m, o, hl, hI⟩ => by
    subst e
    exact hz W1 m) (fun i z H hi ⟨W1, xs, e, m, o, hl, hI⟩ => by
    subst e
    exact ⟨hw _, hs i z W1 xs hi m o hl hI⟩) fun H ⟨W1, xs, e, m, o, hl, hI⟩ => by
    subst e
    exact hd W1 xs m o hl hI
/-- over a text, sign by sign -/
theorem lcS {z : Str} (hp : W.H p = none) (hX : ∀ a ∈ X, W.M a) (I : Nat → Wd → List V → Prop) (hw : ∀ x, wipe ((wipe σ vs).set j (some x)) vs = wipe σ vs) (h0 : ∀ W1, Mod [] W W1 → Own W1 p [] → I 0 W1 [])
    (hs : ∀ i c W1 xs, z.cps[i]? = some c → Mod X W W1 → Own W1 p xs → xs.length ≤ i → I i W1 xs → tt ((wipe σ vs).set j (some (.str ⟨#[c]⟩))) W1.H fun b H3 =>
      if b = true then te ((wipe σ vs).set j (some (.str ⟨#[c]⟩))) H3 fun y H4 => ∃ acc, H4 p = some (.lst acc) ∧ acc.length < sizeLine ∧ LcI X W I p (i + 1) (upd H4 p (.lst (acc ++ [y]))) else LcI X W I p (i + 1) H3)
    (hd : ∀ W1 xs, Mod X W W1 → Own W1 p xs → xs.length ≤ z.length → I z.length W1 xs → Qd W1.H) : LcOut (Its z) (gName j) tt te vs σ W.H p Qd := by
  refine ⟨fun i m H => m = z.length - i ∧ i ≤ z.length ∧ LcI X W I p i H, ⟨z.length, by simp, Nat.zero_le _, lc_start hp hX h0⟩, ?_⟩
  rintro i m H ⟨rfl, hi, hP⟩
  by_cases hlt : i < z.length
  · refine .inr ⟨hlt, LcI X W I p (i + 1), fun H' p' => ⟨z.length - (i + 1), by omega, rfl, hlt, p'⟩, fun x H' y => ?_⟩
    obtain ⟨W1, xs, e, m, o, hl, hI⟩ := hP
    subst e
    obtain ⟨e2, c, hc, e1⟩ := y
    subst e1 e2
    exact ⟨hw _, hs i c W1 xs hc m o hl hI⟩
  · have e : i = z.length := by omega
    subst e
    obtain ⟨W1, xs, e, m, o, hl, hI⟩ := hP
    subst e
    exact .inl ⟨Nat.le_refl _, hd W1 xs m o hl hI⟩
end
section
variable {K : PySem.W.Frag} {W : Wd} {σ : L2.St} {H : Hp} {R : It → Hp → Prop} {wi : TI} {g : TG} {tt : TT} {te : TE} {vs : List Nat} {Q : VK} {ta : TA} {i : Int} {a : Addr} {xs : List V} {z : Str} {D : Ends} {tb : TS}
theorem i_lc (h : wi σ H fun J H1 => ∀ p, H1 p = none → LcOut J g tt te vs σ H1 p (Q (.ref p))) : tLc wi g tt te vs σ H Q := h
theorem i_yes {B : Bool → Hp → Prop} (h : B true H) : tYes σ H B := h
theorem i_rng1 (h : ta σ H fun us H1 => ∃ j : Int, us = [.int j] ∧ -(2 ^ 62) ≤ j ∧ j < 2 ^ 62 ∧ R (Itr 0 j.toNat) H1) : iRng1 ta σ H R := h
theorem i_rng2 (h : ta σ H fun us H1 => ∃ i j : Int, us = [.int i, .int j] ∧ (-(2 ^ 62) ≤ i ∧ i < 2 ^ 62 ∧ -(2 ^ 62) ≤ j ∧ j < 2 ^ 62) ∧ R (Itr i (j - i).toNat) H1) : iRng2 ta σ H R := h
theorem ex_rng1 (h : -100000000 ≤ i ∧ i < 100000000) (q : R (Itr 0 i.toNat) H) : ∃ j : Int, [V.int i] = [.int j] ∧ -(2 ^ 62) ≤ j ∧ j < 2 ^ 62 ∧ R (Itr 0 j.toNat) H := ⟨i, rfl, by omega, by omega, q⟩
theorem ex_rng2 {j : Int} (h : -100000000 ≤ i ∧ i < 100000000) (h2 : -100000000 ≤ j ∧ j < 100000000) (q : R (Itr i (j - i).toNat) H) : ∃ i' j' : Int, [V.int i, V.int j] = [.int i', .int j'] ∧ (-(2 ^ 62) ≤ i' ∧ i' < 2 ^ 62 ∧ -(2 ^ 62) ≤ j' ∧ j' < 2 ^ 62) ∧ R (Itr i' (j' - i').toNat) H := ⟨i, j, rfl, by omega, q⟩
theorem any_l (h : te σ H fun x H1 => ∃ a, x = .ref a ∧ (∃ xs, SqL K H1 a xs) ∧ R (Itl K a) H1) : iAny K te σ H R := .inl h
theorem any_t (h : te σ H fun x H1 => ∃ a, x = .ref a ∧ (∃ xs, SqT K H1 a xs) ∧ R (Itt K a) H1) : iAny K te σ H R := .inr (.inl h)
theorem any_s (h : te σ H fun x H1 => ∃ z, x = .str z ∧ R (Its z) H1) : iAny K te σ H R := .inr (.inr h)
theorem ex_l (h : SqL K W.H a xs) (q : R (Itl K a) W.H) : ∃ b, V.ref a = .ref b ∧ (∃ xs, SqL K W.H b xs) ∧ R (Itl K b) W.H := ⟨a, rfl, ⟨xs, h⟩, q⟩
theorem ex_t (h : SqT K W.H a xs) (q : R (Itt K a) W.H) : ∃ b, V.ref a = .ref b ∧ (∃ xs, SqT K W.H b xs) ∧ R (Itt K b) W.H := ⟨a, rfl, ⟨xs, h⟩, q⟩
theorem ex_s (q : R (Its z) H) : ∃ y, V.str z = .str y ∧ R (Its y) H := ⟨z, rfl, q⟩
end
/-! ### for -/
abbrev ForOut (J : It) (g : TG) (tb : TS) (D : Ends) (σ : L2.St) (H1 : Hp) : Prop := ∃ W : Nat → Nat → L2.St → Hp → Prop, (∃ m, W 0 m σ H1) ∧ ∀ i m σ H, W i m σ H →
  (J.stop i H ∧ D.nx σ H) ∨ (J.go i H ∧ ∃ N : L2.St → Hp → Prop, (∀ σ' H', N σ' H' → ∃ m', m' < m ∧ W (i + 1) m' σ' H') ∧ ∀ x H', J.yld i H x H' → g x σ H' fun σ2 H2 => tb { D with nx := N, ct := N, bk := D.nx } σ2 H2)
/-- the state of a loop -/
def FoI (P : Nat → L2.St → Wd → Prop) (i : Nat) : L2.St → Hp → Prop := fun σ H => ∃ W1, W1.H = H ∧ P i σ W1
section
variable {K : PySem.W.Frag} {W : Wd} {n : Nat} {σ : L2.St} {g : TG} {tb : TS} {D : Ends} {lo : Int} {H : Hp} {wi : TI}
theorem i_for (h : wi σ H fun J H1 => ForOut J g tb D σ H1) : tFor wi g tb D σ H := h
theorem forR (P : Nat → L2.St → Wd → Prop) (h0 : P 0 σ W) (hs : ∀ i σ W1, i < n → P i σ W1 → g (.int (lo + i)) σ W1.H fun σ2 H2 => tb { D with nx := FoI P (i + 1), ct := FoI P (i + 1), bk := D.nx } σ2 H2)
    (hd : ∀ σ W1, P n σ W1 → D.nx σ W1.H) : ForOut (Itr lo n) g tb D σ W.H :=
  for_range (FoI P) ⟨W, rfl, h0⟩ (fun i σ H hi ⟨W1, e, p⟩ => by subst e; exact hs i σ W1 hi p) fun σ H ⟨W1, e, p⟩ => by subst e; exact hd σ W1 p
theorem forL {a : Addr} {zs : List V} (P : Nat → L2.St → Wd → Prop) (h0 : P 0 σ W) (hl : ∀ i σ W1, i ≤ zs.length → P i σ W1 → SqL K W1.H a zs) (hs : ∀ i z σ W1, zs[i]? = some z → P i σ W1 → g z σ W1.H fun σ2 H2 => tb { D with nx := FoI P (i + 1), ct := FoI P (i + 1), bk := D.nx } σ2 H2)
    (hd : ∀ σ W1, P zs.length σ W1 → D.nx σ W1.H) : ForOut (Itl K a) g tb D σ W.H :=
  for_list (K := K) (a := a) (xs := zs) (FoI P) ⟨W, rfl, h0⟩ (fun i σ H hi ⟨W1, e, p⟩ => by subst e; exact hl i σ W1 hi p) (fun i z σ H hi ⟨W1, e, p⟩ => by subst e; exact hs i z σ W1 hi p) fun σ H ⟨W1, e, p⟩ => by subst e; exact hd σ W1 p
theorem forT {a : Addr} {zs : List V} (P : Nat → L2.St → Wd → Prop) (h0 : P 0 σ W) (hl : ∀ i σ W1, i ≤ zs.length → P i σ W1 → SqT K W1.H a zs) (hs : ∀ i z σ W1, zs[i]? = some z → P i σ W1 → g z σ W1.H fun σ2 H2 => tb { D with nx := FoI P (i + 1), ct := FoI P (i + 1), bk := D.nx } σ2 H2)
    (hd : ∀ σ W1, P zs.length σ W1 → D.nx σ W1.H) : ForOut (Itt K a) g tb D σ W.H :=
  for_tup (K := K) (a := a) (xs := zs) (FoI P) ⟨W, rfl, h0⟩ (fun i σ H hi ⟨W1, e, p⟩ => by subst e; exact hl i σ W1 hi p) (fun i z σ H hi ⟨W1, e, p⟩ => by subst e; exact hs i z σ W1 hi p) fun σ H ⟨W1, e, p⟩ => by subst e; exact hd σ W1 p
end
/-! ### more promises of draws -/
def spNumber (K : PySem.W.Frag) : Sp := fun vs H Q _ => ∃ W st lo hi, W.H = H ∧ vs = [.ref st, .int lo, .int hi] ∧ Sto K st W ∧ hi - lo < 1000000000 ∧ ∀ r W', Mod [st] W W' → Sto K st W' → lo ≤ r → (r ≤ hi ∨ r = lo) → Q (.int r) W'.H
theorem use_number {K : PySem.W.Frag} {W : Wd} {st : Addr} {lo hi : Int} {Q : VK} {E : XK} (h : Sto K st W) (hm : hi - lo < 1000000000) (q : ∀ r W', Mod [st] W W' → Sto K st W' → lo ≤ r → (r ≤ hi ∨ r = lo) → Q (.int r) W'.H) :
    spNumber K ([.ref st, .int lo, .int hi] ++ []) W.H Q E := ⟨W, st, lo, hi, rfl, rfl, h, hm, q⟩
/-- a row to pick of -/
def spPick (K : PySem.W.Frag) : Sp := fun vs H Q _ => ∃ W st v ds, W.H = H ∧ vs = [.ref st, v] ∧ Sto K st W ∧ (Rp K W v (.lst ds) ∨ Rp K W v (.tup ds)) ∧ ds ≠ [] ∧ ds.length < 1000000 ∧ ∀ r d W', Mod [st] W W' → Sto K st W' → d ∈ ds → Rp K W' r d → Q r W'.H
theorem use_pick {K : PySem.W.Frag} {W : Wd} {st : Addr} {v : V} {ds : List D} {Q : VK} {E : XK} (h : Sto K st W) (hr : Rp K W v (.lst ds)) (hn : ds ≠ []) (hl : ds.length < 1000000) (q : ∀ r d W', Mod [st] W W' → Sto K st W' → d ∈ ds → Rp K W' r d → Q r W'.H) :
    spPick K ([.ref st, v] ++ []) W.H Q E := ⟨W, st, v, ds, rfl, rfl, h, .inl hr, hn, hl, q⟩
/-- small letters -/
def low (c : Nat) : Prop := 97 ≤ c ∧ c ≤ 122
def Low (z : Str) : Prop := ∀ c ∈ z.cps.toList, low c
def spSpell (K : PySem.W.Frag) : Sp := fun vs H Q _ => ∃ W st n, W.H = H ∧ vs = [.ref st, .int n] ∧ Sto K st W ∧ 0 ≤ n ∧ n ≤ 10000 ∧ ∀ z W', Mod [st] W W' → Sto K st W' → (z.length : Int) = n → Low z → Q (.str z) W'.H
theorem use_spell {K : PySem.W.Frag} {W : Wd} {st : Addr} {n : Int} {Q : VK} {E : XK} (h : Sto K st W) (h0 : 0 ≤ n) (hm : n ≤ 10000) (q : ∀ z W', Mod [st] W W' → Sto K st W' → (z.length : Int) = n → Low z → Q (.str z) W'.H) :
    spSpell K ([.ref st, .int n] ++ []) W.H Q E := ⟨W, st, n, rfl, rfl, h, h0, hm, q⟩
end Q
/-! KitF: texts -/
namespace Q
open PySem PySem.Spec PyProof.Rows L2 TL
/-- a text of one sign -/
abbrev sg (c : Nat) : Str := ⟨#[c]⟩
theorem joinL_nil : ∀ l : List (List Nat), joinL [] l = l.flatten
  | [] => rfl
  | [p] => by simp [joinL]
  | p :: q :: r => by
    show p ++ ([] ++ joinL [] (q :: r)) = _
    rw [List.nil_append, joinL_nil (q :: r)]
    simp
theorem tl_join0 (ys : List Str) : tl (Txt.join (Str.ofString "") ys) = (ys.map tl).flatten := by
  rw [join_eq, tl_join]
  have e : tl (Str.ofString "") = [] := rfl
  rw [e, joinL_nil]
theorem tl_join_sg (zs : List Nat) : tl (Txt.join (Str.ofString "") (zs.map sg)) = zs := by
  rw [tl_join0, List.map_map]
  induction zs with
  | nil => rfl
  | cons a r ih =>
    show ([a] : List Nat) ++ _ = _
    rw [show (List.map (tl ∘ sg) r).flatten = r from ih]
    rfl
theorem sum_sg (zs : List Nat) : ((zs.map sg).map (·.length)).sum = zs.length := by
  induction zs with
  | nil => rfl
  | cons a r ih =>
    rw [List.map_cons, List.map_cons, List.sum_cons, ih, List.length_cons]
    show 1 + _ = _
    omega
theorem len_app (a b : Str) : (a ++ b).length = a.length + b.length := by
  rw [len_tl, len_tl, len_tl, tl_append, List.length_append]
/-- all items of a written list are texts with a property -/
def allStr (P : Str → Bool) : List D → Bool
  | [] => true
  | .str s :: r => P s && allStr P r
  | _ :: _ => false
theorem allStr_mem {P : Str → Bool} {d : D} : ∀ {ds : List D}, allStr P ds = true → d ∈ ds → ∃ s, d = .str s ∧ P s = true
  | [], _, h => by cases h
  | e :: r, h, hm => by
    cases e with
    | str s =>
      have h' : (P s && allStr P r) = true := h
      rw [Bool.and_eq_true] at h'
      rcases List.mem_cons.mp hm with q | q
      · exact ⟨s, q, h'.1⟩
      · exact allStr_mem h'.2 q
    | _ => cases h
def lowB (z : Str) : Bool := z.cps.toList.all fun c => decide (97 ≤ c) && decide (c ≤ 122)
theorem low_of {z : Str} (h : lowB z = true) : Low z := fun c hc => by
  have h2 := List.all_eq_true.mp h c hc
  rw [Bool.and_eq_true] at h2
  exact ⟨of_decide_eq_true h2.1, of_decide_eq_true h2.2⟩
/-- a name: 1 to 8 small letters -/
def Nm (z : Str) : Prop := Low z ∧ 1 ≤ z.length ∧ z.length ≤ 8
def nmB (z : Str) : Bool := lowB z && (decide (1 ≤ z.length) && decide (z.length ≤ 8))
theorem nm_of {z : Str} (h : nmB z = true) : Nm z := by
  have h1 : (lowB z && (decide (1 ≤ z.length) && decide (z.length ≤ 8))) = true := h
  rw [Bool.and_eq_true, Bool.and_eq_true] at h1
  exact ⟨low_of h1.1, of_decide_eq_true h1.2.1, of_decide_eq_true h1.2.2⟩
/-- the text of a number -/
abbrev num (n : Nat) : Str := toString ((n : Nat) : Int)
theorem tl_numS (n : Nat) : tl (Str.ofString (toString ((n : Nat) : Int))) = numL n := tl_num n
theorem num_len {n k : Nat} (hk : 0 < k) (h : n < 10 ^ k) : (Str.ofString (toString ((n : Nat) : Int))).length ≤ k := by
  rw [len_tl, tl_num]
  exact numL_len hk h
theorem abc_at {r : Int} (h0 : 0 ≤ r) (h1 : r < 26) : ∃ c, atI (Str.ofString "abcdefghijklmnopqrstuvwxyz").cps.toList r = some c ∧ low c := by
  obtain ⟨n, rfl⟩ := Int.eq_ofNat_of_zero_le h0
  have hn : n < 26 := by omega
  have key : ∀ m : Nat, m < 26 → (Str.ofString "abcdefghijklmnopqrstuvwxyz").cps.toList[m]? = some (97 + m) := by decide +kernel
  exact ⟨97 + n, at_nat (key n hn), by unfold low; omega⟩
theorem log2_small {i : Int} (h : i.natAbs < 1920) : i.natAbs.log2 < 1920 := Nat.lt_of_le_of_lt (Nat.log2_le_self _) h
theorem foldl_size (c : Array Nat) : ∀ (n : Nat) (acc : Array Nat), ((List.replicate n c).foldl (· ++ ·) acc).size = acc.size + n * c.size
  | 0, acc => by simp
  | n + 1, acc => by
    rw [List.replicate_succ, List.foldl_cons, foldl_size c n, Array.size_append, Nat.succ_mul]
    omega
theorem mul_len {x : Str} {n : Int} (h : 1 ≤ n) : (Txt.mul x n).length = n.toNat * x.length := by
  unfold Txt.mul
  rw [if_neg (by omega)]
  by_cases h1 : (n == 1 || x.length == 0) = true
  · rw [if_pos h1]
    rw [Bool.or_eq_true] at h1
    rcases h1 with h1 | h1
    · have e : n = 1 := by simpa using h1
      rw [e]; show _ = 1 * _; omega
    · have e : x.length = 0 := by simpa using h1
      rw [e]; omega
  · rw [if_neg h1]
    show ((List.replicate n.toNat x.cps).foldl (· ++ ·) #[]).size = _
    rw [foldl_size]
    show 0 + n.toNat * x.cps.size = n.toNat * x.length
    rw [Nat.zero_add]; rfl
/-- text * number -/
def rMulS : R2 := fun x y H Q => ∃ (z : Str) (n : Int), x = .str z ∧ y = .int n ∧ z.length ≤ 1000 ∧ 1 ≤ n ∧ n ≤ 10000 ∧ Q (.str (Txt.mul z n)) H
theorem op_mulS {X : Cx} : OpR X (binaryOp .Mult) rMulS := by
  intro pins s σ H x y v u Q I rx ry h
  obtain ⟨z, n, rfl, rfl, hz, h1, h2, q⟩ := h
  obtain ⟨t, rfl⟩ := rx
  obtain ⟨t2, rfl⟩ := ry
  refine PySem.SB.mul ⟨?_, fun _ _ hh => ?_, fun _ _ => ?_⟩ fun t' k => ⟨.str _, H, I.tok _, ⟨_, rfl⟩, q⟩
  · rw [decide_eq_false (by omega), decide_eq_false (by omega)]; rfl
  · have e2 : (2 ^ 63 - 1 : Int) = 9223372036854775807 := by decide
    rw [e2] at hh
    have e : (1000 : Int) ≤ 9223372036854775807 / n := Int.le_ediv_of_mul_le (by omega) (by omega)
    omega
  · unfold PySem.Builtin.Str.tooLong
    have e : z.length * n.toNat ≤ 1000 * 10000 := Nat.mul_le_mul hz (by omega)
    have e2 : sizeLine = 16777216 := rfl
    first
      | (simp; omega)
      | (apply decide_eq_false; omega)
def rMulU : R2 := fun x y H Q => rI CMul (fun i j => .int (i * j)) x y H Q ∨ rMulS x y H Q
theorem o_mulU {X : Cx} : OpR X (binaryOp .Mult) rMulU := OpR.or2 op_mul op_mulS
theorem i_mulI {i j : Int} {H : Hp} {Q : VK} (h : CMul i j) (q : Q (.int (i * j)) H) : rMulU (.int i) (.int j) H Q := .inl ⟨i, j, rfl, rfl, h, q⟩
theorem i_mulS {z : Str} {n : Int} {H : Hp} {Q : VK} (hz : z.length ≤ 1000) (h1 : 1 ≤ n) (h2 : n ≤ 10000) (q : Q (.str (Txt.mul z n)) H) : rMulU (.str z) (.int n) H Q := .inr ⟨z, n, rfl, rfl, hz, h1, h2, q⟩
/-! promises of drawn texts -/
/-- a draw from the store alone, of what P says -/
def spDraw (K : PySem.W.Frag) (P : D → Prop) : Sp := fun vs H Q _ => ∃ W st, W.H = H ∧ vs = [.ref st] ∧ Sto K st W ∧ ∀ v d W', Mod [st] W W' → Sto K st W' → Rp K W' v d → P d → Q v W'.H
theorem use_draw {K : PySem.W.Frag} {P : D → Prop} {W : Wd} {st : Addr} {Q : VK} {E : XK} (h : Sto K st W) (q : ∀ v d W', Mod [st] W W' → Sto K st W' → Rp K W' v d → P d → Q v W'.H) : spDraw K P ([.ref st] ++ []) W.H Q E := ⟨W, st, rfl, rfl, h, q⟩
/-- a text with P -/
def IsS (P : Str → Prop) (d : D) : Prop := ∃ z, d = .str z ∧ P z
theorem use_drawS {K : PySem.W.Frag} {P : Str → Prop} {W : Wd} {st : Addr} {Q : VK} {E : XK} (h : Sto K st W) (q : ∀ z W', Mod [st] W W' → Sto K st W' → P z → Q (.str z) W'.H) : spDraw K (IsS P) ([.ref st] ++ []) W.H Q E :=
  use_draw h fun v d W' m s r p => by
    obtain ⟨z, rfl, hz⟩ := p
    cases r
    exact q z W' m s hz
theorem ret_drawS {K : PySem.W.Frag} {P : Str → Prop} {W W' : Wd} {st : Addr} {Q : VK} (k : ∀ v d W', Mod [st] W W' → Sto K st W' → Rp K W' v d → IsS P d → Q v W'.H) {z : Str} (m : Mod [st] W W') (s : Sto K st W') (h : P z) : Q (.str z) W'.H := k _ _ _ m s .str ⟨z, rfl, h⟩
/-- a list made anew, of these -/
def spNew (K : PySem.W.Frag) (ds : List D) : Sp := fun vs H Q _ => ∃ W, W.H = H ∧ vs = [] ∧ ∀ p W', Mod [] W W' → W.H p = none → Rp K W' (.ref p) (.lst ds) → Q (.ref p) W'.H
theorem use_new {K : PySem.W.Frag} {ds : List D} {W : Wd} {Q : VK} {E : XK} (q : ∀ p W', Mod [] W W' → W.H p = none → Rp K W' (.ref p) (.lst ds) → Q (.ref p) W'.H) : spNew K ds ([] ++ []) W.H Q E := ⟨W, rfl, rfl, q⟩
/-- at most so long -/
def Le (n : Nat) (z : Str) : Prop := z.length ≤ n
def leB (n : Nat) (z : Str) : Bool := decide (z.length ≤ n)
theorem le_of {n : Nat} {z : Str} (h : leB n z = true) : z.length ≤ n := of_decide_eq_true h
/-- a letter: a name, or a name, a dot and a number from 0 to 99 -/
def Lt (z : Str) : Prop := ∃ nm, Nm nm ∧ (z = nm ∨ ∃ k : Nat, k ≤ 99 ∧ z = nm ++ Str.ofString "." ++ Str.ofString (toString ((k : Nat) : Int)))
theorem Lt.len {z : Str} (h : Lt z) : z.length ≤ 11 := by
  obtain ⟨nm, ⟨_, _, h3⟩, e | ⟨k, hk, e⟩⟩ := h
  · rw [e]; omega
  · rw [e, len_app, len_app]
    have h1 := num_len (n := k) (k := 2) (by decide) (by omega)
    have h2 : (Str.ofString ".").length = 1 := rfl
    omega
abbrev resDs : List D := [.str (Str.ofString "line"), .str (Str.ofString "not"), .str (Str.ofString "and"), .str (Str.ofString "or"), .str (Str.ofString "by"), .str (Str.ofString "quiet"), .str (Str.ofString "stuck"), .str (Str.ofString "done"), .str (Str.ofString "own")]
end Q
namespace Q
open PySem PySem.Spec PyProof.Rows L2 TL
/-! ### isinstance of data -/
def isT (T : String) : D → Bool
  | .non => false
  | .bl _ => T == "bool" || T == "int"
  | .int _ => T == "int"
  | .str _ => T == "str"
  | .lst _ => T == "list"
  | .tup _ => T == "tuple"
  | .dct _ => T == "dict"
abbrev Ts : List String := ["int", "str", "bool", "list", "tuple", "dict"]
theorem isi_D {K : PySem.W.Frag} {W : Wd} {v : V} {d : D} {T : String} {Q : VK} (h : Rp K W v d) (hT : T ∈ Ts) (q : Q (.bl (isT T d)) W.H) : rIsi K [v, .ty T] W.H Q := by
  have key : ∀ (t : String), TyX K W.H v (.type t) → PySem.W.kitOne K (.type t) (.type T) = some (isT T d) → rIsi K [v, .ty T] W.H Q := fun t ht e => ⟨_, _, _, _, _, rfl, .ty T, ht, e, q⟩
  simp only [Ts, List.mem_cons, List.not_mem_nil, or_false] at hT
  cases h with
  | non => exact ⟨_, _, .type "NoneType", _, _, rfl, .ty T, .base .non, by rcases hT with rfl | rfl | rfl | rfl | rfl | rfl <;> rfl, q⟩
  | bl => exact key "bool" (.base (.bl _)) (by rcases hT with rfl | rfl | rfl | rfl | rfl | rfl <;> rfl)
  | int => exact key "int" (.base (.int _)) (by rcases hT with rfl | rfl | rfl | rfl | rfl | rfl <;> rfl)
  | str => exact key "str" (.base (.str _)) (by rcases hT with rfl | rfl | rfl | rfl | rfl | rfl <;> rfl)
  | lst e _ _ => exact key "list" (.base (.lst e)) (by rcases hT with rfl | rfl | rfl | rfl | rfl | rfl <;> rfl)
  | @tup a xs ds e _ =>
    have k2 : PySem.W.kitOne K (.type "tuple") (.type T) = some (isT T (.tup ds)) := by rcases hT with rfl | rfl | rfl | rfl | rfl | rfl <;> rfl
    rcases e with (e | ⟨o, e⟩) | ⟨o, its, n, e1, e2, _⟩
    · exact key "tuple" (.base (.tup e)) k2
    · exact key "tuple" (.fTuple e) k2
    · exact key "tuple" (.kTuple e1 e2) k2
  | @dct a kvs ds e _ _ =>
    have k2 : PySem.W.kitOne K (.type "dict") (.type T) = some (isT T (.dct ds)) := by rcases hT with rfl | rfl | rfl | rfl | rfl | rfl <;> rfl
    rcases e with e | ⟨o, e⟩
    · exact key "dict" (.base (.dK e)) k2
    · exact key "dict" (.fDict e) k2
end Q
/-! KitG: names and letters -/
namespace Q
open PySem PySem.Spec PyProof.Rows L2 TL
/-- a test of one datum -/
def spB1 (K : PySem.W.Frag) (f : D → Bool) (Pre : D → Prop) : Sp := fun vs H Q _ => ∃ W v d, W.H = H ∧ vs = [v] ∧ Rp K W v d ∧ Pre d ∧ ∀ W', Mod [] W W' → Q (.bl (f d)) W'.H
theorem use_B1 {K : PySem.W.Frag} {f : D → Bool} {Pre : D → Prop} {W : Wd} {v : V} {d : D} {Q : VK} {E : XK} (h : Rp K W v d) (p : Pre d) (q : ∀ W', Mod [] W W' → Q (.bl (f d)) W'.H) : spB1 K f Pre ([v] ++ []) W.H Q E := ⟨W, v, d, rfl, rfl, h, p, q⟩
/-- texts are not too long -/
def Sz (d : D) : Prop := ∀ z, d = .str z → z.length ≤ 100000
def isNm : D → Bool
  | .str z => nmB z
  | _ => false
abbrev dot : Str := Str.ofString "."
theorem tl_dot : tl dot = [46] := rfl
def digB (c : Nat) : Bool := decide (48 ≤ c) && decide (c ≤ 57)
/-- a number from 0 to 99, no nought ahead -/
def shortL (l : List Nat) : Bool := (decide (1 ≤ l.length) && decide (l.length ≤ 2)) && (l.all digB && (decide (l.length = 1) || !decide (l.head? = some 48)))
def shortB (z : Str) : Bool := shortL (tl z)
def letZ (z : Str) : Bool := if 46 ∈ tl z then nmB (Txt.partition z dot).1 && shortB (Txt.partition z dot).2.2 else nmB z
def isLet : D → Bool
  | .str z => letZ z
  | _ => false
theorem isT_str {d : D} (h : isT "str" d = true) : ∃ z, d = .str z := by
  cases d with
  | str z => exact ⟨z, rfl⟩
  | _ => simp [isT] at h
theorem isT_str_f {d : D} (h : isT "str" d = false) : isNm d = false ∧ isLet d = false := by
  cases d with
  | str z => simp [isT] at h
  | _ => exact ⟨rfl, rfl⟩
theorem mem_abc (c : Nat) : c ∈ tl (Str.ofString "abcdefghijklmnopqrstuvwxyz") ↔ (97 ≤ c ∧ c ≤ 122) := by
  constructor
  · intro h
    have k : ∀ d ∈ tl (Str.ofString "abcdefghijklmnopqrstuvwxyz"), 97 ≤ d ∧ d ≤ 122 := by decide +kernel
    exact k c h
  · rintro ⟨h1, h2⟩
    have k : ∀ d : Nat, d < 26 → 97 + d ∈ tl (Str.ofString "abcdefghijklmnopqrstuvwxyz") := by decide +kernel
    have := k (c - 97) (by omega)
    rwa [show 97 + (c - 97) = c by omega] at this
theorem mem_dig (c : Nat) : c ∈ tl (Str.ofString "0123456789") ↔ (48 ≤ c ∧ c ≤ 57) := by
  constructor
  · intro h
    have k : ∀ d ∈ tl (Str.ofString "0123456789"), 48 ≤ d ∧ d ≤ 57 := by decide +kernel
    exact k c h
  · rintro ⟨h1, h2⟩
    have k : ∀ d : Nat, d < 10 → 48 + d ∈ tl (Str.ofString "0123456789") := by decide +kernel
    have := k (c - 48) (by omega)
    rwa [show 48 + (c - 48) = c by omega] at this
theorem dec_abc (c : Nat) : decide (c ∈ (Str.ofString "abcdefghijklmnopqrstuvwxyz").cps.toList) = (decide (97 ≤ c) && decide (c ≤ 122)) := by
  rw [Bool.eq_iff_iff, Bool.and_eq_true, decide_eq_true_eq, decide_eq_true_eq, decide_eq_true_eq]
  exact mem_abc c
theorem dec_dig (c : Nat) : decide (c ∈ (Str.ofString "0123456789").cps.toList) = digB c := by
  unfold digB
  rw [Bool.eq_iff_iff, Bool.and_eq_true, decide_eq_true_eq, decide_eq_true_eq, decide_eq_true_eq]
  exact mem_dig c
/-! a text with a dot -/
theorem dot_split {z : Str} (h : 46 ∈ tl z) : ∃ a b : Str, z = a ++ dot ++ b ∧ 46 ∉ tl a := by
  obtain ⟨l, r, e, hl⟩ := List.eq_append_cons_of_mem h
  refine ⟨⟨l.toArray⟩, ⟨r.toArray⟩, ext_tl ?_, hl⟩
  rw [tl_append, tl_append, tl_mk, tl_mk, tl_dot]
  show tl z = l ++ [46] ++ r
  rw [e]
  simp
theorem part_dot {a b : Str} (h : 46 ∉ tl a) : Txt.partition (a ++ dot ++ b) dot = (a, dot, b) := partition_app (y := dot) (s := 46) (S := []) rfl h
theorem part_none {a : Str} (h : 46 ∉ tl a) : Txt.partition a dot = (a, Str.empty, Str.empty) := partition_none (y := dot) (s := 46) (S := []) rfl h
theorem letZ_dot {a b : Str} (h : 46 ∉ tl a) : letZ (a ++ dot ++ b) = (nmB a && shortB b) := by
  unfold letZ
  rw [if_pos (by rw [tl_append, tl_append, tl_dot]; simp), part_dot h]
theorem letZ_none {a : Str} (h : 46 ∉ tl a) : letZ a = nmB a := by
  unfold letZ
  rw [if_neg h]
theorem nm_nodot {z : Str} (h : nmB z = true) : 46 ∉ tl z := fun hm => by
  have := (nm_of h).1 46 hm
  unfold low at this
  omega
theorem find_dot {a b : Str} (h : 46 ∉ tl a) : Txt.find (a ++ dot ++ b) dot = (a.length : Int) := by
  have e : dot = (⟨#[46]⟩ : Str) := rfl
  unfold Txt.find
  have hz : ∀ v, (tl (a ++ dot ++ b))[v]? = some 46 → a.length ≤ v := by
    intro v hv
    rw [tl_append, tl_append, List.append_assoc] at hv
    apply Classical.byContradiction
    intro hlt
    rw [len_tl] at hlt
    rw [List.getElem?_append_left (by omega)] at hv
    exact h (List.mem_of_getElem? hv)
  have hat : (tl (a ++ dot ++ b))[a.length]? = some 46 := by
    rw [tl_append, tl_append, List.append_assoc, tl_dot, len_tl, List.getElem?_append_right (Nat.le_refl _)]
    simp
  rcases StrLaws.occ_head_from (a ++ dot ++ b) ⟨#[46]⟩ 0 1 (Nat.le_refl 1) with ⟨h0, hn⟩ | ⟨k, r, h0, hlo, hk, hn⟩
  · exact absurd ((StrLaws.subAt_one _ 46 a.length).mpr hat) (hn a.length (Nat.zero_le _))
  · show (match Builtin.Str.occurrences (a ++ dot ++ b) ⟨#[46]⟩ 0 (a ++ dot ++ b).length 1 with | i :: _ => (i : Int) | [] => -1) = _
    rw [h0]
    have hm := (StrLaws.subAt_one _ 46 k).mp hk
    have h1 := hz k hm
    have h2 : ¬ a.length < k := fun hlt => hn a.length (Nat.zero_le _) hlt ((StrLaws.subAt_one _ 46 a.length).mpr hat)
    show ((k : Nat) : Int) = _
    omega
theorem cut_pre {a b : Str} : cutS (a ++ b) none (some (a.length : Int)) = a := by
  refine ext_tl ?_
  show ((tl (a ++ b)).drop (HT.sIx (a ++ b).length 0 none)).take (HT.sIx (a ++ b).length (a ++ b).length (some (a.length : Int)) - HT.sIx (a ++ b).length 0 none) = tl a
  have e1 : HT.sIx (a ++ b).length 0 none = 0 := rfl
  have e2 : HT.sIx (a ++ b).length (a ++ b).length (some (a.length : Int)) = a.length := by
    show (if (a.length : Int) < 0 then ((a.length : Int) + ((a ++ b).length : Int)).toNat else min ((a.length : Int)).toNat (a ++ b).length) = _
    rw [if_neg (by omega), len_app]
    omega
  rw [e1, e2, tl_append, List.drop_zero, Nat.sub_zero, len_tl, List.take_left]
theorem cut_suf {a b : Str} {n : Int} (hn : n = (a.length : Int)) : cutS (a ++ b) (some n) none = b := by
  subst hn
  refine ext_tl ?_
  show ((tl (a ++ b)).drop (HT.sIx (a ++ b).length 0 (some (a.length : Int)))).take (HT.sIx (a ++ b).length (a ++ b).length none - HT.sIx (a ++ b).length 0 (some (a.length : Int))) = tl b
  have e1 : HT.sIx (a ++ b).length (a ++ b).length none = (a ++ b).length := rfl
  have e2 : HT.sIx (a ++ b).length 0 (some (a.length : Int)) = a.length := by
    show (if (a.length : Int) < 0 then ((a.length : Int) + ((a ++ b).length : Int)).toNat else min ((a.length : Int)).toNat (a ++ b).length) = _
    rw [if_neg (by omega), len_app]
    omega
  rw [e1, e2, tl_append, len_tl a, List.drop_left, len_app, len_tl a, len_tl b]
  rw [List.take_of_length_le (by omega)]
section
variable {K : PySem.W.Frag} {W : Wd} {H : Hp} {Q : VK} {v x y : V} {d : D} {T : String} {z : Str} {c : Nat} {i : Int}
theorem g_isi {xs : List V} (h : rIsi K xs H Q) : rIsi K xs H Q := h
theorem isi_t (h : Rp K W v d) (hT : T ∈ Ts) (hb : isT T d = true) (q : Q (.bl true) W.H) : rIsi K [v, .ty T] W.H Q := isi_D h hT (by rw [hb]; exact q)
theorem isi_f (h : Rp K W v d) (hT : T ∈ Ts) (hb : isT T d = false) (q : Q (.bl false) W.H) : rIsi K [v, .ty T] W.H Q := isi_D h hT (by rw [hb]; exact q)
theorem inSg {neg : Bool} (q : Q (.bl (if neg then !decide (c ∈ z.cps.toList) else decide (c ∈ z.cps.toList))) H) : rInU K neg (.str ⟨#[c]⟩) (.str z) H Q := .inr (.inl ⟨c, z, rfl, rfl, q⟩)
theorem inSg1 (q : Q (.bl (decide (c ∈ z.cps.toList))) H) : rInU K false (.str ⟨#[c]⟩) (.str z) H Q := inSg q
theorem inSg0 (q : Q (.bl (!decide (c ∈ z.cps.toList))) H) : rInU K true (.str ⟨#[c]⟩) (.str z) H Q := inSg q
theorem inL1 {p : Addr} {xs : List V} (h : SqL K W.H p xs ∨ SqT K W.H p xs) (fx : flatV x = true) (fs : xs.all flatV = true) (q : Q (.bl (inV x xs)) W.H) : rInU K false x (.ref p) W.H Q := .inl ⟨p, xs, rfl, h, fx, fs, q⟩
theorem inL0 {p : Addr} {xs : List V} (h : SqL K W.H p xs ∨ SqT K W.H p xs) (fx : flatV x = true) (fs : xs.all flatV = true) (q : Q (.bl (!inV x xs)) W.H) : rInU K true x (.ref p) W.H Q := .inl ⟨p, xs, rfl, h, fx, fs, q⟩
theorem slS {lo hi : Option Int} (hz : z.length ≤ sizeLine) (q : Q (.str (cutS z lo hi)) H) : rSlU K (.str z) lo hi H Q := .inr ⟨z, rfl, hz, q⟩
theorem allL {p : Addr} {bs : List Bool} (h : SqL K W.H p (bs.map V.bl)) (q : Q (.bl (bs.all id)) W.H) : rAll K [.ref p] W.H Q := ⟨p, bs, rfl, h, q⟩
theorem ix0S (hz : z.length ≤ sizeLine) (h : z.cps.toList.head? = some c) (q : Q (.str ⟨#[c]⟩) W.H) : rIx K (.str z) (.int 0) W.H Q := ixS hz (at_nat (j := 0) (by rw [← List.head?_eq_getElem?]; exact h)) q
/-! unpacking -/
theorem i_gnil {σ : L2.St} {R : L2.St → Hp → Prop} (h : R σ H) : gNil [] σ H R := ⟨rfl, h⟩
theorem i_gcons {σ : L2.St} {R : L2.St → Hp → Prop} {t : TG} {u : TGs} {xs : List V} (h : t x σ H fun σ' H' => u xs σ' H' R) : gCons t u (x :: xs) σ H R := ⟨x, xs, rfl, h⟩
theorem i_gtup {σ : L2.St} {R : L2.St → Hp → Prop} {t : TGs} {n : Nat} {p : Addr} {xs : List V} (h : SqT K W.H p xs) (hn : xs.length = n) (q : t xs σ W.H R) : gTup K n t (.ref p) σ W.H R := ⟨p, xs, rfl, h, hn, q⟩
theorem g_gtup {σ : L2.St} {R : L2.St → Hp → Prop} {t : TGs} {n : Nat} (h : gTup K n t x σ H R) : gTup K n t x σ H R := h
/-! partition, split -/
theorem partS {a b : Str} (hb : (b.length == 0) = false) (hz : a.length ≤ sizeLine) (q : ∀ p W', Mod [] W W' → W.H p = none → SqT K W'.H p [.str (Txt.partition a b).1, .str (Txt.partition a b).2.1, .str (Txt.partition a b).2.2] → Q (.ref p) W'.H) :
    rPartK (.str a) [.str b] W.H Q :=
  ⟨a, b, rfl, rfl, hb, hz, new_tup (K := K) (ds := [.str (Txt.partition a b).1, .str (Txt.partition a b).2.1, .str (Txt.partition a b).2.2]) (G := Q) (.cons .str (.cons .str (.cons .str .nil))) fun p W' m n s _ => q p W' m n s⟩
theorem splitS {a b : Str} (hb : (b.length == 0) = false) (hz : a.length + 2 ≤ sizeLine) (q : ∀ p W', Mod [] W W' → W.H p = none → Rp K W' (.ref p) (.lst ((Txt.split a b).map D.str)) → Q (.ref p) W'.H) :
    rSplitK (.str a) [.str b] W.H Q :=
  ⟨a, b, rfl, rfl, hb, hz, new_lst (K := K) (G := Q) (RpL.map (f := V.str) (g := D.str) (fun _ => .str) (Txt.split a b)) fun p W' m n _ s => q p W' m n s⟩
end
theorem all_map {l : List Nat} {P : Nat → Bool} {xs : List V} (h : xs = l.map fun c => V.bl (P c)) : xs = (l.map P).map V.bl := by rw [h, List.map_map]; rfl
/-- whole numbers in a range -/
def wholeB (d : D) (lo hi : Int) : Bool := match d with
  | .int i => decide (lo ≤ i) && decide (i ≤ hi)
  | _ => false
def spWhole (K : PySem.W.Frag) : Sp := fun vs H Q _ => ∃ W v d lo hi, W.H = H ∧ vs = [v, .int lo, .int hi] ∧ Rp K W v d ∧ Q (.bl (wholeB d lo hi)) W.H
theorem use_whole {K : PySem.W.Frag} {W : Wd} {v : V} {d : D} {lo hi : Int} {Q : VK} {E : XK} (h : Rp K W v d) (q : Q (.bl (wholeB d lo hi)) W.H) : spWhole K ([v, .int lo, .int hi] ++ []) W.H Q E := ⟨W, v, d, lo, hi, rfl, rfl, h, q⟩
def isWh : D → Bool
  | .int _ => true
  | _ => false
/-- the module's name x is a tuple of these -/
def GTup (Z : Env) (x : Str) (vs : List V) : Prop := ∃ a, Gv Z x (.ref a) ∧ ∀ H, SqT Z.K H a vs
abbrev resVs : List V := [.str (Str.ofString "line"), .str (Str.ofString "not"), .str (Str.ofString "and"), .str (Str.ofString "or"), .str (Str.ofString "by"), .str (Str.ofString "quiet"), .str (Str.ofString "stuck"), .str (Str.ofString "done"), .str (Str.ofString "own")]
def isFree : D → Bool
  | .str z => nmB z && !inV (.str z) resVs
  | _ => false
theorem isFree_nm {d : D} (h : isNm d = false) : isFree d = false := by
  cases d with
  | str z =>
    have h' : nmB z = false := h
    show (nmB z && _) = false
    rw [h']; rfl
  | _ => rfl
theorem isNm_str {d : D} (h : isNm d = true) : ∃ z, d = .str z ∧ nmB z = true := by
  cases d with
  | str z => exact ⟨z, rfl, h⟩
  | _ => cases h
def isShort : D → Bool
  | .str z => shortB z
  | _ => false
/-- a text, not too long -/
def TxtD (d : D) : Prop := ∃ z, d = .str z ∧ z.length ≤ 100000
/-! numbers from 0 to 99 -/
theorem numL_form {k : Nat} (h : k < 100) : numL k = if k < 10 then [48 + k] else [48 + k / 10, 48 + k % 10] := by
  by_cases h1 : k < 10
  · rw [if_pos h1, numL_lt h1]
  · rw [if_neg h1, numL_step (by omega), numL_lt (by omega)]
    rfl
theorem short_num {k : Nat} (h : k ≤ 99) : shortL (numL k) = true := by
  have key : ∀ k : Nat, k < 100 → shortL (if k < 10 then [48 + k] else [48 + k / 10, 48 + k % 10]) = true := by decide +kernel
  rw [numL_form (by omega)]
  exact key k (by omega)
theorem short_is {l : List Nat} (h : shortL l = true) : ∃ k : Nat, k ≤ 99 ∧ l = numL k := by
  unfold shortL digB at h
  simp only [Bool.and_eq_true, Bool.or_eq_true, decide_eq_true_eq, List.all_eq_true, Bool.not_eq_true', decide_eq_false_iff_not] at h
  obtain ⟨⟨h1, h2⟩, h3, h4⟩ := h
  match l, h1, h2, h3, h4 with
  | [a], _, _, h3, _ =>
    have ha := h3 a (by simp)
    refine ⟨a - 48, by omega, ?_⟩
    rw [numL_form (by omega), if_pos (by omega)]
    congr 1
    omega
  | [a, b], _, _, h3, h4 =>
    have ha := h3 a (by simp)
    have hb := h3 b (by simp)
    have hn : a ≠ 48 := by
      rcases h4 with h4 | h4
      · simp at h4
      · simpa using h4
    refine ⟨(a - 48) * 10 + (b - 48), by omega, ?_⟩
    rw [numL_form (by omega), if_neg (by omega)]
    have e1 : ((a - 48) * 10 + (b - 48)) / 10 = a - 48 := by omega
    have e2 : ((a - 48) * 10 + (b - 48)) % 10 = b - 48 := by omega
    rw [e1, e2]
    congr 1
    · omega
    · congr 1
      omega
  | a :: b :: c :: r, _, h2, _, _ => simp at h2
abbrev nums : Nat → Str := fun k => Str.ofString (toString ((k : Nat) : Int))
theorem shortB_iff {z : Str} : shortB z = true ↔ ∃ k : Nat, k ≤ 99 ∧ z = nums k := by
  constructor
  · intro h
    obtain ⟨k, hk, e⟩ := short_is h
    exact ⟨k, hk, ext_tl (by rw [e, tl_num])⟩
  · rintro ⟨k, hk, rfl⟩
    unfold shortB
    rw [tl_num]
    exact short_num hk
theorem num_nodot (k : Nat) : 46 ∉ tl (nums k) := by
  rw [tl_num]
  exact numL_free (.inl (by decide))
theorem isNm_eq (z : Str) : isNm (.str z) = (decide (1 ≤ z.length) && decide (z.length ≤ 8) && ((tl z).filter fun c => !(decide (97 ≤ c) && decide (c ≤ 122))).isEmpty) := by
  show (lowB z && (decide (1 ≤ z.length) && decide (z.length ≤ 8))) = _
  rw [Bool.and_comm]
  congr 1
  show (tl z).all _ = _
  rw [Bool.eq_iff_iff, List.all_eq_true, List.isEmpty_iff, List.filter_eq_nil_iff]
  constructor
  · intro h c hc
    rw [h c hc]; decide
  · intro h c hc
    have := h c hc
    simpa using this
theorem inV_nums (b : Str) : inV (.str b) ((List.range 100).map fun k => V.str (nums k)) = shortB b := by
  rw [Bool.eq_iff_iff, shortB_iff]
  unfold inV
  rw [List.any_eq_true]
  constructor
  · rintro ⟨v, hv, he⟩
    obtain ⟨k, hk, rfl⟩ := List.mem_map.mp hv
    have hk := List.mem_range.mp hk
    have e : nums k = b := by
      have h2 : (nums k == b) = true := he
      simpa using h2
    exact ⟨k, by omega, e.symm⟩
  · rintro ⟨k, hk, rfl⟩
    refine ⟨_, List.mem_map.mpr ⟨k, List.mem_range.mpr (by omega), rfl⟩, ?_⟩
    show (nums k == nums k) = true
    simp
theorem letZ_nm {z : Str} (h : nmB z = true) : letZ z = true := by rw [letZ_none (nm_nodot h)]; exact h
theorem filter_one_t {P : Nat → Bool} {c : Nat} (h : P c = true) : List.filter P (some c).toList = [c] := by
  show List.filter P [c] = _
  rw [List.filter_cons_of_pos h, List.filter_nil]
theorem filter_one_f {P : Nat → Bool} {c : Nat} (h : P c = false) : List.filter P (some c).toList = [] := by
  show List.filter P [c] = _
  rw [List.filter_cons_of_neg (by rw [h]; decide), List.filter_nil]
theorem RpL.strs {K : PySem.W.Frag} {W : Wd} : ∀ {xs : List V} {zs : List Str}, RpL K W xs (zs.map D.str) → xs = zs.map V.str
  | _, [], h => by cases h; rfl
  | _, z :: zs, h => by
    cases h with
    | cons h1 h2 =>
      cases h1
      rw [h2.strs]
      rfl
abbrev resZs : List Str := [Str.ofString "line", Str.ofString "not", Str.ofString "and", Str.ofString "or", Str.ofString "by", Str.ofString "quiet", Str.ofString "stuck", Str.ofString "done", Str.ofString "own"]
/-! drawn values -/
def IsI (P : Int → Prop) (d : D) : Prop := ∃ i, d = .int i ∧ P i
def Big (i : Int) : Prop := 0 ≤ i ∧ i < 3000000000000000000000000000000000000000000000000000000
abbrev oddDs : List D := [.lst [], .tup [], .dct [(.inr (Str.ofString "a"), .int 1)], .lst [.int 0, .lst [.int 1]], .tup [.int 0, .str (Str.ofString "send"), .int 1, .str (Str.ofString "a")]]
/-- a value of any kind -/
def Val (d : D) : Prop := d = .non ∨ (∃ b, d = .bl b) ∨ (∃ i, d = .int i ∧ -4000000000000000000000000000000000000000000000000000000 < i ∧ i < 4000000000000000000000000000000000000000000000000000000) ∨ (∃ z, d = .str z ∧ z.length ≤ 6000) ∨ d ∈ oddDs
theorem Val.sz {d : D} (h : Val d) : Sz d := fun z e => by
  subst e
  rcases h with h | ⟨b, h⟩ | ⟨i, h, _⟩ | ⟨y, h, hy⟩ | h
  · cases h
  · cases h
  · cases h
  · cases h; omega
  · simp [oddDs] at h
theorem use_drawI {K : PySem.W.Frag} {P : Int → Prop} {W : Wd} {st : Addr} {Q : VK} {E : XK} (h : Sto K st W) (q : ∀ i W', Mod [st] W W' → Sto K st W' → P i → Q (.int i) W'.H) : spDraw K (IsI P) ([.ref st] ++ []) W.H Q E :=
  use_draw h fun v d W' m s r p => by
    obtain ⟨z, rfl, hz⟩ := p
    cases r
    exact q z W' m s hz
theorem ret_draw {K : PySem.W.Frag} {P : D → Prop} {W W' : Wd} {st : Addr} {Q : VK} (k : ∀ v d W', Mod [st] W W' → Sto K st W' → Rp K W' v d → P d → Q v W'.H) {v : V} {d : D} (m : Mod [st] W W') (s : Sto K st W') (r : Rp K W' v d) (h : P d) : Q v W'.H := k _ _ _ m s r h
theorem cut_len (z : Str) (lo hi : Option Int) : (cutS z lo hi).length ≤ z.length := cutS_length z lo hi
theorem abc2_at {r : Int} (h0 : 0 ≤ r) (h1 : r < 24) : ∃ c, atI (Str.ofString "abcxyz012345678910......").cps.toList r = some c := by
  obtain ⟨n, rfl⟩ := Int.eq_ofNat_of_zero_le h0
  have hl : n < (Str.ofString "abcxyz012345678910......").cps.toList.length := by
    have : (Str.ofString "abcxyz012345678910......").cps.toList.length = 24 := by decide +kernel
    omega
  exact ⟨_, at_nat (List.getElem?_eq_getElem hl)⟩
/-- a written dict -/
theorem mk_disp1 {K : PySem.W.Frag} {W : Wd} {σ : L2.St} {k : Str} {n : Int} {Q : VK} (q : ∀ p W', Mod [] W W' → W.H p = none → Rp K W' (.ref p) (.dct [(.inr k, .int n)]) → Q (.ref p) W'.H) : tDisp [(tC (.str k), tC (.int n))] σ W.H Q := fun p hp =>
  ⟨upd_same, [(.inr k, .int n)], rfl, (show 1 ≤ 15 by decide), by
    rw [upd_upd]
    exact mk_dct (K := K) (ds := [(.inr k, .int n)]) (.cons .int .nil) q p hp⟩
end Q
/-! KitH: errors: raised, caught, told within the clause -/
namespace Q
open PySem PySem.Spec PyProof.Rows L2 TL
abbrev vBase : List Value := [.type "ValueError", .type "Exception", .type "BaseException", .type "object"]
/-- an error class of the text, made with a text -/
structure ErrC (Z : Env) (x : Str) (C : Addr) : Prop where
  gl : Z.mg x = some (.ref C)
  kp : PySem.W.keepIn Z.K (.ref C) = true
  exc : PySem.W.excIn Z.K C vBase "ValueError.__new__" = true
  sub : PySem.W.subIn Z.K (.ref C) (.type "BaseException") = some true
  ty : PySem.W.typeIn Z.K (.ref C) = some (.type "type")
abbrev CXn (Z : Env) : CXT := L2N.CX Z.P Z.w
section
variable {Z : Env} {X : Cx} {x m : Str} {C : Addr} {j k : Nat} {p p2 pos : Pos} {ps : List Str} {dvs : List V} {sp : Sp} {e : Expr} {es : List Expr} {t : TA} {te : TE}
theorem pmkE (q : ErrC Z x C) (z : At Z X := by exact ⟨rfl, rfl, rfl, rfl, rfl⟩) (hg : Gl X x := by rfl) (hdb : (x == ("__debug__" : Str)) = false := by decide) :
    L2N.PMk X (.Call (.Name x p) [.Constant (.str m) j p2] [] pos) (fun _ H Q => Q (.ref C) none H) := by
  obtain ⟨h1, h2, h3, h4, h5⟩ := q
  obtain ⟨e1, e2, e3, e4, e5⟩ := z
  rw [← e4] at h1
  rw [← e3] at h2 h3 h4 h5
  exact L2N.pmk_own PySem.F.excBase_ValueError h3 h1 h2 (raises_own h4 h5) hg hdb
/-- a callee that might raise, where it does not -/
theorem passN : Passes (CXn Z) X E0 := fun _ _ _ _ _ _ _ h => by
  obtain ⟨_, _, _, _, _, _, _, _, _, _, _, _, z⟩ := h
  exact z.elim
theorem takesN : L2N.Takes X (fun _ _ _ _ => False) := fun _ _ x => by
  obtain ⟨_, _, _, _, _, _, _, _, _, _, _, _, _, _, _, _, z⟩ := x
  exact z.elim
/-- a callee that may raise, within a try -/
def tCallT (sp : Sp) (dvs : List V) (W : L2.WX) (t : TA) : TE := fun σ H Q => t σ H fun vs H1 => sp (vs ++ dvs) H1 Q (fun cls d H2 => W cls d σ H2)
theorem pcallT {W : L2.WX} (tk : L2N.Takes X W) (c : Can Z (CXn Z) k x ps dvs sp) (hr : Room k X.A) (ha : PA X (e :: es) t) (z : At Z X := by exact ⟨rfl, rfl, rfl, rfl, rfl⟩) (hg : Gl X x := by rfl) (hdb : (x == ("__debug__" : Str)) = false := by decide)
    (he : starEach (e :: es) X.env = (false, eval e X.env) :: starEach es X.env := by rfl) (hpl : (backTo pos (starEach es X.env)).any (·.1) = false := by rfl) :
    PE X (.Call (.Name x p) (e :: es) [] pos) (tCallT sp dvs W t) := by
  obtain ⟨f, fd, ds, h1, h2, h3, h4, h5⟩ := c
  obtain ⟨e1, e2, e3, e4, e5⟩ := z
  refine ⟨fun pins s σ H Q I h => ?_⟩
  have tk2 := L2N.passAt tk σ
  rw [e1, e2] at tk2
  rw [← e1, ← e2, ← e3, ← e4, ← e5] at h5
  rw [← e4] at h1
  rw [← e3] at h2 h3
  refine wpAny_Call_Name_kw (ld_glob I hg h1 ?_ hdb)
  refine PySem.W.callWith_K (h₀ := X.base) I.ok.mod.kin h2 (thn (ha.run pos pins s σ H _ I h) fun us s1 ⟨vs, H1, I1, r, q⟩ => ⟨I1.kIn, ?_⟩) he hpl
  have r2 : Vals (vs ++ dvs) (us ++ ds) := r.append h4
  have hl : (us ++ ds).length = ps.length := by rw [← r2.length]; exact h5.len _ _ _ _ q
  refine wpAny_call (codeAny_mono (h5.run X.A X.stack s1 H1 ⟨us, []⟩ (us ++ ds) (vs ++ dvs) Q _ hr I1.env0 (h3 s1 us I1.kIn hl) r2 q) fun rr s2 hq => ?_)
  match rr, hq with
  | .error v, hq => exact tk2 pins H1 s1 v s2 I1 hq
  | .ok (.ret u), hq => exact I1.after hq
  | .ok .next, hq => exact False.elim hq
  | .ok .brk, hq => exact False.elim hq
  | .ok .cont, hq => exact False.elim hq
end
/-! ### defs with defaults -/
section
variable {Z : Env} {CX : CXT} {k : Nat} {x : Str} {ps : List Str} {sp : Sp}
theorem can_ofD {st : Stmt} {N : List Str} {dvs : List V} (n j : Nat) (D : DefAt Z x st dvs) (S : FnScope N ps (defScope st)) (len : ∀ vs H Q E, sp vs H Q E → vs.length = ps.length) (hd : dvs ≠ []) (hn : n + (dvs.length - j) = ps.length)
    (hb : ∀ (T : Addr) (kV doc pm : Value) (an : Option Addr) (cdv ct : Value) (us its : List Value), us.length = n → its.length = dvs.length →
      ∃ k, bindArgs (PySem.W.fnOf x x (defArgs st) (defBody st) (defScope st) (.ref T) kV doc pm an cdv ct) ⟨us, []⟩ = seqItems? (.ref T) >>= k ∧ k (some its.toArray) = pure (ps.zip (us ++ its.drop j)))
    (hbody : ∀ (f : Addr) (cdv : Value) (A : Around) (outer : List PySem.Env) (s : Shared) (H : Hp) (vs : List V) (Q : VK) (E : XK), Room k (A.deeper (envOfC x (defScope st) s.heap.objs.size f cdv)) → sp vs H Q E →
      ∃ t, PSs (cxOf CX Z.P Z.w Z.K Z.mg Z.base N x (defScope st) f cdv A outer s H E) (defBody st) t ∧ t { nx := fun _ H' => Q .non H', rt := Q } (start N vs) H) : Can Z CX (k + 1) x ps (dvs.drop j) sp := by
  obtain ⟨f, fd, hm, F⟩ := D
  obtain ⟨ds, r, b⟩ := FunD.binds1 F n j hd hn hb
  exact ⟨f, fd, ds, hm, F.kp, b, r, F.ok S len fun cdv A outer s H vs Q E hr h => hbody f cdv A outer s H vs Q E hr h⟩
end
/-! ### the names of the classes -/
/-- how the class D of an error stands among the classes: nm its name, l the names asked -/
structure ErrRow (Z : Env) (D : Addr) (nm : Str) (l : List Str) : Prop where
  ex : ExcC Z.K D
  row : ∀ x ∈ l, ∃ C, Z.mg x = some (.ref C) ∧ PySem.W.kitOne Z.K (.ref D) (.ref C) = some (decide (x = nm))
  one : ∃ C, Z.mg "OneError" = some (.ref C) ∧ PySem.W.kitOne Z.K (.ref D) (.ref C) = some true
  val : PySem.W.kitOne Z.K (.ref D) (.type "ValueError") = some true
  mem : nm ∈ l
/-- a def that is called within a clause, with the error itself -/
abbrev SpE := Value → Option Addr → Hp → VK → Prop
structure FnE (Z : Env) (k : Nat) (f : Addr) (fd : FuncData) (ps : List Str) (sp : SpE) : Prop where
  len : ps.length = 1
  run : ∀ (A : Around) (outer : List PySem.Env) (s : Shared) (H : Hp) (args : Args) (us : List Value) (Q : VK) (p : Addr × Obj) (cls : Value) (d : Option Addr), L2H.RoomH k A → L2H.Hot1 A p → L2N.Zn cls d p.2 → (∃ vs, p.2.data = .fields vs) → L2H.PinOk outer H s p →
    Env0 Z.P Z.w Z.K Z.mg Z.base A outer s H → BindsTo s fd args (ps.zip us) → Vals [V.ref p.1] us → sp cls d H Q → codeAny (model Z.P Z.w) A (.call (.ref f) args) (CR CX0 outer Z.P Z.w H s Q E0) s
def CanE (Z : Env) (k : Nat) (x : Str) (ps : List Str) (sp : SpE) : Prop := ∃ (f : Addr) (fd : FuncData), Z.mg x = some (.ref f) ∧ PySem.W.keepIn Z.K (.ref f) = true ∧ Binds Z.K fd ps [] ∧ FnE Z k f fd ps sp
def tErr (sp : SpE) (a : Addr) (cls : Value) (d : Option Addr) (te : TE) : TE := fun σ H Q => te σ H fun v H1 => [v] = [V.ref a] ∧ sp cls d H1 Q
theorem pcallE {Z : Env} {X : Cx} {a : Addr} {oe : Obj} {cls : Value} {d : Option Addr} {pn : List (Addr × Obj)} {k : Nat} {x : Str} {ps : List Str} {sp : SpE} {e : Expr} {te : TE} {p pos : Pos} (c : CanE Z k x ps sp) (hr : Room k X.A) (hz : L2N.Zn cls d oe) (hf : ∃ vs, oe.data = .fields vs)
    (he : PE (X.suite a ((a, oe) :: pn)) e te) (z : At Z X := by exact ⟨rfl, rfl, rfl, rfl, rfl⟩) (hg : Gl X x := by rfl) (hdb : (x == ("__debug__" : Str)) = false := by decide)
    (hs : starEach [e] X.env = [(false, eval e X.env)] := by rfl) : PE (X.suite a ((a, oe) :: pn)) (.Call (.Name x p) [e] [] pos) (tErr sp a cls d te) := by
  obtain ⟨f, fd, h1, h2, h3, h5⟩ := c
  obtain ⟨e1, e2, e3, e4, e5⟩ := z
  have F := h5.run
  rw [← e1, ← e2, ← e3, ← e4, ← e5] at F
  rw [← e4] at h1
  rw [← e3] at h2 h3
  refine ⟨fun pins s σ H Q I h => ?_⟩
  refine wpAny_Call_Name_kw (ld_glob I hg h1 ?_ hdb)
  have ha : PA (X.suite a ((a, oe) :: pn)) [e] (tCons te tNil) := pa_cons he pa_nil (by exact hs)
  refine PySem.W.callWith_K (h₀ := X.base) I.ok.mod.kin h2 (thn (ha.run pos pins s σ H (fun us H1 => us = [V.ref a] ∧ sp cls d H1 Q) I h) fun us s1 ⟨vs, H1, I1, r, ev, q⟩ => ⟨I1.kIn, ?_⟩) (by exact hs) (by rfl)
  subst ev
  have r : Vals [V.ref a] us := r
  obtain ⟨vs0, hv0⟩ := hf
  have hot : L2H.Hot1 (X.suite a ((a, oe) :: pn)).A (a, oe) := ⟨rfl, vs0, hv0, hz.2.2 vs0 hv0⟩
  have P1 := I1.pin (a, oe) (List.mem_append_left _ List.mem_cons_self)
  have hpin : L2H.PinOk X.stack H1 s1 (a, oe) := ⟨P1.1, P1.2.1, fun hm => (List.mem_cons.mp (I1.stkSub a hm)).elim P1.2.2.1 P1.2.2.2.1, P1.2.2.2.2⟩
  have hl : us.length = ps.length := by rw [← r.length, h5.len]; rfl
  have b := h3 s1 us I1.kIn (by rw [List.append_nil]; exact hl)
  rw [List.append_nil] at b
  refine wpAny_call (codeAny_mono (F (X.suite a ((a, oe) :: pn)).A X.stack s1 H1 ⟨us, []⟩ us Q (a, oe) cls d ⟨hr.dp, hr.un⟩ hot hz ⟨vs0, hv0⟩ hpin I1.env0 b r q) fun rr s2 hq => ?_)
  match rr, hq with
  | .ok (.ret u), hq => exact I1.after hq
/-- the name of a class that is caught -/
structure CatC (Z : Env) (x : Str) (C : Addr) : Prop where
  gl : Z.mg x = some (.ref C)
/-! ### letters, cut and joined -/
abbrev refD (nm : String) : D := .tup [.str (Str.ofString "refused"), .str (Str.ofString nm)]
def numV (b : Str) : Int := (PySem.intText? b).getD 0
def splZ (z : Str) : D := if 46 ∈ tl z then .tup [.str (Txt.partition z dot).1, .int (numV (Txt.partition z dot).2.2)] else .tup [.str z, .non]
/-- what split_letter says -/
def splD : D → D
  | .str z => if letZ z = true then splZ z else refD "BadWord"
  | _ => refD "BadWord"
def joinB : D → D → Bool
  | d, .non => isNm d
  | d, e => isNm d && wholeB e 0 99
def joinZ (z : Str) : D → D
  | .non => .str z
  | .int i => .str (z ++ dot ++ Str.ofString (toString i))
  | _ => refD "BadWord"
def joinD (d e : D) : D := if joinB d e = true then (match d with | .str z => joinZ z e | _ => refD "BadWord") else refD "BadWord"
def spSplit (K : PySem.W.Frag) (C : Addr) : Sp := fun vs H Q E => ∃ W v d, W.H = H ∧ vs = [v] ∧ Rp K W v d ∧ Sz d ∧ (isLet d = false → ∀ W', Mod [] W W' → E (.ref C) none W'.H) ∧ (isLet d = true → ∀ p W', Mod [] W W' → Rp K W' (.ref p) (splD d) → Q (.ref p) W'.H)
def spJoin (K : PySem.W.Frag) (C : Addr) : Sp := fun vs H Q E => ∃ W v d u e, W.H = H ∧ vs = [v, u] ∧ Rp K W v d ∧ Rp K W u e ∧ Sz d ∧ (joinB d e = false → ∀ W', Mod [] W W' → E (.ref C) none W'.H) ∧ (joinB d e = true → ∀ r W', Mod [] W W' → Rp K W' r (joinD d e) → Q r W'.H)
theorem intText_short {b : Str} (h : shortB b = true) : PySem.intText? b = some (numV b) := by
  obtain ⟨k, hk, rfl⟩ := shortB_iff.mp h
  have e : PySem.intText? (nums k) = some (k : Int) := int_num (Nat.le_trans (numL_len (k := 2) (by decide) (by omega)) (by decide))
  unfold numV
  rw [e]
  rfl
theorem isLet_str {d : D} (h : isLet d = true) : ∃ z, d = .str z ∧ letZ z = true := by
  cases d with
  | str z => exact ⟨z, rfl, h⟩
  | _ => cases h
theorem splD_let {z : Str} (h : letZ z = true) : splD (.str z) = splZ z := by
  show (if letZ z = true then _ else _) = _
  rw [if_pos h]
theorem splZ_dot {a b : Str} (h : 46 ∉ tl a) : splZ (a ++ dot ++ b) = .tup [.str a, .int (numV b)] := by
  unfold splZ
  rw [if_pos (by rw [tl_append, tl_append, tl_dot]; simp), part_dot h]
theorem splZ_none {z : Str} (h : 46 ∉ tl z) : splZ z = .tup [.str z, .non] := by
  unfold splZ
  rw [if_neg h]
/-! f-strings of two parts or more -/
section
variable {σ : L2.St} {H : Hp} {Q : VK} {te : TE} {z acc : Str} {i : Int} {ts : List TE} {R : Str → Hp → Prop}
theorem i_js0 (h : R acc H) : tJs [] acc σ H R := h
theorem i_js {t : TE} (h : t σ H fun x H1 => ∃ y : Str, x = .str y ∧ (acc ++ y).length ≤ sizeLine ∧ tJs ts (acc ++ y) σ H1 R) : tJs (t :: ts) acc σ H R := h
theorem i_fmt (h : te σ H fun x H1 => (∃ y : Str, x = .str y ∧ y.length ≤ sizeLine ∧ Q (.str y) H1) ∨ ∃ i : Int, x = .int i ∧ i.natAbs.log2 < 1920 ∧ Q (.str (toString i)) H1) : tFmt te σ H Q := h
theorem or_fmtS {P : Prop} {B : Str → Prop} (hz : z.length ≤ sizeLine) (h : B z) : (∃ y : Str, V.str z = .str y ∧ y.length ≤ sizeLine ∧ B y) ∨ P := .inl ⟨z, rfl, hz, h⟩
theorem or_fmtI {P : Prop} {B : Int → Prop} (hz : i.natAbs.log2 < 1920) (h : B i) : P ∨ ∃ j : Int, V.int i = .int j ∧ j.natAbs.log2 < 1920 ∧ B j := .inr ⟨i, rfl, hz, h⟩
end
theorem emp_app (z : Str) : Str.empty ++ z = z := ext_tl (by rw [tl_append]; rfl)

/-! joins -/
def isNon : D → Bool
  | .non => true
  | _ => false
theorem isNon_t {d : D} (h : isNon d = true) : d = .non := by
  cases d with
  | non => rfl
  | _ => cases h
theorem isNon_f {K : PySem.W.Frag} {W : Wd} {v : V} {d : D} (h : isNon d = false) (r : Rp K W v d) : decide (v = .non) = false := by
  refine decide_eq_false fun e => ?_
  subst e
  cases r
  cases h
theorem joinB_nm {d e : D} (h : isNm d = false) : joinB d e = false := by
  cases e <;> first
    | exact h
    | (show (isNm d && _) = false; rw [h]; rfl)
theorem joinB_f {d e : D} (hn : isNon e = false) (hw : wholeB e 0 99 = false) : joinB d e = false := by
  cases e <;> first
    | (cases hn; done)
    | (show (isNm d && _) = false; rw [hw, Bool.and_false])
theorem joinD_non {z : Str} (h : isNm (.str z) = true) : joinD (.str z) .non = .str z := by
  show (if isNm (.str z) = true then _ else _) = _
  rw [if_pos h]
  rfl
theorem joinD_int {z : Str} {i : Int} (h : isNm (.str z) = true) (hw : wholeB (.int i) 0 99 = true) : joinD (.str z) (.int i) = .str (z ++ dot ++ Str.ofString (toString i)) := by
  show (if (isNm (.str z) && wholeB (.int i) 0 99) = true then _ else _) = _
  rw [h, hw]
  rfl
theorem wholeB_int {e : D} (h : wholeB e 0 99 = true) : ∃ j : Nat, e = .int (j : Int) ∧ j ≤ 99 := by
  cases e with
  | int i =>
    have h' : (decide (0 ≤ i) && decide (i ≤ 99)) = true := h
    rw [Bool.and_eq_true, decide_eq_true_eq, decide_eq_true_eq] at h'
    obtain ⟨j, rfl⟩ := Int.eq_ofNat_of_zero_le h'.1
    exact ⟨j, rfl, by omega⟩
  | _ => cases h
end Q
/-! KitI: letting go of what was made; dicts; the law's own same and copy -/
namespace Q
open PySem PySem.Spec PyProof.Rows L2 TL
/-! ### letting go -/
theorem drop_at {W W1 : Wd} {p : Addr} {X : List Addr} (m : Mod X W W1) (hp : W.H p = none) : ∃ W2 : Wd, W2.H = W1.H ∧ Less W1 W2 ∧ Mod X W W2 ∧ (¬ W2.M p) ∧ ∀ a, W1.M a → a ≠ p → W2.M a :=
  ⟨⟨W1.H, fun a => W1.M a ∧ a ≠ p, fun a ha => W1.ok a ha.1⟩, rfl, ⟨rfl, fun _ h => h.1⟩,
    ⟨m.keep, m.inM, fun a ha => m.old a ha.1, fun a ha => ⟨m.stay a ha, fun e => Wd.ne ha (e ▸ hp)⟩⟩, fun h => h.2 rfl, fun a h1 h2 => ⟨h1, h2⟩⟩
theorem drop_own {K : PySem.W.Frag} {W W1 : Wd} {p : Addr} {xs : List V} {ds : List D} {X : List Addr} {G : Hp → Prop} (m : Mod X W W1) (hp : W.H p = none) (o : Own W1 p xs) (r : RpL K W1 xs ds)
    (k : ∀ W2, Mod X W W2 → Less W1 W2 → (∀ a, W1.M a → a ≠ p → W2.M a) → Rp K W2 (.ref p) (.lst ds) → G W2.H) : G W1.H := by
  obtain ⟨W2, e, l, m2, np, st⟩ := drop_at m hp
  have q := k W2 m2 l st (.lst (by rw [e]; exact o.1) np (RpL.less l r))
  rw [e] at q
  exact q
/-! ### dicts that are being changed -/
def OwnD (W : Wd) (p : Addr) (kvs : List (Key × V)) : Prop := W.H p = some (.dK kvs) ∧ W.M p
theorem OwnD.up {X : List Addr} {W W' : Wd} {p : Addr} {xs : List (Key × V)} (h : OwnD W p xs) (m : Mod X W W') (n : p ∉ X) : OwnD W' p xs := ⟨m.keep _ _ n h.1, m.stay _ h.2⟩
theorem drop_ownD {K : PySem.W.Frag} {W W1 : Wd} {p : Addr} {xs : List (Key × V)} {ds : List (Key × D)} {X : List Addr} {G : Hp → Prop} (m : Mod X W W1) (hp : W.H p = none) (o : OwnD W1 p xs) (r : RpK K W1 xs ds)
    (k : ∀ W2, Mod X W W2 → Less W1 W2 → Rp K W2 (.ref p) (.dct ds) → G W2.H) : G W1.H := by
  obtain ⟨W2, e, l, m2, np, st⟩ := drop_at m hp
  have q := k W2 m2 l (.dct (by rw [e]; exact .inl o.1) np (RpK.less l r))
  rw [e] at q
  exact q
/-- a new thing that is going to be changed -/
def Wd.ownO (W : Wd) (p : Addr) (o : HO) (mu : Mut (some o)) (h : W.H p = none) : Wd := ⟨upd W.H p o, fun a => W.M a ∨ a = p, fun a ha => by
  by_cases e : a = p
  · rw [e]; exact ⟨o, upd_same, mu⟩
  · obtain ⟨u, q, mq⟩ := W.ok a (ha.resolve_right e)
    exact ⟨u, by rw [upd_ne e]; exact q, mq⟩⟩
theorem Wd.ownO_mod {W : Wd} {p : Addr} {o : HO} {mu : Mut (some o)} (h : W.H p = none) : Mod [] W (W.ownO p o mu h) :=
  ⟨fun a u _ e => by show upd W.H p _ a = _; rw [upd_ne (ne_of_none e h)]; exact e, fun _ z => (nomatch z), fun a z => z.imp id fun e => by rw [e]; exact h, fun _ z => .inl z⟩
def Wd.setO (W : Wd) (p : Addr) (o : HO) (mu : Mut (some o)) : Wd := ⟨upd W.H p o, W.M, fun a ha => by
  by_cases e : a = p
  · rw [e]; exact ⟨o, upd_same, mu⟩
  · obtain ⟨u, q, mq⟩ := W.ok a ha
    exact ⟨u, by rw [upd_ne e]; exact q, mq⟩⟩
theorem Wd.setO_mod {W : Wd} {p : Addr} {o : HO} {mu : Mut (some o)} (h : W.M p) : Mod [p] W (W.setO p o mu) :=
  ⟨fun a u n e => by show upd W.H p _ a = _; rw [upd_ne (fun z => n (by rw [z]; exact List.mem_singleton.mpr rfl))]; exact e, fun a z => by rw [List.mem_singleton.mp z]; exact h, fun _ z => .inl z, fun _ z => z⟩
theorem mk_ownD {W : Wd} {σ : L2.St} {Q : VK} (k : ∀ p W', Mod [] W W' → W.H p = none → OwnD W' p [] → Q (.ref p) W'.H) : tDNewK σ W.H Q := fun p hp =>
  k p (W.ownO p (.dK []) True.intro hp) (Wd.ownO_mod hp) hp ⟨upd_same, .inr rfl⟩
section
variable {K : PySem.W.Frag} {W : Wd} {p : Addr} {kvs : List (Key × V)} {ds : List (Key × D)} {k : Key} {v : V} {G : Hp → Prop}
theorem putD (h : OwnD W p kvs) (hz : kvs.length < 10000000) (q : ∀ W', Mod [p] W W' → OwnD W' p (putK kvs k v) → G W'.H) : ∃ (a : Addr) (H' : Hp), V.ref p = .ref a ∧ DPut W.H a (kV k) v H' ∧ G H' :=
  ⟨p, _, rfl, DPut.k h.1 (Nat.lt_trans hz (by decide)), q (W.setO p (.dK (putK kvs k v)) True.intro) (Wd.setO_mod h.2) ⟨upd_same, h.2⟩⟩
theorem getD {a : Addr} {o : V} {B : V → Prop} (h : Rd W.H a (.dK kvs)) (e : valV kvs k = some o) (q : B o) : ∃ (b : Addr) (u : V), V.ref a = .ref b ∧ DGet W.H b (kV k) (some u) ∧ B u :=
  ⟨a, o, rfl, .inl ⟨kvs, k, h, rfl, e.symm⟩, q⟩
theorem dhas {a : Addr} {B : Option V → Prop} (h : Rd W.H a (.dK kvs)) (q : B (valV kvs k)) : ∃ (b : Addr) (o : Option V), V.ref a = .ref b ∧ DGet W.H b (kV k) o ∧ B o :=
  ⟨a, valV kvs k, rfl, .inl ⟨kvs, k, h, rfl, rfl⟩, q⟩
def valD (ds : List (Key × D)) (k : Key) : Option D := (ds.find? fun q => decide (q.1 = k)).map (·.2)
theorem RpK.val : ∀ {kvs : List (Key × V)} {ds : List (Key × D)} {d : D}, RpK K W kvs ds → valD ds k = some d → ∃ v, valV kvs k = some v ∧ Rp K W v d
  | _, _, _, .nil, e => by simp [valD] at e
  | (k', v) :: r, (_, d') :: s, d, .cons h t, e => by
    by_cases hk : k' = k
    · refine ⟨v, valV_pos hk, ?_⟩
      have e2 : some d' = some d := by
        have : valD ((k', d') :: s) k = some d' := by simp [valD, List.find?_cons, hk]
        rw [← this]; exact e
      cases e2
      exact h
    · obtain ⟨w, h1, h2⟩ := RpK.val (kvs := r) (ds := s) (d := d) t (by
        have : valD ((k', d') :: s) k = valD s k := by simp [valD, List.find?_cons, hk]
        rw [← this]; exact e)
      exact ⟨w, by rw [valV_neg hk]; exact h1, h2⟩
theorem valD_mem : ∀ {ds : List (Key × D)} {i : Nat} {d : D}, ds[i]? = some (k, d) → ∃ d', valD ds k = some d' ∧ (k, d') ∈ ds
  | [], _, _, e => by simp at e
  | (k', d') :: s, i, d, e => by
    by_cases hk : k' = k
    · subst hk
      exact ⟨d', by simp [valD, List.find?_cons], by simp⟩
    · cases i with
      | zero => simp at e; exact absurd e.1 hk
      | succ j =>
        obtain ⟨d2, h1, h2⟩ := valD_mem (ds := s) (i := j) (d := d) (by simpa using e)
        refine ⟨d2, ?_, List.mem_cons_of_mem _ h2⟩
        have : valD ((k', d') :: s) k = valD s k := by simp [valD, List.find?_cons, hk]
        rw [this]; exact h1
theorem RpK.length : ∀ {kvs : List (Key × V)} {ds : List (Key × D)}, RpK K W kvs ds → kvs.length = ds.length
  | _, _, .nil => rfl
  | _, _, .cons _ t => congrArg Nat.succ t.length
theorem RpK.get {k : Key} {v : V} : ∀ {kvs : List (Key × V)} {ds : List (Key × D)} {i : Nat}, RpK K W kvs ds → kvs[i]? = some (k, v) → ∃ d, ds[i]? = some (k, d) ∧ Rp K W v d
  | _, _, _, .nil, e => by simp at e
  | _, _, 0, .cons h _, e => by simp at e; obtain ⟨rfl, rfl⟩ := e; exact ⟨_, rfl, h⟩
  | _, _, i + 1, .cons _ t, e => by
    obtain ⟨d, h1, h2⟩ := t.get (i := i) (by simpa using e)
    exact ⟨d, by simpa using h1, h2⟩
theorem Rp.dK {a : Addr} (h : Rp K W (.ref a) (.dct ds)) : ∃ kvs, Rd W.H a (.dK kvs) ∧ ¬ W.M a ∧ RpK K W kvs ds := by
  cases h with
  | dct h1 h2 h3 => exact ⟨_, h1, h2, h3⟩
theorem lenRD {a : Addr} {Q : VK} (h : Rp K W (.ref a) (.dct ds)) (q : Q (.int ds.length) W.H) : rLenU K [.ref a] W.H Q := by
  obtain ⟨kvs', h1, _, h3⟩ := h.dK
  exact .inr ⟨a, kvs', rfl, h1, by rw [h3.length]; exact q⟩
end
section
variable {σ : L2.St} {H : Hp} {td ty tv : TE} {Q : VK} {D : Ends}
theorem i_callT {sp : Sp} {dvs : List V} {W : L2.WX} {t : TA} (h : t σ H fun vs H1 => sp (vs ++ dvs) H1 Q (fun cls d H2 => W cls d σ H2)) : tCallT sp dvs W t σ H Q := h
theorem i_dnotin (h : ty σ H fun y H1 => td σ H1 fun x H2 => ∃ a o, x = .ref a ∧ DGet H2 a y o ∧ Q (.bl (!o.isSome)) H2) : tDNotIn ty td σ H Q := h
theorem i_din (h : ty σ H fun y H1 => td σ H1 fun x H2 => ∃ a o, x = .ref a ∧ DGet H2 a y o ∧ Q (.bl o.isSome) H2) : tDIn ty td σ H Q := h
theorem i_dget (h : td σ H fun x H1 => ty σ H1 fun y H2 => ∃ a v, x = .ref a ∧ DGet H2 a y (some v) ∧ Q v H2) : tDGet td ty σ H Q := h
theorem i_dput (h : tv σ H fun v H1 => td σ H1 fun x H2 => ty σ H2 fun y H3 => ∃ a H', x = .ref a ∧ DPut H3 a y v H' ∧ D.nx σ H') : sDPut td ty tv D σ H := h
end
def kD : Key → D
  | .inl i => .int i
  | .inr x => .str x
theorem kD_rp {K : PySem.W.Frag} {W : Wd} {k : Key} : Rp K W (kV k) (kD k) := by
  cases k with
  | inl i => exact .int
  | inr x => exact .str
/-! ### the lock of a dict while it is gone through -/
structure LkAt (d : Addr) (kvs : List (Key × V)) (W W1 : Wd) : Prop where
  M : ∀ a, W1.M a ↔ W.M a
  H : ∀ a, a ≠ d → W1.H a = W.H a
  r : Rd W.H d (.dK kvs)
  r1 : Rd W1.H d (.dK kvs)
  n : ¬ W.M d
theorem LkAt.symm {d : Addr} {kvs : List (Key × V)} {W W1 : Wd} (l : LkAt d kvs W W1) : LkAt d kvs W1 W := ⟨fun a => (l.M a).symm, fun a h => (l.H a h).symm, l.r1, l.r, fun h => l.n ((l.M d).mp h)⟩
theorem Rd.inj {H : Hp} {d : Addr} {u v : HO} (a : Rd H d u) (b : H d = some v) (h : ∀ o w, v ≠ .frz o w) : u = v := by
  rcases a with a | ⟨o, a⟩
  · rw [a] at b; exact Option.some.inj b
  · rw [a] at b; exact absurd (Option.some.inj b).symm (h _ _)
theorem Rd.injK {H : Hp} {d : Addr} {u v : List (Key × V)} (a : Rd H d (.dK u)) (b : Rd H d (.dK v)) : u = v := by
  rcases a with a | ⟨o, a⟩ <;> rcases b with b | ⟨o', b⟩ <;> (rw [a] at b; cases b; try rfl)
mutual
theorem Rp.lk {K : PySem.W.Frag} {d : Addr} {kvs : List (Key × V)} {W W1 : Wd} (l : LkAt d kvs W W1) : ∀ {v : V} {x : D}, Rp K W v x → Rp K W1 v x
  | _, _, .non => .non
  | _, _, .bl => .bl
  | _, _, .int => .int
  | _, _, .str => .str
  | _, _, .lst e n r => .lst (by
      rw [l.H _ (fun z => by have q := Rd.inj l.r (z ▸ e) (by intro _ _ h; cases h); cases q)]; exact e) (fun z => n ((l.M _).mp z)) (RpL.lk l r)
  | _, _, .tup s r => .tup (by
      rcases s with (s | ⟨o, s⟩) | s
      · exact .inl (.inl (by rw [l.H _ (fun z => by have q := Rd.inj l.r (z ▸ s) (by intro _ _ h; cases h); cases q)]; exact s))
      · refine .inl (.inr ⟨o, ?_⟩)
        rw [l.H _ (fun z => by
          have s' := z ▸ s
          rcases l.r with q | ⟨o2, q⟩
          · rw [q] at s'; cases s'
          · rw [q] at s'; cases s')]
        exact s
      · exact .inr s) (RpL.lk l r)
  | _, _, @Rp.dct _ _ a kvs' ds e n r => by
    by_cases z : a = d
    · have e' : Rd W.H d (.dK kvs') := z ▸ e
      have q := Rd.injK e' l.r
      subst q
      exact .dct (by rw [z]; exact l.r1) (fun h => n ((l.M _).mp h)) (RpK.lk l r)
    · refine .dct ?_ (fun h => n ((l.M _).mp h)) (RpK.lk l r)
      rcases e with e | ⟨o, e⟩
      · exact .inl (by rw [l.H _ z]; exact e)
      · exact .inr ⟨o, by rw [l.H _ z]; exact e⟩
theorem RpL.lk {K : PySem.W.Frag} {d : Addr} {kvs : List (Key × V)} {W W1 : Wd} (l : LkAt d kvs W W1) : ∀ {vs : List V} {ds : List D}, RpL K W vs ds → RpL K W1 vs ds
  | _, _, .nil => .nil
  | _, _, .cons h t => .cons (Rp.lk l h) (RpL.lk l t)
theorem RpK.lk {K : PySem.W.Frag} {d : Addr} {kvs : List (Key × V)} {W W1 : Wd} (l : LkAt d kvs W W1) : ∀ {vs : List (Key × V)} {ds : List (Key × D)}, RpK K W vs ds → RpK K W1 vs ds
  | _, _, .nil => .nil
  | _, _, .cons h t => .cons (Rp.lk l h) (RpK.lk l t)
end
theorem OwnD.lk {d p : Addr} {kvs xs : List (Key × V)} {W W1 : Wd} (l : LkAt d kvs W W1) (o : OwnD W p xs) : OwnD W1 p xs :=
  ⟨by rw [l.H _ (fun z => l.n (z ▸ o.2))]; exact o.1, (l.M p).mpr o.2⟩
/-- the lock where it is needed -/
def tLock2 (t : TS) : TS := fun D σ H => tLock t D σ H ∨ t D σ H
theorem ps_lock2 {X : Cx} {st : Stmt} {t : TS} (h : PS X st t) : PS X st (tLock2 t) := ⟨fun pins s σ H D I q => q.elim ((ps_lock h).run pins s σ H D I) (h.run pins s σ H D I)⟩
theorem Mod.unlk {X : List Addr} {d : Addr} {kvs : List (Key × V)} {W W1 W2 W3 : Wd} (l : LkAt d kvs W W1) (m : Mod X W1 W2) (l2 : LkAt d kvs W2 W3) (e : W3.H d = W.H d) : Mod X W W3 where
  keep := fun a o ha h => by
    by_cases z : a = d
    · rw [z, e, ← z]; exact h
    · rw [l2.H a z]; exact m.keep a o ha (by rw [l.H a z]; exact h)
  inM := fun a ha => (l.M a).mp (m.inM a ha)
  old := fun a ha => by
    rcases m.old a ((l2.M a).mp ha) with h | h
    · exact .inl ((l.M a).mp h)
    · refine .inr ?_
      by_cases z : a = d
      · rw [z] at h
        rcases l.r1 with q | ⟨o, q⟩ <;> · rw [q] at h; cases h
      · rw [← l.H a z]; exact h
  stay := fun a ha => (l2.M a).mpr (m.stay a ((l.M a).mpr ha))
theorem forK {K : PySem.W.Frag} {W : Wd} {a : Addr} {ds : List (Key × D)} {kvs : List (Key × V)} {X : List Addr} {σ : L2.St} {j : Nat} {g : TG} {tb : TS} {E : Ends} (hv : σ[j]? = some (some (.ref a))) (h1 : Rd W.H a (.dK kvs)) (h2 : ¬ W.M a) (h3 : RpK K W kvs ds) (P : Nat → L2.St → Wd → Prop)
    (hX : ∀ a ∈ X, W.M a) (h0 : ∀ W1, LkAt a kvs W W1 → P 0 σ W1)
    (hs : ∀ i k d σ W0 W1 rt bk, ds[i]? = some (k, d) → LkAt a kvs W W0 → Mod X W0 W1 → P i σ W1 → g (kV k) σ W1.H fun σ2 H2 => tb { nx := fun σ3 H3 => ∃ W2, W2.H = H3 ∧ Mod X W0 W2 ∧ P (i + 1) σ3 W2, ct := fun σ3 H3 => ∃ W2, W2.H = H3 ∧ Mod X W0 W2 ∧ P (i + 1) σ3 W2, rt := rt, bk := bk } σ2 H2)
    (hd : ∀ σ W1 W2, P ds.length σ W1 → LkAt a kvs W1 W2 → Mod X W W2 → E.nx σ W2.H) : tLock2 (tFor (iKeys (tVar j)) g tb) E σ W.H := by
  have main : ∀ (W0 : Wd) (o : Obj) (E' : Ends), LkAt a kvs W W0 → W0.H a = some (.frz o (.dK kvs)) → (∀ σ W1, P ds.length σ W1 → Mod X W0 W1 → E'.nx σ W1.H) → tFor (iKeys (tVar j)) g tb E' σ W0.H := by
    intro W0 o E' l e hd'
    have na : a ∉ X := fun h => l.n (hX a h)
    refine ⟨.ref a, hv, a, o, rfl, .inl ⟨kvs, e, fun i m σ1 H1 => m = ds.length - i ∧ i ≤ ds.length ∧ ∃ W1, W1.H = H1 ∧ Mod X W0 W1 ∧ P i σ1 W1, ⟨ds.length, by simp, Nat.zero_le _, W0, rfl, Mod.lift fun b hb => (l.M b).mpr (hX b hb), h0 W0 l⟩, ?_⟩⟩
    rintro i m σ1 _ ⟨rfl, hi, W1, rfl, m1, p1⟩
    have e1 := m1.keep _ _ na e
    by_cases hlt : i < ds.length
    · refine .inr ⟨⟨e1, by rw [h3.length]; exact hlt⟩, fun σ3 H3 => ∃ W2, W2.H = H3 ∧ Mod X W0 W2 ∧ P (i + 1) σ3 W2, fun σ' H' q => ⟨ds.length - (i + 1), by omega, rfl, hlt, q⟩, fun x H' y => ?_⟩
      obtain ⟨rfl, k, v, ek, rfl⟩ := y
      obtain ⟨d, ed, _⟩ := h3.get ek
      exact hs i k d σ1 W0 W1 _ _ ed l m1 p1
    · have ei : i = ds.length := by omega
      subst ei
      exact .inl ⟨⟨e1, by rw [h3.length]; exact Nat.le_refl _⟩, hd' σ1 W1 p1 m1⟩
  rcases h1 with e | ⟨o, e⟩
  · refine .inl ⟨a, .dK kvs, e, True.intro, fun od => ?_⟩
    let W0 : Wd := ⟨upd W.H a (.frz od (.dK kvs)), W.M, fun b hb => by
      obtain ⟨u, q, mq⟩ := W.ok b hb
      exact ⟨u, by rw [upd_ne (fun z : b = a => h2 (z ▸ hb))]; exact q, mq⟩⟩
    have l : LkAt a kvs W W0 := ⟨fun b => Iff.rfl, fun b hb => upd_ne hb, .inl e, .inr ⟨od, upd_same⟩, h2⟩
    refine main W0 od _ l upd_same fun σ1 W1 p1 m1 => ?_
    have na : a ∉ X := fun h => h2 (hX a h)
    have e1 : W1.H a = some (.frz od (.dK kvs)) := m1.keep _ _ na upd_same
    have nM : ¬ W1.M a := fun h => (m1.old a h).elim h2 fun z => by
      have : W0.H a = some (.frz od (.dK kvs)) := upd_same
      rw [this] at z; cases z
    let W2 : Wd := ⟨upd W1.H a (.dK kvs), W1.M, fun b hb => by
      obtain ⟨u, q, mq⟩ := W1.ok b hb
      exact ⟨u, by rw [upd_ne (fun z : b = a => nM (z ▸ hb))]; exact q, mq⟩⟩
    have l2 : LkAt a kvs W1 W2 := ⟨fun b => Iff.rfl, fun b hb => upd_ne hb, .inr ⟨od, e1⟩, .inl upd_same, nM⟩
    exact ⟨e1, hd σ1 W1 W2 p1 l2 (Mod.unlk l m1 l2 (by rw [e]; exact upd_same))⟩
  · refine .inr (main W o E ⟨fun b => Iff.rfl, fun b _ => rfl, .inr ⟨o, e⟩, .inr ⟨o, e⟩, h2⟩ e fun σ1 W1 p1 m1 => ?_)
    have na : a ∉ X := fun h => h2 (hX a h)
    have nM : ¬ W1.M a := fun h => (m1.old a h).elim h2 fun z => by rw [e] at z; cases z
    have e1 : W1.H a = some (.frz o (.dK kvs)) := m1.keep _ _ na e
    exact hd σ1 W1 W1 p1 ⟨fun b => Iff.rfl, fun b _ => rfl, .inr ⟨o, e1⟩, .inr ⟨o, e1⟩, nM⟩ m1
/-! ### depth -/
inductive Dep : Nat → D → Prop
  | non {n : Nat} : Dep (n + 1) .non
  | bl {n : Nat} {b : Bool} : Dep (n + 1) (.bl b)
  | int {n : Nat} {i : Int} : Dep (n + 1) (.int i)
  | str {n : Nat} {z : Str} : Dep (n + 1) (.str z)
  | lst {n : Nat} {ds : List D} : ds.length ≤ 1000000 → (∀ d ∈ ds, Dep n d) → Dep (n + 1) (.lst ds)
  | tup {n : Nat} {ds : List D} : ds.length ≤ 1000000 → (∀ d ∈ ds, Dep n d) → Dep (n + 1) (.tup ds)
  | dct {n : Nat} {ds : List (Key × D)} : ds.length ≤ 1000000 → 0 < n → (ds.map (·.1)).Nodup → (∀ q ∈ ds, Dep n q.2) → Dep (n + 1) (.dct ds)
theorem Dep.mono {m : Nat} {d : D} (h : Dep m d) : ∀ {n : Nat}, m ≤ n → Dep n d := by
  induction h with
  | non => intro n l; cases n with | zero => omega | succ n => exact .non
  | bl => intro n l; cases n with | zero => omega | succ n => exact .bl
  | int => intro n l; cases n with | zero => omega | succ n => exact .int
  | str => intro n l; cases n with | zero => omega | succ n => exact .str
  | lst hl _ ih => intro n l; cases n with | zero => omega | succ n => exact .lst hl fun d hd => ih d hd (by omega)
  | tup hl _ ih => intro n l; cases n with | zero => omega | succ n => exact .tup hl fun d hd => ih d hd (by omega)
  | dct hl hz nd _ ih => intro n l; cases n with | zero => omega | succ n => exact .dct hl (by omega) nd fun d hd => ih d hd (by omega)
theorem Dep.key {n : Nat} (h : 0 < n) (k : Key) : Dep n (kD k) := by
  obtain ⟨m, rfl⟩ : ∃ m, n = m + 1 := ⟨n - 1, by omega⟩
  cases k with
  | inl i => exact .int
  | inr x => exact .str
def spSame (K : PySem.W.Frag) (n : Nat) : Sp := fun vs H Q _ => ∃ W v u d, W.H = H ∧ vs = [v, u] ∧ Rp K W v d ∧ Rp K W u d ∧ Dep n d ∧ ∀ W', Mod [] W W' → Q (.bl true) W'.H
theorem use_same {K : PySem.W.Frag} {n : Nat} {W : Wd} {v u : V} {d : D} {Q : VK} {E : XK} (h1 : Rp K W v d) (h2 : Rp K W u d) (h3 : Dep n d) (q : ∀ W', Mod [] W W' → Q (.bl true) W'.H) : spSame K n ([v, u] ++ []) W.H Q E := ⟨W, v, u, d, rfl, rfl, h1, h2, h3, q⟩
def spCopy (K : PySem.W.Frag) (n : Nat) : Sp := fun vs H Q _ => ∃ W v d, W.H = H ∧ vs = [v] ∧ Rp K W v d ∧ Dep n d ∧ ∀ r W', Mod [] W W' → Rp K W' r d → Q r W'.H
theorem use_copy {K : PySem.W.Frag} {n : Nat} {W : Wd} {v : V} {d : D} {Q : VK} {E : XK} (h1 : Rp K W v d) (h3 : Dep n d) (q : ∀ r W', Mod [] W W' → Rp K W' r d → Q r W'.H) : spCopy K n ([v] ++ []) W.H Q E := ⟨W, v, d, rfl, rfl, h1, h3, q⟩
/-- at level 0 nothing is promised -/
theorem can_zero {Z : Env} {CX : CXT} {x : Str} {st : Stmt} {N ps : List Str} {sp : Sp} (D : DefAt Z x st []) (S : FnScope N ps (defScope st)) (hn : ∀ vs H Q E, ¬ sp vs H Q E)
    (hb : ∀ (kV doc pm : Value) (an : Option Addr) (cdv ct : Value) (us : List Value), us.length = ps.length → bindArgs (PySem.W.fnOf x x (defArgs st) (defBody st) (defScope st) .none kV doc pm an cdv ct) ⟨us, []⟩ = pure (ps.zip us)) : Can Z CX 0 x ps [] sp := by
  obtain ⟨f, fd, hm, F⟩ := D
  exact ⟨f, fd, [], hm, F.kp, FunD.bindsN F hb, .nil, ⟨fun vs H Q E h => absurd h (hn vs H Q E), fun A outer s H args us vs Q E _ _ _ _ h => absurd h (hn vs H Q E)⟩⟩
theorem iteR {α : Type} [DecidableEq α] {a : α} {A B : Prop} (h : A) : if decide (a = a) = true then A else B := by rw [decide_eq_true rfl]; exact h
theorem iteNR {α : Type} [DecidableEq α] {a : α} {A B : Prop} (h : B) : if (!decide (a = a)) = true then A else B := by rw [decide_eq_true rfl]; exact h
theorem RpK.snoc {K : PySem.W.Frag} {W : Wd} : ∀ {vs : List (Key × V)} {ds : List (Key × D)} {k : Key} {v : V} {d : D}, RpK K W vs ds → Rp K W v d → RpK K W (vs ++ [(k, v)]) (ds ++ [(k, d)])
  | _, _, _, _, _, .nil, h => .cons h .nil
  | _, _, _, _, _, .cons a t, h => .cons a (t.snoc h)
theorem RpK.none {K : PySem.W.Frag} {W : Wd} {k : Key} : ∀ {vs : List (Key × V)} {ds : List (Key × D)}, RpK K W vs ds → k ∉ ds.map (·.1) → valV vs k = Option.none
  | _, _, .nil, _ => rfl
  | (k', v) :: r, (_, d') :: s, .cons h t, hk => by
    have hk' : k ∉ k' :: s.map (·.1) := hk
    rw [List.mem_cons, not_or] at hk'
    rw [valV_neg (fun e => hk'.1 e.symm)]
    exact t.none hk'.2
theorem valD_nodup {k : Key} {d : D} : ∀ {ds : List (Key × D)} {i : Nat}, (ds.map (·.1)).Nodup → ds[i]? = some (k, d) → valD ds k = some d
  | [], _, _, e => by simp at e
  | (k', d') :: s, 0, _, e => by
    have e2 : (k', d') = (k, d) := by simpa using e
    cases e2
    simp [valD, List.find?_cons]
  | (k', d') :: s, i + 1, nd, e => by
    have e2 : s[i]? = some (k, d) := by simpa using e
    have nd2 : k' ∉ s.map (·.1) ∧ (s.map (·.1)).Nodup := List.nodup_cons.mp nd
    have hk : ¬ k' = k := fun z => nd2.1 (by rw [z]; exact List.mem_map.mpr ⟨_, List.mem_of_getElem? e2, rfl⟩)
    have : valD ((k', d') :: s) k = valD s k := by simp [valD, List.find?_cons, hk]
    rw [this]
    exact valD_nodup nd2.2 e2
theorem nodup_take {k : Key} {d : D} {ds : List (Key × D)} {i : Nat} (nd : (ds.map (·.1)).Nodup) (e : ds[i]? = some (k, d)) : k ∉ (ds.take i).map (·.1) := fun h => by
  obtain ⟨⟨k2, d2⟩, hm, hk⟩ := List.mem_map.mp h
  have hk : k2 = k := hk
  subst hk
  obtain ⟨j, hj⟩ := List.mem_iff_getElem?.mp hm
  have hji : j < i := by
    have := (List.getElem?_eq_some_iff.mp hj).1
    rw [List.length_take] at this; omega
  rw [List.getElem?_take_of_lt hji] at hj
  have h1 : (ds.map (·.1))[j]? = some k2 := by rw [List.getElem?_map, hj]; rfl
  have h2 : (ds.map (·.1))[i]? = some k2 := by rw [List.getElem?_map, e]; rfl
  obtain ⟨a1, b1⟩ := List.getElem?_eq_some_iff.mp h1
  obtain ⟨a2, b2⟩ := List.getElem?_eq_some_iff.mp h2
  exact (List.pairwise_iff_getElem.mp nd) j i a1 a2 hji (b1.trans b2.symm)
theorem tup_of {K : PySem.W.Frag} {W : Wd} {p : Addr} {xs : List V} {ds : List D} {Q : VK} (h : SqL K W.H p xs) (r : RpL K W xs ds) (q : ∀ a W', Mod [] W W' → W.H a = none → Rp K W' (.ref a) (.tup ds) → Q (.ref a) W'.H) : rTupleOf K [.ref p] W.H Q :=
  ⟨p, xs, rfl, .inl ⟨h, mk_tup (K := K) r fun a W' m n _ s => q a W' m n s⟩⟩
theorem cutV_int (ns : List Int) (lo hi : Option Int) : ∃ ms : List Int, cutV (ns.map V.int) lo hi = ms.map V.int ∧ ms.length ≤ ns.length := by
  unfold cutV
  rw [← List.map_drop, ← List.map_take]
  exact ⟨_, rfl, by rw [List.length_take, List.length_drop]; omega⟩
/-- a slice of a list of numbers -/
theorem slL {K : PySem.W.Frag} {W : Wd} {a : Addr} {ns : List Int} {lo hi : Option Int} {Q : VK} (h : SqL K W.H a (ns.map V.int)) (q : ∀ p W', Mod [] W W' → W.H p = none → (∃ ms : List Int, W'.H p = some (.lst (ms.map V.int)) ∧ ms.length ≤ ns.length) → Q (.ref p) W'.H) : rSlU K (.ref a) lo hi W.H Q := by
  obtain ⟨ms, e, hm⟩ := cutV_int ns lo hi
  refine .inl ⟨a, _, rfl, h, fun p hp => ?_⟩
  exact q p (W.put p _ hp) (Wd.put_mod hp) hp ⟨ms, by rw [e]; exact upd_same, hm⟩
theorem RpL.drop {K : PySem.W.Frag} {W : Wd} : ∀ {vs : List V} {ds : List D} (n : Nat), RpL K W vs ds → RpL K W (vs.drop n) (ds.drop n)
  | _, _, 0, h => h
  | _, _, _ + 1, .nil => .nil
  | _, _, n + 1, .cons _ t => t.drop n
theorem RpL.take {K : PySem.W.Frag} {W : Wd} : ∀ {vs : List V} {ds : List D} (n : Nat), RpL K W vs ds → RpL K W (vs.take n) (ds.take n)
  | _, _, 0, h => .nil
  | _, _, _ + 1, .nil => .nil
  | _, _, n + 1, .cons h t => .cons h (t.take n)
/-- a slice of a list of data -/
theorem slRL {K : PySem.W.Frag} {W : Wd} {a : Addr} {ds : List D} {lo hi : Option Int} {Q : VK} (h : Rp K W (.ref a) (.lst ds)) (q : ∀ p W' es, Mod [] W W' → W.H p = none → Rp K W' (.ref p) (.lst es) → (∀ d ∈ es, d ∈ ds) → es.length ≤ ds.length → Q (.ref p) W'.H) : rSlU K (.ref a) lo hi W.H Q := by
  obtain ⟨xs, h1, h2⟩ := h.seqL
  refine .inl ⟨a, xs, rfl, h1, ?_⟩
  unfold cutV
  exact mk_lst (K := K) ((h2.drop _).take _) fun p W' m n r => q p W' _ m n r (fun d hd => List.mem_of_mem_drop (List.mem_of_mem_take hd)) (by rw [List.length_take, List.length_drop]; omega)
/-- a list and a list -/
theorem catRL {K : PySem.W.Frag} {W : Wd} {p q : Addr} {xs ys : List V} {ds es : List D} {Q : VK} (h : W.H p = some (.lst xs)) (h' : W.H q = some (.lst ys)) (r : RpL K W xs ds) (r' : RpL K W ys es) (hl : xs.length + ys.length ≤ 1000000) (k : ∀ a W', Mod [] W W' → W.H a = none → Rp K W' (.ref a) (.lst (ds ++ es)) → Q (.ref a) W'.H) :
    rAddU (.ref p) (.ref q) W.H Q := by
  exact .inr (.inr ⟨p, q, xs, ys, rfl, rfl, h, h', Nat.le_trans hl (by decide), mk_lst (K := K) (r.append r') fun a W' m n s => k a W' m n s⟩)
theorem Rp.lstH {K : PySem.W.Frag} {W : Wd} {a : Addr} {ds : List D} (h : Rp K W (.ref a) (.lst ds)) : ∃ xs, W.H a = some (.lst xs) ∧ ¬ W.M a ∧ RpL K W xs ds := by
  cases h with
  | lst h1 h2 h3 => exact ⟨_, h1, h2, h3⟩
def spStore (K : PySem.W.Frag) : Sp := fun vs H Q _ => ∃ (W : Wd) (a : Addr) (ns : List Int), W.H = H ∧ vs = [.ref a] ∧ SqL K W.H a (ns.map V.int) ∧ ns.length ≤ 63 ∧ ∀ st W', Mod [] W W' → W.H st = none → Sto K st W' → Q (.ref st) W'.H
theorem use_store {K : PySem.W.Frag} {W : Wd} {a : Addr} {ns : List Int} {Q : VK} {E : XK} (h : SqL K W.H a (ns.map V.int)) (hl : ns.length ≤ 63) (q : ∀ st W', Mod [] W W' → W.H st = none → Sto K st W' → Q (.ref st) W'.H) : spStore K ([.ref a] ++ []) W.H Q E := ⟨W, a, ns, rfl, rfl, h, hl, q⟩
/-! ### what is due -/
theorem splD_not {d : D} (h : isLet d = false) : splD d = refD "BadWord" := by
  cases d with
  | str z =>
    have h' : letZ z = false := h
    show (if letZ z = true then _ else _) = _
    rw [h', if_neg Bool.false_ne_true]
  | _ => rfl
def dueD (way : Int) (d : D) : D := if way = 0 then .bl (isNm d) else if way = 1 then .bl (isFree d) else if way = 2 then .bl (isLet d) else splD d
def spDue (K : PySem.W.Frag) : Sp := fun vs H Q _ => ∃ (W : Wd) (way : Int) (v : V) (d : D), W.H = H ∧ vs = [.int way, v] ∧ Rp K W v d ∧ Sz d ∧ ∀ r W', Mod [] W W' → Rp K W' r (dueD way d) → Q r W'.H
theorem use_due {K : PySem.W.Frag} {W : Wd} {way : Int} {v : V} {d : D} {Q : VK} {E : XK} (h : Rp K W v d) (hz : Sz d) (q : ∀ r W', Mod [] W W' → Rp K W' r (dueD way d) → Q r W'.H) : spDue K ([.int way, v] ++ []) W.H Q E := ⟨W, way, v, d, rfl, rfl, h, hz, q⟩
theorem split_dot {a b : Str} (ha : 46 ∉ tl a) (hb : 46 ∉ tl b) : Txt.split (a ++ dot ++ b) dot = [a, b] := by
  have h := split_join (y := dot) (s := 46) (S := []) rfl (by decide +kernel) (parts := [a, b]) (by simp) (by
    intro p hp
    simp at hp
    rcases hp with rfl | rfl
    · exact ha
    · exact hb)
  have e : Txt.join dot [a, b] = a ++ dot ++ b := ext_tl (by rw [join_eq, tl_join, tl_append, tl_append]; simp [joinL])
  rw [e] at h
  exact h
theorem splitR {K : PySem.W.Frag} {W : Wd} {a b : Str} {zs : List Str} {Q : VK} (hz : a.length + 2 ≤ sizeLine) (hb : (b.length == 0) = false) (e : Txt.split a b = zs) (q : ∀ p W', Mod [] W W' → W.H p = none → Rp K W' (.ref p) (.lst (zs.map D.str)) → Q (.ref p) W'.H) :
    rSplitK (.str a) [.str b] W.H Q := by
  subst e
  exact splitS hb hz q
/-- a letter's pair, joined -/
def spJDue (K : PySem.W.Frag) : Sp := fun vs H Q _ => ∃ (W : Wd) (p : Addr) (d : D) (es : List D), W.H = H ∧ vs = [.ref p] ∧ Rp K W (.ref p) (.lst (d :: es)) ∧ es.length ≤ 1 ∧ Sz d ∧ ∀ r W', Mod [] W W' → Rp K W' r (joinD d (es.headD .non)) → Q r W'.H
theorem use_jdue {K : PySem.W.Frag} {W : Wd} {p : Addr} {d : D} {es : List D} {Q : VK} {E : XK} (h : Rp K W (.ref p) (.lst (d :: es))) (hl : es.length ≤ 1) (hz : Sz d) (q : ∀ r W', Mod [] W W' → Rp K W' r (joinD d (es.headD .non)) → Q r W'.H) : spJDue K ([.ref p] ++ []) W.H Q E := ⟨W, p, d, es, rfl, rfl, h, hl, hz, q⟩
theorem joinD_not {d e : D} (h : joinB d e = false) : joinD d e = refD "BadWord" := by
  show (if joinB d e = true then _ else _) = _
  rw [h, if_neg Bool.false_ne_true]
/-! ### errors told -/
abbrev errNs : List Str := [Str.ofString "BadMachine", Str.ofString "BadNet", Str.ofString "BadStanding", Str.ofString "BadWord", Str.ofString "BadText", Str.ofString "BadWish", Str.ofString "BadPaper", Str.ofString "Cannot", Str.ofString "Loud", Str.ofString "NotCalm", Str.ofString "NotThere", Str.ofString "NoJoin", Str.ofString "TooMany", Str.ofString "Reserved", Str.ofString "Nothing"]
def spErr (Z : Env) : SpE := fun cls d H Q => ∃ (W : Wd) (C : Addr) (nm : String), W.H = H ∧ cls = .ref C ∧ d = none ∧ ErrRow Z C (Str.ofString nm) errNs ∧ ∀ p W', Mod [] W W' → Rp Z.K W' (.ref p) (refD nm) → Q (.ref p) W'.H
/-- an error that is caught and told -/
theorem caught {Z : Env} {σ : L2.St} {W : Wd} {C c : Addr} {nm : String} {i : Nat} {Wout : L2.WX} {E : Ends} (hm : PySem.W.exmOne Z.K (.ref C) (.ref c) = some true) (hr : ErrRow Z C (Str.ofString nm) errNs) (hi : i < σ.length) (q : ∀ p W', Mod [] W W' → Rp Z.K W' (.ref p) (refD nm) → E.rt (.ref p) W'.H) :
    L2.wAs Z.K (.ref c) i (fun a cls d => tRet (tErr (spErr Z) a cls d (tVar i))) Wout E (.ref C) none σ W.H := by
  refine ⟨true, hm, fun _ a ha => ?_, fun h => nomatch h⟩
  refine ⟨.ref a, ?_, rfl, W, C, nm, rfl, rfl, rfl, hr, q⟩
  rw [List.getElem?_set_self hi]
theorem wholeB_wh {d : D} {lo hi : Int} (h : isWh d = false) : wholeB d lo hi = false := by
  cases d <;> first
    | rfl
    | cases h
theorem isWh_int {d : D} (h : isWh d = true) : ∃ i, d = .int i := by
  cases d with
  | int i => exact ⟨i, rfl⟩
  | _ => cases h
end Q
/-! KitJ: the law of names and letters, plainly -/
namespace Q
open PySem PySem.Spec PyProof.Rows L2 TL
theorem big_log2 {i : Int} (h1 : -1000000000000000000000000000000000000000000000000000000000000 < i) (h2 : i < 1000000000000000000000000000000000000000000000000000000000000) : i.natAbs.log2 < 1920 := by
  by_cases h0 : i.natAbs = 0
  · rw [h0]; decide
  · refine Nat.lt_of_lt_of_le ((Nat.log2_lt h0).mpr (?_ : i.natAbs < 2 ^ 200)) (by decide)
    have e : (2 : Nat) ^ 200 = 1606938044258990275541962092341162602522202993782792835301376 := by decide
    rw [e]
    omega
theorem dep_all {n : Nat} {ds : List D} (h : ∀ d ∈ ds, Dep n d) : ∀ d ∈ ds, Dep n d := h
theorem dep_odd : ∀ d ∈ oddDs, Dep 3 d := by
  intro d hd
  simp only [oddDs, List.mem_cons, List.not_mem_nil, or_false] at hd
  rcases hd with rfl | rfl | rfl | rfl | rfl
  · exact .lst (by decide) fun _ h => nomatch h
  · exact .tup (by decide) fun _ h => nomatch h
  · refine .dct (by decide) (by decide) (by decide +kernel) fun q hq => ?_
    rw [List.mem_singleton.mp hq]
    exact .int
  · refine .lst (by decide) fun q hq => ?_
    simp only [List.mem_cons, List.not_mem_nil, or_false] at hq
    rcases hq with rfl | rfl
    · exact .int
    · exact .lst (by decide) fun q hq => by rw [List.mem_singleton.mp hq]; exact .int
  · refine .tup (by decide) fun q hq => ?_
    simp only [List.mem_cons, List.not_mem_nil, or_false] at hq
    rcases hq with rfl | rfl | rfl | rfl <;> first | exact .int | exact .str
theorem Val.dep {d : D} (h : Val d) : Dep 3 d := by
  rcases h with rfl | ⟨_, rfl⟩ | ⟨_, rfl, _⟩ | ⟨_, rfl, _⟩ | h
  · exact .non
  · exact .bl
  · exact .int
  · exact .str
  · exact dep_odd d h
theorem dep_ref (nm : String) : Dep 4 (refD nm) := .tup (by simp) fun q hq => by
  simp only [List.mem_cons, List.not_mem_nil, or_false] at hq
  rcases hq with rfl | rfl <;> exact .str
theorem dep_splZ (z : Str) : Dep 4 (splZ z) := by
  unfold splZ
  split
  · refine .tup (by simp) fun q hq => ?_
    simp only [List.mem_cons, List.not_mem_nil, or_false] at hq
    rcases hq with rfl | rfl
    · exact .str
    · exact .int
  · refine .tup (by simp) fun q hq => ?_
    simp only [List.mem_cons, List.not_mem_nil, or_false] at hq
    rcases hq with rfl | rfl
    · exact .str
    · exact .non
theorem dep_splD (d : D) : Dep 4 (splD d) := by
  cases hl : isLet d with
  | false => rw [splD_not hl]; exact dep_ref _
  | true =>
    obtain ⟨z, rfl, h⟩ := isLet_str hl
    rw [splD_let h]
    exact dep_splZ z
theorem dep_due (way : Int) (d : D) : Dep 4 (dueD way d) := by
  unfold dueD
  split
  · exact .bl
  split
  · exact .bl
  split
  · exact .bl
  · exact dep_splD d
theorem dep_join (d e : D) : Dep 4 (joinD d e) := by
  unfold joinD
  split
  · cases d with
    | str z => cases e <;> first | exact Dep.str | exact dep_ref _
    | _ => exact dep_ref _
  · exact dep_ref _
/-- a letter, cut and joined again -/
theorem spl_join_back {z : Str} (h : letZ z = true) : ∃ nm o, splZ z = .tup [.str nm, o] ∧ nmB nm = true ∧ joinD (.str nm) o = .str z := by
  by_cases hdot : 46 ∈ tl z
  · obtain ⟨a, b, rfl, ha⟩ := dot_split hdot
    rw [letZ_dot ha, Bool.and_eq_true] at h
    refine ⟨a, .int (numV b), splZ_dot ha, h.1, ?_⟩
    have hi := intText_short h.2
    obtain ⟨j, hj, rfl⟩ := shortB_iff.mp h.2
    have e : PySem.intText? (nums j) = some (j : Int) := int_num (Nat.le_trans (numL_len (k := 2) (by decide) (by omega)) (by decide))
    rw [hi] at e
    rw [Option.some.inj e, joinD_int h.1 (by show (decide (0 ≤ (j : Int)) && decide ((j : Int) ≤ 99)) = true; rw [decide_eq_true (by omega), decide_eq_true (by omega)]; rfl)]
  · rw [letZ_none hdot] at h
    exact ⟨z, .non, splZ_none hdot, h, joinD_non h⟩
def spRight (K : PySem.W.Frag) : Sp := fun vs H Q _ => ∃ (W : Wd) (st : Addr), W.H = H ∧ vs = [.ref st] ∧ Sto K st W ∧ ∀ W', Mod [st] W W' → Sto K st W' → Q (.bl true) W'.H
theorem use_right {K : PySem.W.Frag} {W : Wd} {st : Addr} {Q : VK} {E : XK} (h : Sto K st W) (q : ∀ W', Mod [st] W W' → Sto K st W' → Q (.bl true) W'.H) : spRight K ([.ref st] ++ []) W.H Q E := ⟨W, st, rfl, rfl, h, q⟩
theorem wholeB_int' (i lo hi : Int) : wholeB (.int i) lo hi = (decide (lo ≤ i) && decide (i ≤ hi)) := rfl
end Q
namespace Q
open PySem PySem.Spec PyProof.Rows L2 TL
def spLaw (K : PySem.W.Frag) : Sp := fun vs H Q _ => ∃ (W : Wd) (a : Addr) (ns : List Int), W.H = H ∧ vs = [.ref a] ∧ SqL K W.H a (ns.map V.int) ∧ ns.length ≤ 63 ∧ ∀ H', Q (.bl true) H'
/-- a pair to be joined -/
def PairOk (d : D) : Prop := ∃ x es, d = .lst (x :: es) ∧ es.length ≤ 1 ∧ Sz x
structure LawI (K : PySem.W.Frag) (st pp p7 : Addr) (cp : V) (vs : List D) (W : Wd) (xs : List V) (pd : List D) : Prop where
  s : Sto K st W
  v : Rp K W (.ref p7) (.lst vs)
  c : Rp K W cp (.lst vs)
  o : Own W pp xs
  r : RpL K W xs pd
  p : ∀ d ∈ pd, PairOk d
section
variable {K : PySem.W.Frag} {st pp p7 : Addr} {cp : V} {vs pd : List D} {xs : List V} {W W' : Wd}
theorem LawI.up0 (l : LawI K st pp p7 cp vs W xs pd) (m : Mod [] W W') : LawI K st pp p7 cp vs W' xs pd := ⟨l.s.up m (by simp), l.v.up m, l.c.up m, l.o.up m (by simp), l.r.up m, l.p⟩
theorem LawI.upS (l : LawI K st pp p7 cp vs W xs pd) (m : Mod [st] W W') (s : Sto K st W') (n : pp ≠ st) : LawI K st pp p7 cp vs W' xs pd := ⟨s, l.v.up m, l.c.up m, l.o.up m (by simp [n]), l.r.up m, l.p⟩
theorem LawI.app {y : V} {d : D} (l : LawI K st pp p7 cp vs W xs pd) (m : Mod [pp] W W') (o : Own W' pp (xs ++ [y])) (n : pp ≠ st) (h : Rp K W y d) (hd : PairOk d) : LawI K st pp p7 cp vs W' (xs ++ [y]) (pd ++ [d]) :=
  ⟨l.s.up m (by simp [Ne.symm n]), l.v.up m, l.c.up m, o, (l.r.up m).snoc (h.up m), fun e he => (List.mem_append.mp he).elim (l.p e) fun h2 => by rw [List.mem_singleton.mp h2]; exact hd⟩
end
/-- where a law starts -/
theorem start_law {K : PySem.W.Frag} (H : Hp) (a : Addr) (ns : List Int) (hl : ns.length ≤ 63) (_ : Only H) (hS : SqL K H a (ns.map V.int)) : spLaw K [.ref a] H (fun v _ => v = .bl true) fun _ _ _ => False :=
  ⟨⟨H, fun _ => False, fun _ h => h.elim⟩, a, ns, rfl, rfl, hS, hl, fun _ => rfl⟩
end Q
/-! KitK: within an except clause: a list over a range, isinstance of the error, a def that is called -/
namespace Q
open PySem PySem.Spec PyProof.Rows L2 TL
section
variable {X : Cx} {p : Addr × Obj}
/-- the error stays where it is while a block runs -/
theorem pin_blk {pins : List (Addr × Obj)} {σ σ' : L2.St} {H H' : Hp} {s s' s0 : Shared} {scope : Scope} {ce : PySem.Env} {fp : List Addr} (I : Inv X pins σ H s) (hp : p ∈ X.pn) (J : Inv (X.blk s0 H' scope ce fp) [] σ' H' s') (k : ∀ b o, s.heap.get? b = some o → s'.heap.get? b = some o)
    (hn : H' p.1 = none) (hL : p.1 ≠ ce.locals) : Inv (X.blk s0 H' scope ce fp) [p] σ' H' s' :=
  J.pins_of fun q hq => by
    have P1 := I.pin p (List.mem_append_left _ hp)
    rw [List.mem_singleton.mp hq]
    exact ⟨k _ _ P1.1, hn, hL, fun hm => (List.mem_cons.mp (I.stkSub p.1 hm)).elim P1.2.2.1 P1.2.2.2.1, P1.2.2.2.2⟩
theorem lcH_core {pins : List (Addr × Obj)} {s : Shared} {σ : L2.St} {H : Hp} {Q : VK} {elt tg iter : Expr} {ifs : List Expr} {scope : Scope} {own : List (Str × Nat)} {pos pos' : Pos} {wi : TI} {g : TG} {tt : TT} {te : TE} {use : Option (Value → Sem Unit)} {Qf : Value → Shared → Prop}
    (hot : L2H.Hot1 X.A p) (hp : p ∈ X.pn) (hN : X.N.Nodup) (I : Inv X pins σ H s) (hi : L2H.PIH X tg iter wi) (ok : BlkOk X.N X.env.scope scope own)
    (hg : ∀ (s0 : Shared) (H0 : Hp) (C : Addr) (cl : List (Str × Addr)) (fp : List Addr), PG (X.blk s0 H0 scope (compEnvC scope cl C X.env) fp) tg g)
    (ht : ∀ (s0 : Shared) (H0 : Hp) (C : Addr) (cl : List (Str × Addr)) (fp : List Addr), PTs (X.blk s0 H0 scope (compEnvC scope cl C X.env) fp) ifs tt)
    (he : ∀ (s0 : Shared) (H0 : Hp) (C : Addr) (cl : List (Str × Addr)) (fp : List Addr), PE (X.blk s0 H0 scope (compEnvC scope cl C X.env) fp) elt te) (hs : ∀ x, foldedSetIterable iter X.env x = pure x)
    (h : tLc wi g tt te (own.map (·.2)) σ H Q)
    (hRR : ∀ D C s' m H', Inv X pins σ H' s' → Q (.ref D) H' → s'.heap.Ns C m → FpOk X pins H' C → compPost (model X.prog X.w) X.A X.xe use Qf (.ref D) C (.ok .next) s') :
    wpAny (model X.prog X.w) X.A (comprehension (.ListComp elt [⟨tg, iter, ifs, 0⟩] scope pos) scope X.env pos' (newList []) false (eval iter X.env) use) Qf X.xe s := by
  have hfree : ∀ y ∈ scope.names, y.2 = .free → ∃ c, X.env.cells.lookup y.1 = some c := fun y hy e =>
    (ok.free y hy e).elim (fun k => I.ok.has _ (.inl k)) (fun k => I.ok.has _ (.inr k))
  refine wpAny_comprehension_free (use := use) rfl hs (closure_ok hfree) ok.kind (fun y hy e => by rw [ok.uniq y hy, e]) (thn (hi.run pins s σ H _ I h) fun xv s1 hx => thn hx fun itv s2 h2 => ?_)
  obtain ⟨it, fp, tn, J, H2, ei, I2, T, st2, f2, q⟩ := h2
  subst ei
  refine wpAny_newObj_type (newEnv_comp ?_) (by show 0 ≤ sizeLine; decide)
  generalize hD : s2.heap.objs.size = D
  obtain ⟨W, ⟨m0, w0⟩, turn⟩ := q D (I2.hok.fresh (Nat.le_of_eq hD))
  generalize hs3 : ({ s2 with heap := s2.heap.push { cls := .type "list", data := .seq ([] : List Value).toArray } } : Shared) = s3
  have h3 : s3.heap = s2.heap.push { cls := .type "list", data := .seq ([] : List Value).toArray } := by rw [← hs3]
  have I3 : Inv X pins σ (upd H2 D (.lst [])) s3 := by
    subst hs3
    refine I2.laid (t' := s2.toks) (fun b o e => Heap.get?_push_of_some _ e) (Nat.le_of_eq hD) ⟨Nat.zero_le _, [], 0, .nil, ?_⟩
    subst hD
    exact Heap.get?_push_size _ rfl
  have f3 : ∀ b ∈ fp, FpOk X pins (upd H2 D (.lst [])) b ∧ b < s3.heap.objs.size := fun b hb => by
    obtain ⟨ob, eb, _⟩ := T.obj _ _ st2 b hb
    have hlt := Heap.lt_size eb
    refine ⟨⟨?_, (f2 b hb).2⟩, by rw [h3, Heap.size_push]; exact Nat.lt_succ_of_lt hlt⟩
    rw [upd_ne (by rw [← hD]; exact Nat.ne_of_lt hlt)]
    exact (f2 b hb).1
  have st3 : tn 0 s3.heap := T.keep _ _ _ st2 fun b _ o e => by rw [h3]; exact Heap.get?_push_of_some _ e
  have I4 := block_start I3 ok hN f3
  have pg := hg s3 (upd H2 D (.lst [])) s3.heap.objs.size (cellsFrom (s3.heap.objs.size + 1) scope.names (cloFrom X.env.cells scope.names [])) fp
  have pt := ht s3 (upd H2 D (.lst [])) s3.heap.objs.size (cellsFrom (s3.heap.objs.size + 1) scope.names (cloFrom X.env.cells scope.names [])) fp
  have pe := he s3 (upd H2 D (.lst [])) s3.heap.objs.size (cellsFrom (s3.heap.objs.size + 1) scope.names (cloFrom X.env.cells scope.names [])) fp
  show codeAny _ _ (.compStart (.ListComp elt [⟨tg, iter, ifs, 0⟩] scope pos) 0 (.ref it) (.ref D) (compEnvC scope (cellsFrom (s3.heap.objs.size + 1) scope.names (cloFrom X.env.cells scope.names [])) s3.heap.objs.size X.env)) (compPost (model X.prog X.w) X.A X.xe use Qf (.ref D) s3.heap.objs.size)
    { s3 with heap := pushCells (s3.heap.push { cls := .type "dict", data := .dict #[] }) scope.names }
  have P3 := I3.pin p (List.mem_append_left _ hp)
  generalize hce : compEnvC scope (cellsFrom (s3.heap.objs.size + 1) scope.names (cloFrom X.env.cells scope.names [])) s3.heap.objs.size X.env = ce at I4 pg pt pe ⊢
  have cL : ce.locals = s3.heap.objs.size := by subst hce; rfl
  generalize hH3 : upd H2 D (.lst []) = H3 at I3 I4 pg pt pe w0 f3 P3
  generalize hs4 : ({ s3 with heap := pushCells (s3.heap.push { cls := .type "dict", data := .dict #[] }) scope.names } : Shared) = s4 at I4 ⊢
  have kp4 : ∀ b o, s3.heap.get? b = some o → s4.heap.get? b = some o := fun b o e => by rw [← hs4]; exact pushCells_keeps _ _ _ _ (Heap.get?_push_of_some _ e)
  have st4 : tn 0 s4.heap := T.keep _ _ _ st3 fun b _ o e => kp4 b o e
  have I4 := pin_blk I3 hp I4 kp4 P3.2.1 (by rw [cL]; exact Nat.ne_of_lt (Heap.lt_size P3.1))
  have npf : ∀ b ∈ fp, p.1 ≠ b := fun b hb => (f3 b hb).1.2.2.2.2.2 p (List.mem_append_left _ hp)
  have stat : ∀ {σ' : L2.St} {H' : Hp} {s' : Shared}, Inv (X.blk s3 H3 scope ce fp) [p] σ' H' s' → (∀ b ∈ fp, H' b = none) → ∀ b ∈ fp, FpOk (X.blk s3 H3 scope ce fp) [p] H' b := fun {σ' H' s'} I' hn b hb =>
    ⟨hn b hb, (I'.ok.exf b hb).1, I'.ok.exfs b hb, .inl hb, fun x c e => (I'.ok.exf b hb).2 x c e, fun q hq => by
      rw [List.mem_singleton.mp (show q ∈ [p] from hq)]
      exact npf b hb⟩
  let X' : Cx := (X.blk s3 H3 scope ce fp).tr [p] (fun _ _ => False)
  have hc' : L2H.HotC X' := ⟨p, hot, List.mem_singleton.mpr rfl⟩
  have inn : ∀ {σ' : L2.St} {H' : Hp} {s' : Shared}, Inv (X.blk s3 H3 scope ce fp) [p] σ' H' s' → Inv X' [] σ' H' s' := fun I' => I'.toTry _
  have loop : codeAny (model X.prog X.w) X.A (.compLoop (.ListComp elt [⟨tg, iter, ifs, 0⟩] scope pos) 0 (.ref it) (.ref D) ce) (compPost (model X.prog X.w) X.A X.xe use Qf (.ref D) s3.heap.objs.size) s4 := by
    refine compLoop_any (fun n s' => ∃ i H', Inv (X.blk s3 H3 scope ce fp) [p] (wipe σ (own.map (·.2))) H' s' ∧ tn i s'.heap ∧ (∀ b ∈ fp, H' b = none) ∧ W i n H') ?_ m0 ⟨0, H3, I4, st4, fun b hb => (f3 b hb).1.1, w0⟩
    rintro n s5 ⟨i, H5, I5, st5, n5, w5⟩
    have fpk : ∀ b ∈ fp, FpOk X' [] H5 b := fun b hb => stat I5 n5 b hb
    rcases turn i n H5 w5 with ⟨stop, qq⟩ | ⟨go, Nx, hNx, step⟩
    · have td := T.done X' rfl rfl rfl hc' i [] s5 _ H5 (fun _ _ => False) (inn I5) fpk st5 stop
      refine thnF td fun r s6 ⟨hr, J6⟩ => ?_
      subst hr
      have I6 : Inv (X.blk s3 H3 scope ce fp) [p] _ H5 s6 := Inv.ofTry (pins := [p]) J6 I5.ok
      have I7 : Inv X pins σ H5 s6 := I3.call' (ch := fp) I6.os I6.base I6.hok I6.bare fun b hb => ⟨(f3 b hb).1.2.2.2.1, (f3 b hb).1.2.1, (f3 b hb).1.2.2.2.2.1, (f3 b hb).1.2.2.2.2.2⟩
      have nC : H5 s3.heap.objs.size = none := by
        have z : H5 ce.locals = none := I6.free
        rw [cL] at z
        exact z
      obtain ⟨mm, hmm, _⟩ := I6.loc
      have hmm : s6.heap.Ns ce.locals mm := hmm
      rw [cL] at hmm
      exact hRR D s3.heap.objs.size s6 mm H5 I7 qq hmm (I3.fpOk (Nat.le_refl _) nC)
    · have ti := T.item X' rfl rfl rfl hc' i [] s5 _ H5 (fun _ _ => False) (inn I5) fpk st5 go
      refine thnF ti fun r s6 ⟨u, hr, h6⟩ => ?_
      subst hr
      refine thnF h6 fun _ s7 ⟨x, H7, J7, r7, y7, st7, n7⟩ => ?_
      have I7 : Inv (X.blk s3 H3 scope ce fp) [p] _ H7 s7 := Inv.ofTry (pins := [p]) J7 I5.ok
      have I7' := I7.pinned (stat I7 n7) (T.obj _ _ st7)
      refine thnF (pg.run _ s7 _ H7 x u _ I7' r7 (step x H7 y7)) fun _ s8 ⟨σ8, H8, I8, hw8, q8⟩ => ?_
      refine thnF (pt.run _ s8 σ8 H8 _ I8 q8) fun b s9 ⟨H9, I9, q9⟩ => ?_
      have fin : ∀ {s' : Shared} {H' : Hp}, Inv (X.blk s3 H3 scope ce fp) ([p] ++ pinsAt fp s7.heap) σ8 H' s' → Nx H' → ∃ m, m < n ∧ ∃ i H', Inv (X.blk s3 H3 scope ce fp) [p] (wipe σ (own.map (·.2))) H' s' ∧ tn i s'.heap ∧ (∀ b ∈ fp, H' b = none) ∧ W i m H' := fun {s' H'} I' nx => by
        obtain ⟨m', hm, w'⟩ := hNx H' nx
        have pin' : ∀ b ∈ fp, ∀ o, s7.heap.get? b = some o → s'.heap.get? b = some o ∧ H' b = none := fun b hb o e =>
          let z := I'.pin (b, o) (List.mem_append_right _ (List.mem_append_right _ (mem_pinsAt hb e)))
          ⟨z.1, z.2.1⟩
        refine ⟨m', hm, i + 1, H', (I'.unpinned (pins := [p])).weak (by rw [← hw8, wipe_length]) (fun j v e => ?_), T.keep _ _ _ st7 fun b hb o e => (pin' b hb o e).1, fun b hb => ?_, w'⟩
        · rw [← hw8] at e
          exact (wipe_some e).1
        · obtain ⟨o, e, _⟩ := T.obj _ _ st7 b hb
          exact (pin' b hb o e).2
      cases b with
      | false =>
        simp only [Bool.false_eq_true, if_false] at q9 ⊢
        exact fin I9 q9
      | true =>
        simp only [if_true] at q9 ⊢
        refine thnF (pe.run _ s9 σ8 H9 _ I9 q9) fun z s10 ⟨yv, H10, I10, r10, acc, hD10, hz10, nx⟩ => ?_
        exact app_ok (X := X.blk s3 H3 scope ce fp) I10 hD10 hz10 r10 fun s11 I11 => fin I11 nx
  exact codeAny_compStart_list loop (T.self X.A 0 _ _ _ st4 loop)
/-- name = [..] there -/
theorem ps_setLcH {i : Nat} {y : Str} {py : Pos} {elt tg iter : Expr} {ifs : List Expr} {scope : Scope} {own : List (Str × Nat)} {pos spos : Pos} {wi : TI} {g : TG} {tt : TT} {te : TE} (hot : L2H.Hot1 X.A p) (hp : p ∈ X.pn) (hN : X.N.Nodup) (hy : X.N[i]? = some y) (hyl : X.env.scope.names.lookup y = some .local)
    (hsw : swapsWith (.ListComp elt [⟨tg, iter, ifs, 0⟩] scope pos) (some (.Name y py)) spos.line X.env = pure true) (hi : L2H.PIH X tg iter wi) (ok : BlkOk X.N X.env.scope scope own)
    (hg : ∀ (s0 : Shared) (H0 : Hp) (C : Addr) (cl : List (Str × Addr)) (fp : List Addr), PG (X.blk s0 H0 scope (compEnvC scope cl C X.env) fp) tg g)
    (ht : ∀ (s0 : Shared) (H0 : Hp) (C : Addr) (cl : List (Str × Addr)) (fp : List Addr), PTs (X.blk s0 H0 scope (compEnvC scope cl C X.env) fp) ifs tt)
    (he : ∀ (s0 : Shared) (H0 : Hp) (C : Addr) (cl : List (Str × Addr)) (fp : List Addr), PE (X.blk s0 H0 scope (compEnvC scope cl C X.env) fp) elt te) (hs : ∀ x, foldedSetIterable iter X.env x = pure x := by intro _; rfl) :
    PS X (.Assign [.Name y py] (.ListComp elt [⟨tg, iter, ifs, 0⟩] scope pos) spos) (tAsg (tLc wi g tt te (own.map (·.2))) (gName i)) := by
  refine ⟨fun pins s σ H D I h => ?_⟩
  rw [exec_Assign_Name_used _ _ _ _ hsw]
  refine wpAny_bind (wpAny_standAt (wpAny_bind ?_))
  show wpAny _ X.A (do let _ ← comprehension (.ListComp elt [⟨tg, iter, ifs, 0⟩] scope pos) scope X.env (firstIterPos [⟨tg, iter, ifs, 0⟩] pos) (newList []) false (eval iter X.env) (some (assign (.Name y py) X.env))) _ _ s
  have h' : tLc wi g tt te (own.map (·.2)) σ H (fun x H1 => gName i x σ H1 D.nx) := h
  refine wpAny_bind (thn (lcH_core (Qf := fun _ s' => SP X pins D .next s') hot hp hN I hi ok hg ht he hs h' fun L C s1 m H1 I1 q hn f => ?_) fun _ s2 hq => wpAny_pure (wpAny_pure hq))
  show wpAny _ _ (assign (.Name y py) X.env (.ref L)) _ _ _
  refine wpAny_assign_Name (store_ok2 (v := V.ref L) I1 hN hy (.inl hyl) rfl (fun s2 I2 ⟨a, sb, ha⟩ => ?_) (.inr hyl))
  obtain ⟨f0, f1, f2, f3, f4, f5⟩ := f
  have haC : C ≠ a := ha.elim (fun z => by rw [z]; exact f1) fun z e => f4 y a z e.symm
  exact ⟨m, hn.sameBut sb haC, fun h3 sb3 => ⟨_, H1, I2.turned (t' := s2.toks) (fun b o hb e => (sb3.2 b hb).trans e) f0 f1 f3 f4 f5, q⟩⟩
/-- isinstance of the error that is handled -/
theorem isiE {D : Addr} (hp : p ∈ X.pn) (C : ExcC X.K D) (hz : L2N.Zn (.ref D) none p.2) (hf : ∃ vs, p.2.data = .fields vs) : CallR X (.builtin "isinstance") (rIsE X.K D p.1) := by
  intro pins s σ H xs us Q I r h
  obtain ⟨c, cv, b, rfl, hcv, e, q⟩ := h
  match us, r with
  | [_, u], .cons rx (.cons rt .nil) =>
    obtain rfl := hcv _ rt
    cases rx
    obtain ⟨hget, _⟩ := I.pin p (List.mem_append_left _ hp)
    obtain ⟨vs, hv⟩ := hf
    have J : PySem.W.InstAt s.heap p.1 p.2 D none := by
      obtain ⟨a, ⟨oc, od, oda, osl⟩⟩ := p
      obtain ⟨h1, h2, _⟩ := hz
      dsimp only at h1 h2 hv
      subst h1 h2 hv
      exact ⟨hget, rfl, rfl, trivial⟩
    exact PySem.W.kia_one (PySem.W.handS_kitx_exc C.hg C.hk C.hs C.hd C.ha C.hn C.ht C.hm) I.kIn J e (fun z => nomatch z) fun tk => ⟨.bl b, H, I.kept (t' := tk) fun _ _ z => z, rfl, q⟩
end
/-- a def that is called within a clause -/
theorem canE_of {Z : Env} {k : Nat} {x : Str} {st : Stmt} {N ps : List Str} {sp : SpE} (D : DefAt Z x st []) (S : FnScope N ps (defScope st)) (hl : ps.length = 1)
    (hb : ∀ (kV doc pm : Value) (an : Option Addr) (cdv ct : Value) (us : List Value), us.length = ps.length → bindArgs (PySem.W.fnOf x x (defArgs st) (defBody st) (defScope st) .none kV doc pm an cdv ct) ⟨us, []⟩ = pure (ps.zip us))
    (hbody : ∀ (f : Addr) (cdv : Value) (A : Around) (outer : List PySem.Env) (s : Shared) (H : Hp) (Q : VK) (p : Addr × Obj) (cls : Value) (d : Option Addr), L2H.Hot1 A p → L2N.Zn cls d p.2 → (∃ vs, p.2.data = .fields vs) → L2H.RoomH k (A.deeper (envOfC x (defScope st) s.heap.objs.size f cdv)) → sp cls d H Q →
      ∃ t, PSs (L2H.cxH CX0 Z.P Z.w Z.K Z.mg Z.base N x (defScope st) f cdv A outer s H E0 p) (defBody st) t ∧ t { nx := fun _ H' => Q .non H', rt := Q } (start N [.ref p.1]) H) : CanE Z (k + 1) x ps sp := by
  obtain ⟨f, fd, hm, F⟩ := D
  have b := FunD.bindsN F hb
  refine ⟨f, fd, hm, F.kp, b, hl, fun A outer s H args us Q p cls d hr hot hz hf hpin e0 hbt r hsp => ?_⟩
  obtain ⟨oc, od, dV, kV, doc, pm, an, cdv, ct, osl, rfl, lk, hcd, _, _⟩ := F.ex
  have KX : Z.K.In s.heap := e0.mod.kin.keeps fun b o e => (e0.bs b o e).1
  have lim : s.heap.NoLimit := e0.mod.nolimit.keeps fun b o e => (e0.bs b o e).1
  have hkind : ∀ y ∈ ps.zip us, (defScope st).names.lookup y.1 = some .local ∨ ((defScope st).names.lookup y.1 = some .cell ∧ ((cellsFrom (s.heap.objs.size + 1) (defScope st).names []).lookup y.1).isSome = true) := fun ⟨n, v⟩ hy =>
    (S.par n (List.of_mem_zip hy).1).elim (fun q => .inl q) fun q => .inr ⟨q, PySem.W.cellsFrom_some _ _ _ (.inl q)⟩
  refine codeAny_call_function hr.depth (KX _ _ lk) rfl S.co S.gen rfl (PySem.W.codeRec_of KX hcd) (hbt _ _ _ _ ?_)
  refine wpAny_newFunctionEnv_cells S.kind hkind fun env he s1 xx => ?_
  subst he
  refine ⟨lim.keeps xx.toInCall.keep, codeAny_func ?_⟩
  obtain ⟨t, ht, hq⟩ := hbody f cdv A outer s H Q p cls d hot hz hf (hr.deeper _) hsp
  have I := L2H.inv_startH (CX := CX0) (E := E0) S hpin e0 (show [V.ref p.1].length = ps.length by rw [hl]; rfl) r xx
  refine wpAny_mono (ht.run [] s1 _ H _ I hq) (fun fl s2 hfl => ?_) fun e s2 hfl => hfl
  have fin : ∀ {σ2 : L2.St} {H2 : Hp} {v : V} {u : Value}, Inv (L2H.cxH CX0 Z.P Z.w Z.K Z.mg Z.base N x (defScope st) f cdv A outer s H E0 p) [] σ2 H2 s2 → RelV v u → Q v H2 → CE outer Z.P Z.w H s Q u s2 := by
    intro σ2 H2 v u J rv q
    exact ⟨v, H2, J.os, J.bare, J.base, J.hok, rv, q⟩
  cases fl with
  | ret u =>
    obtain ⟨v, σ2, H2, J, rv, q⟩ := hfl
    exact fin J rv q
  | next =>
    obtain ⟨σ2, H2, J, q⟩ := hfl
    exact fin (v := V.non) (u := Value.none) J rfl q
  | brk =>
    obtain ⟨_, _, _, q⟩ := hfl
    exact False.elim q
  | cont =>
    obtain ⟨_, _, _, q⟩ := hfl
    exact False.elim q
theorem err_one {nm : Str} (h : nm ∈ errNs) : errNs.filter (fun x => decide (x = nm)) = [nm] := by
  simp only [errNs, List.mem_cons, List.not_mem_nil, or_false] at h
  rcases h with h | h | h | h | h | h | h | h | h | h | h | h | h | h | h <;> (subst h; decide +kernel)
theorem i_isE {K : PySem.W.Frag} {D a : Addr} {c C : Addr} {b : Bool} {H : Hp} {Q : VK} (e : PySem.W.kitOne K (.ref D) (.ref C) = some b) (q : Q (.bl b) H) : rIsE K D a [.ref a, .ref C] H Q := ⟨.ref C, .ref C, b, rfl, fun _ h => h, e, q⟩
theorem i_isEt {K : PySem.W.Frag} {D a : Addr} {T : String} {b : Bool} {H : Hp} {Q : VK} (e : PySem.W.kitOne K (.ref D) (.type T) = some b) (q : Q (.bl b) H) : rIsE K D a [.ref a, .ty T] H Q := ⟨.ty T, .type T, b, rfl, fun _ h => h, e, q⟩
theorem fil_t {α : Type} {P : α → Bool} {c : α} (h : P c = true) : List.filter P [c] = [c] := by rw [List.filter_cons_of_pos h, List.filter_nil]
theorem fil_f {α : Type} {P : α → Bool} {c : α} (h : P c = false) : List.filter P [c] = [] := by rw [List.filter_cons_of_neg (by rw [h]; decide), List.filter_nil]
theorem h64H {k : Nat} {A : Around} (r : L2H.RoomH k A) : A.units + 64 < cLine := by have := r.un; omega
end Q
/-! KitL: facts at the head -/
namespace Q
open PySem PySem.Spec PyProof.Rows L2
/-- the head's facts and one more -/
def obsQ (fa : List He.Fa) (fn : List He.DefD) (ex : PySem.W.Frag → Bool) (K : PySem.W.Frag) : He.AlD × Bool := (He.obsD fa fn K, ex K)
def hookQ (n : Nat) (fa : List He.Fa) (fn : List He.DefD) (ex : PySem.W.Frag → Bool) : PySem.W.Hook where
  α := He.AlD × Bool
  obs := fun s => obsQ fa fn ex (He.frG s.heap.get? (He.asD s.heap.get? n))
  val := fun _ => (He.valD fn, true)
  says := fun _ h => ∃ K : PySem.W.Frag, K.In h ∧ He.SaysD fa fn K ∧ ex K = true
  of := fun _ _ e => ⟨_, He.frG_in, congrArg Prod.fst e, congrArg Prod.snd e⟩
  keeps := fun _ _ _ ⟨K, hK, c⟩ k => ⟨K, PySem.W.Frag.In.keeps hK k, c⟩
def obQ (n : Nat) (fa : List He.Fa) (fn : List He.DefD) (ex : PySem.W.Frag → Bool) (g : Addr → Option Obj) : He.AlD × Bool := obsQ fa fn ex (He.frG g (He.asD g n))
theorem obQ_eq {n : Nat} {fa : List He.Fa} {fn : List He.DefD} {ex : PySem.W.Frag → Bool} {g : Addr → Option Obj} {s : Shared} (h : ∀ a, g a = s.heap.get? a) : obQ n fa fn ex g = (hookQ n fa fn ex).obs s := by
  have e : g = s.heap.get? := funext h
  rw [e]
  rfl
/-- how a class of errors stands among the others -/
def errB (K : PySem.W.Frag) (x : Str) (l : List Str) : Bool :=
  (He.eqO (PySem.W.findIn K (.ref (He.ga K x)) "__getattribute__") (some (some (.builtin "BaseException.__getattribute__"))) && (He.eqO (PySem.W.findIn K (.ref (He.ga K x)) "__getattr__") (some none) && (decide (PySem.W.subIn K (.ref (He.ga K x)) (.type "BaseException") = some true) && (PySem.W.hasDictIn K (He.ga K x) &&
    (He.eqO (PySem.W.findIn K (.ref (He.ga K x)) "__class__") (some (some (.builtin "object.__class__"))) && (He.eqO (PySem.W.specialIn K (.builtin "object.__class__") "__get__") (some (some (.builtin "getset_descriptor.__get__"))) && (decide (PySem.W.takesIn K (.builtin "object.__class__") = some true) &&
      decide (PySem.W.mroIn K (He.ga K x) (.type "object") = some true)))))))) &&
  ((l.all fun y => decide (PySem.W.kitOne K (.ref (He.ga K x)) (.ref (He.ga K y)) = some (decide (y = x)))) && (decide (PySem.W.kitOne K (.ref (He.ga K x)) (.ref (He.ga K "OneError")) = some true) && (decide (PySem.W.kitOne K (.ref (He.ga K x)) (.type "ValueError") = some true) && decide (x ∈ l))))
theorem errB_ok {Z : Env} {x : Str} {l : List Str} (h : errB Z.K x l = true) (hl : ∀ y ∈ l, Z.mg y = some (.ref (He.ga Z.K y))) (h1 : Z.mg "OneError" = some (.ref (He.ga Z.K "OneError"))) : ErrRow Z (He.ga Z.K x) x l := by
  obtain ⟨a, b⟩ := He.ba h
  obtain ⟨a1, a⟩ := He.ba a
  obtain ⟨a2, a⟩ := He.ba a
  obtain ⟨a3, a⟩ := He.ba a
  obtain ⟨a4, a⟩ := He.ba a
  obtain ⟨a5, a⟩ := He.ba a
  obtain ⟨a6, a⟩ := He.ba a
  obtain ⟨a7, a8⟩ := He.ba a
  obtain ⟨b1, b⟩ := He.ba b
  obtain ⟨b2, b⟩ := He.ba b
  obtain ⟨b3, b4⟩ := He.ba b
  exact ⟨⟨He.eqO_ok a1, He.eqO_ok a2, of_decide_eq_true a3, a4, He.eqO_ok a5, He.eqO_ok a6, of_decide_eq_true a7, of_decide_eq_true a8⟩,
    fun y hy => ⟨_, hl y hy, of_decide_eq_true (List.all_eq_true.mp b1 y hy)⟩, ⟨_, h1, of_decide_eq_true b2⟩, of_decide_eq_true b3, of_decide_eq_true b4⟩
section
variable {Z : Env} {h : Heap} (X : Z.K.In h) (G : h.Ns mainGlobals Z.mg)
theorem errC_ok {x : Str} (g : Z.mg x = some (.ref (He.ga Z.K x))) (c : (He.Fa.exc x).ok Z.K = true) : ErrC Z x (He.ga Z.K x) := by
  obtain ⟨c1, c2, c3, c4⟩ := He.exc_ok c
  exact ⟨g, c2, c1, c3, c4⟩
theorem gvI {x : Str} {i : Int} (c : ∃ t, Z.mg x = some (.int i t)) : Gv Z x (.int i) := by
  obtain ⟨t, e⟩ := c
  exact ⟨_, e, t, rfl⟩
theorem gvS {x z : Str} (c : ∃ t, Z.mg x = some (.str z t)) : Gv Z x (.str z) := by
  obtain ⟨t, e⟩ := c
  exact ⟨_, e, t, rfl⟩
theorem gtup_ok {x : Str} {ds : List He.Dv} {vs : List V} (g : Z.mg x = some (.ref (He.ga Z.K x))) (c : He.tupB Z.K x ds = true) (e : ds.map (He.Dv.v Z.K) = vs) : GTup Z x vs :=
  ⟨He.ga Z.K x, ⟨_, g, rfl⟩, fun H => e ▸ He.tupB_ok c H⟩
theorem defAt_ok {x : Str} {st : Stmt} {dvs : List V} (g : Z.mg x = some (.ref (He.ga Z.K x))) (c : ∃ fd, FunD Z.K x x (defArgs st) (defBody st) (defScope st) dvs [] (He.ga Z.K x) fd) : DefAt Z x st dvs := by
  obtain ⟨fd, F⟩ := c
  exact ⟨_, fd, g, F⟩
end
end Q
namespace Q
open PySem PySem.Spec PyProof.Rows L2 TL
def top (i : Nat) : Stmt := PySem.Challenge.pw_onelineatatime_k01_names_and_letters.main.body.getD i (.Pass ⟨0, 0, 0, 0⟩)
local macro_rules | `(tactic| walk_at "len") => `(tactic| (apply sz; (try simp only [len_app]); (try simp only [show (Str.ofString ".").length = 1 from rfl]); omega))
local macro_rules | `(tactic| walk_at "mod") => `(tactic| first | assumption | exact Mod.refl _ | (refine Mod.trS ?_ (by assumption); walk_at "mod") | (refine Mod.tr0 ?_ (by assumption); walk_at "mod") | (refine Mod.trN ?_ (by assumption) (by walk_at "fre"); walk_at "mod") | exact Mod.lift (fun a ha => by rw [List.mem_singleton.mp ha]; first | assumption | exact Sto.inM (by assumption) | exact Own.2 (by assumption)))
local macro_rules | `(tactic| walk_at "fre") => `(tactic| first | assumption | (refine Mod.free ?_ (by assumption); walk_at "mod"))
local macro_rules | `(tactic| walk_at "ne") => `(tactic| first | (intro hh; cases hh; done) | (intro hh; exact absurd (List.mem_singleton.mp hh) (by assumption)) | (intro hh; exact absurd (List.mem_singleton.mp hh).symm (by assumption)))
local macro_rules | `(tactic| walk_at "own") => `(tactic| first | assumption | (refine Own.up ?_ (by assumption) (by walk_at "ne"); walk_at "own"))
local macro_rules | `(tactic| walk_at "sto") => `(tactic| first | assumption | (refine Sto.up ?_ (by assumption) (by walk_at "ne"); walk_at "sto"))
local macro_rules | `(tactic| walk_at "rp") => `(tactic| first | assumption | exact Rp.int | exact Rp.str | exact Rp.bl | exact Rp.non | (refine Rp.up (by assumption) ?_; walk_at "rp"))
local macro_rules | `(tactic| walk_at "rpl") => `(tactic| first | exact RpL.nil | (apply RpL.cons; (focus (walk_at "rp")); walk_at "rpl") | assumption | (refine RpL.up (by assumption) ?_; walk_at "rpl"))
local macro_rules | `(tactic| walk_at "sqt") => `(tactic| first | assumption | (refine Mod.seqT (by assumption) ?_; walk_at "sqt"))
local macro_rules | `(tactic| walk_at "side") => `(tactic| first | assumption | exact Or.inr (by constructor <;> decide) | exact Or.inl (by constructor <;> decide) | exact ⟨by decide, by decide⟩ | exact ⟨by decide, by decide, by decide⟩ | decide | omega)
local macro_rules | `(tactic| walk_at "nat") => `(tactic| first | exact sz (by decide) | exact szl (by decide) | (apply sz; simp; done) | (apply szl; simp; done))
local macro_rules | `(tactic| walk_at "str1") => `(tactic| first
  | with_reducible refine i_nil ?_
  | with_reducible refine i_cons ?_
  | with_reducible refine i_c ?_
  | with_reducible refine i_op ?_
  | with_reducible refine i_un ?_
  | with_reducible refine i_test ?_
  | with_reducible refine i_b ?_
  | with_reducible refine i_and ?_
  | with_reducible refine i_or ?_
  | with_reducible refine i_not ?_
  | with_reducible refine i_andV ?_
  | with_reducible refine i_orV ?_
  | with_reducible refine i_notV ?_
  | with_reducible refine i_if ?_
  | with_reducible refine i_seq ?_
  | with_reducible refine i_next ?_
  | with_reducible refine i_drop ?_
  | with_reducible refine i_ret ?_
  | with_reducible refine i_retN ?_
  | with_reducible refine i_ifS ?_
  | with_reducible refine i_asg ?_
  | with_reducible refine i_name ?_
  | with_reducible refine i_sub ?_
  | with_reducible refine i_cb ?_
  | with_reducible refine i_call ?_
  | with_reducible refine i_tup ?_
  | with_reducible refine i_lst ?_
  | with_reducible refine i_bm ?_
  | with_reducible refine i_bm0 ?_
  | with_reducible refine i_m1 ?_
  | with_reducible refine i_m0 ?_
  | with_reducible refine i_sl ?_
  | with_reducible refine i_fmt ?_
  | with_reducible refine i_js ?_
  | with_reducible refine i_js0 ?_
  | with_reducible refine i_callT ?_
  | with_reducible refine i_dnotin ?_
  | with_reducible refine i_din ?_
  | with_reducible refine i_dget ?_
  | with_reducible refine i_dput ?_
  | with_reducible refine i_noPart ?_
  | with_reducible refine i_part ?_
  | with_reducible refine i_chain ?_)
local macro_rules | `(tactic| walk_at "go1") => `(tactic| first
  | ((with_reducible refine g_var ?_); refine i_var (by exact rfl) ?_)
  | walk_at "str1"
  | with_reducible refine ex_bl ?_
  | with_reducible refine ex_bl2 ?_
  | with_reducible refine ex_int ?_
  | with_reducible refine ex_str ?_
  | with_reducible refine ex_ints ?_
  | with_reducible refine i_lc ?_
  | with_reducible refine i_for ?_
  | with_reducible refine i_yes ?_
  | with_reducible refine i_rng1 ?_
  | with_reducible refine i_rng2 ?_
  | with_reducible refine ex_str2 ?_
  | with_reducible refine ex_ref ?_
  | with_reducible refine i_lt ?_
  | with_reducible refine i_gt ?_
  | with_reducible refine i_le ?_
  | with_reducible refine i_ge ?_
  | with_reducible refine i_addI ?_
  | ((with_reducible refine i_addS ?_ ?_); (focus (walk_at "len")))
  | with_reducible refine i_I0 ?_
  | ((with_reducible refine g_I ?_); refine i_I (by walk_at "side") ?_)
  | with_reducible refine i_U ?_
  | ((with_reducible refine i_mulI ?_ ?_); (walk_at "side"))
  | with_reducible refine i_int ?_
  | with_reducible refine i_intB ?_
  | ((with_reducible refine g_isi ?_); first | refine isi_t (by walk_at "rp") (by decide) (by first | rfl | assumption) ?_ | refine isi_f (by walk_at "rp") (by decide) (by first | rfl | assumption) ?_ | refine isi_D (by walk_at "rp") (by decide) ?_)
  | with_reducible refine inSg1 ?_
  | with_reducible refine inSg0 ?_
  | with_reducible refine i_gnil ?_
  | with_reducible refine i_gcons ?_
  | ((with_reducible refine g_gtup ?_); refine i_gtup (by walk_at "sqt") (by exact rfl) ?_)
  | with_reducible refine i_isNI ?_
  | with_reducible refine i_notNI ?_
  | with_reducible refine i_isNS ?_
  | with_reducible refine i_notNS ?_
  | with_reducible refine i_isNB ?_
  | with_reducible refine i_notNB ?_
  | with_reducible refine i_isNR ?_
  | with_reducible refine i_notNR ?_
  | with_reducible refine i_isN0 ?_
  | with_reducible refine i_notN0 ?_
  | with_reducible refine i_isN ?_
  | with_reducible refine i_notN ?_
  | with_reducible refine eqI ?_
  | with_reducible refine eqS ?_
  | with_reducible refine neI ?_
  | with_reducible refine neS ?_
  | with_reducible refine eqB ?_
  | with_reducible refine neB ?_
  | with_reducible refine iteR ?_
  | with_reducible refine iteNR ?_
  | with_reducible refine iteT ?_
  | with_reducible refine iteF ?_
  | with_reducible refine iteNT ?_
  | with_reducible refine iteNF ?_
  | ((with_reducible refine g_ix ?_); first | refine ixO (by walk_at "own") (by exact rfl) ?_ | refine ixT (by walk_at "sqt") (by exact rfl) ?_)
  | ((with_reducible refine g_setL ?_); refine setO (by walk_at "own") (by exact rfl) ?_; intro WW mm oo; try simp only [Int.reduceToNat, List.set_cons_succ, List.set_cons_zero] at oo)
  | ((with_reducible refine g_len ?_); first | refine lenRL (by walk_at "rp") ?_ | refine lenRT (by walk_at "rp") ?_ | refine lenO (by walk_at "own") ?_))
local macro_rules | `(tactic| walk_at "go") => `(tactic| repeat walk_at "go1")
abbrev s_law_copy : Stmt := top 48
abbrev nn_law_copy : List Str := ["thing", "part", "copied", "key"]
theorem sc_law_copy : FnScope nn_law_copy ["thing"] (defScope s_law_copy) := ⟨rfl, rfl, rfl, by decide +kernel, rfl, by decide +kernel, by decide +kernel⟩
theorem can_law_copy {Z : Env} {n : Nat} (B : Std Z) (Df : DefAt Z "_law_copy" s_law_copy []) (c__law_copy : Can Z CX0 n "_law_copy" ["thing"] [] (spCopy Z.K n)) : Can Z CX0 (n + 1) "_law_copy" ["thing"] [] (spCopy Z.K (n + 1)) := by
  refine can_of Df sc_law_copy (fun vs H Q E h => ?_) (fun _ _ _ _ _ _ us hl => match us, hl with | [_], _ => rfl) (fun f cdv A outer s H vs Q E hr h => ⟨_, PSs.nox ((pss_cons (ps_if (pt_val (pe_callB (k_isi Z.K) (by rfl) B.isinstance (by decide +kernel) (pa_cons (pv 0) (pa_cons (pe_bltn (v := .ty "list") (by rfl) B.list (by decide +kernel) rfl) pa_nil)))) (pss_one (ps_ret (pe_lc (own := [("part", 1)]) (g := gName 1) (tt := tYes) (by rfl) sc_law_copy.nd (k_pi Z.K (pv 0)) (blkOk_by (own := [("part", 1)]) (N := nn_law_copy) (sc := defScope s_law_copy) (by decide +kernel)) (fun _ _ _ _ _ => (pg_name (i := 1) sc_law_copy.nd rfl (Or.inl rfl))) (fun _ _ _ _ _ => pts_nil) (fun _ _ _ _ _ => (pcall c__law_copy hr (pa_cons (pv 1) pa_nil) pass0))))) pss_nil) (pss_cons (ps_if (pt_val (pe_callB (k_isi Z.K) (by rfl) B.isinstance (by decide +kernel) (pa_cons (pv 0) (pa_cons (pe_bltn (v := .ty "tuple") (by rfl) B.tuple (by decide +kernel) rfl) pa_nil)))) (pss_one (ps_ret (pe_callTy (k_tupleOf Z.K) (by rfl) B.tuple (by decide +kernel) (pa_cons (pe_lc (own := [("part", 1)]) (g := gName 1) (tt := tYes) (by rfl) sc_law_copy.nd (k_pi Z.K (pv 0)) (blkOk_by (own := [("part", 1)]) (N := nn_law_copy) (sc := defScope s_law_copy) (by decide +kernel)) (fun _ _ _ _ _ => (pg_name (i := 1) sc_law_copy.nd rfl (Or.inl rfl))) (fun _ _ _ _ _ => pts_nil) (fun _ _ _ _ _ => (pcall c__law_copy hr (pa_cons (pv 1) pa_nil) pass0))) pa_nil)))) pss_nil) (pss_cons (ps_if (pt_val (pe_callB (k_isi Z.K) (by rfl) B.isinstance (by decide +kernel) (pa_cons (pv 0) (pa_cons (pe_bltn (v := .ty "dict") (by rfl) B.dict (by decide +kernel) rfl) pa_nil)))) (pss_cons (ps_set (i := 2) sc_law_copy.nd rfl (Or.inl rfl) pe_dnewK) (pss_cons (ps_lock2 (ps_for PassesOwn.never rfl (pi_keys (pv 0)) (pg_name (i := 3) sc_law_copy.nd rfl (Or.inl rfl)) (pss_one (ps_dput (h1 hr) (pv 2) (pv 3) (pcall c__law_copy hr (pa_cons (pe_dget (h1 hr) (pv 0) (pv 3) (fun _ _ => rfl)) pa_nil) pass0) rfl)))) (pss_one (ps_ret (pv 2))))) pss_nil) (pss_one (ps_ret (pv 0))))))), ?_⟩)
  · obtain ⟨W, v, d, rfl, rfl, _⟩ := h
    rfl
  · obtain ⟨W, v, d, rfl, rfl, hv, hd, k⟩ := h
    have k0 := k v W (Mod.refl W) hv
    cases hd with
    | non => cases hv; walk_at "go"; exact k0
    | bl => cases hv; walk_at "go"; exact k0
    | int => cases hv; walk_at "go"; exact k0
    | str => cases hv; walk_at "go"; exact k0
    | @lst _ ds hl ha =>
      obtain ⟨a, rfl⟩ : ∃ p, v = .ref p := by cases hv; exact ⟨_, rfl⟩
      have hv' := hv
      cases hv with
      | @lst _ zs _ e nM hr =>
        walk_at "go"
        refine any_l ?_
        walk_at "go"
        refine ⟨⟨_, .inl (.inl e)⟩, ?_⟩
        intro p hp
        refine lcL (X := []) hp (fun _ h => nomatch h) (fun i W1 xs => RpL Z.K W1 xs (ds.take i)) (fun _ => rfl) (fun W1 m1 => .inl (.inl (m1.keep _ _ (by simp) e))) (fun _ _ _ => .nil) ?_ ?_
        · rintro i z W1 xs ez m1 o1 hl1 r1
          obtain ⟨d, ed, hd⟩ := hr.get ez
          have hd := hd.up m1
          walk_at "go"
          refine use_copy hd (ha _ (List.mem_of_getElem? ed)) fun w W2 m2 hw => ?_
          refine lc_give hp (by have := (List.getElem?_eq_some_iff.mp ed).1; omega) (m1.tr0 m2) (o1.up m2 (by simp)) hl1 fun W4 m4 o4 => ?_
          rw [List.take_add_one, ed]
          exact ((r1.up m2).up m4).snoc (hw.up m4)
        · rintro W1 xs m1 o1 hl1 r1
          rw [hr.length, List.take_length] at r1
          exact drop_own m1 hp o1 r1 fun W2 m2 _ _ hq => k _ W2 m2 hq
    | @tup _ ds hl ha =>
      obtain ⟨a, rfl⟩ : ∃ p, v = .ref p := by cases hv; exact ⟨_, rfl⟩
      have hv' := hv
      cases hv with
      | @tup _ zs _ e hr =>
        walk_at "go"
        refine any_t ?_
        walk_at "go"
        refine ⟨⟨_, e⟩, ?_⟩
        intro p hp
        refine lcT (X := []) hp (fun _ h => nomatch h) (fun i W1 xs => RpL Z.K W1 xs (ds.take i)) (fun _ => rfl) (fun W1 m1 => m1.seqT e) (fun _ _ _ => .nil) ?_ ?_
        · rintro i z W1 xs ez m1 o1 hl1 r1
          obtain ⟨d, ed, hd⟩ := hr.get ez
          have hd := hd.up m1
          walk_at "go"
          refine use_copy hd (ha _ (List.mem_of_getElem? ed)) fun w W2 m2 hw => ?_
          refine lc_give hp (by have := (List.getElem?_eq_some_iff.mp ed).1; omega) (m1.tr0 m2) (o1.up m2 (by simp)) hl1 fun W4 m4 o4 => ?_
          rw [List.take_add_one, ed]
          exact ((r1.up m2).up m4).snoc (hw.up m4)
        · rintro W1 xs m1 o1 hl1 r1
          rw [hr.length, List.take_length] at r1
          walk_at "go"
          refine tup_of o1.sq r1 fun q W3 m3 n3 q3 => ?_
          exact k _ W3 (m1.tr0 m3) q3
    | @dct _ ds hl hz nd ha =>
      obtain ⟨a, rfl⟩ : ∃ p, v = .ref p := by cases hv; exact ⟨_, rfl⟩
      walk_at "go"
      refine mk_ownD fun r W1 m1 n1 o1 => ?_
      walk_at "go"
      obtain ⟨kvs1, r1, nM1, rk1⟩ := (hv.up m1).dK
      refine forK (X := [r]) (by exact rfl) r1 nM1 rk1 (fun i σ W2 => ∃ o kv, σ = [some (.ref a), none, some (.ref r), o] ∧ OwnD W2 r kv ∧ RpK Z.K W2 kv (ds.take i))
        (fun a ha => by rw [List.mem_singleton.mp ha]; exact o1.2) (fun W2 l => ⟨_, [], rfl, o1.lk l, .nil⟩) ?_ ?_
      · rintro i kk d _ W0 W2 rt bk ed l m2 ⟨o, kv, rfl, o2, rk2⟩
        have hi := (List.getElem?_eq_some_iff.mp ed).1
        obtain ⟨kp, rp, _, xp⟩ := ((Rp.lk l (hv.up m1)).up m2).dK
        obtain ⟨vp, ep, hvp⟩ := xp.val (valD_nodup nd ed)
        walk_at "go"
        refine getD rp ep ?_
        walk_at "go"
        refine use_copy hvp (ha _ (List.mem_of_getElem? ed)) fun w W3 m3 hw => ?_
        walk_at "go"
        have hl2 := rk2.length
        rw [List.length_take] at hl2
        refine putD (o2.up m3 (by simp)) (by omega) fun W4 m4 o4 => ?_
        refine ⟨W4, rfl, (m2.tr0 m3).trS m4, _, _, rfl, o4, ?_⟩
        rw [putK_new _ (rk2.none (nodup_take nd ed)), List.take_add_one, ed]
        exact ((rk2.up m3).up m4).snoc (hw.up m4)
      · rintro _ W2 W3 ⟨o, kv, rfl, o2, rk2⟩ l3 m3
        rw [List.take_length] at rk2
        walk_at "go"
        exact drop_ownD (m1.trN m3 n1) n1 (o2.lk l3) (rk2.lk l3) fun W4 m4 _ hq => k _ W4 m4 hq

abbrev s_law_same : Stmt := top 47
abbrev nn_law_same : List Str := ["due", "seen", "own", "key", "k"]
theorem sc_law_same : FnScope nn_law_same ["due", "seen"] (defScope s_law_same) := ⟨rfl, rfl, rfl, by decide +kernel, rfl, by decide +kernel, by decide +kernel⟩
theorem can_law_same {Z : Env} {n : Nat} (B : Std Z) (Df : DefAt Z "_law_same" s_law_same []) (c__law_same : Can Z CX0 n "_law_same" ["due", "seen"] [] (spSame Z.K n)) : Can Z CX0 (n + 1) "_law_same" ["due", "seen"] [] (spSame Z.K (n + 1)) := by
  refine can_of Df sc_law_same (fun vs H Q E h => ?_) (fun _ _ _ _ _ _ us hl => match us, hl with | [_, _], _ => rfl) (fun f cdv A outer s H vs Q E hr h => ⟨_, PSs.nox ((pss_cons (ps_if (PW.pt (pw_or (pt_cmpR o_isN (pv 0) pe_non (nomark _)) (pw_or1 (pt_val (pe_callB (k_isi Z.K) (by rfl) B.isinstance (by decide +kernel) (pa_cons (pv 0) (pa_cons (pe_bltn (v := .ty "bool") (by rfl) B.bool (by decide +kernel) rfl) pa_nil))))))) (pss_one (ps_ret (pe_or (pe_and (pe_cmpR o_isN (pv 0) pe_non (nomark _)) (pe_one (pe_cmpR o_isN (pv 1) pe_non (nomark _)))) (pe_one (pe_and (pe_callB (k_isi Z.K) (by rfl) B.isinstance (by decide +kernel) (pa_cons (pv 0) (pa_cons (pe_bltn (v := .ty "bool") (by rfl) B.bool (by decide +kernel) rfl) pa_nil))) (pe_and (pe_callB (k_isi Z.K) (by rfl) B.isinstance (by decide +kernel) (pa_cons (pv 1) (pa_cons (pe_bltn (v := .ty "bool") (by rfl) B.bool (by decide +kernel) rfl) pa_nil))) (pe_one (pe_cmpR (k_eq Z.K (h64 hr)) (pv 0) (pv 1) (nomark _))))))))) pss_nil) (pss_cons (ps_if (pt_val (pe_callB (k_isi Z.K) (by rfl) B.isinstance (by decide +kernel) (pa_cons (pv 0) (pa_cons (pe_bltn (v := .ty "int") (by rfl) B.int (by decide +kernel) rfl) pa_nil)))) (pss_one (ps_ret (pe_and (pe_callB (k_isi Z.K) (by rfl) B.isinstance (by decide +kernel) (pa_cons (pv 1) (pa_cons (pe_bltn (v := .ty "int") (by rfl) B.int (by decide +kernel) rfl) pa_nil))) (pe_and (pe_not (pe_callB (k_isi Z.K) (by rfl) B.isinstance (by decide +kernel) (pa_cons (pv 1) (pa_cons (pe_bltn (v := .ty "bool") (by rfl) B.bool (by decide +kernel) rfl) pa_nil)))) (pe_one (pe_cmpR (k_eq Z.K (h64 hr)) (pv 0) (pv 1) (nomark _))))))) pss_nil) (pss_cons (ps_if (pt_val (pe_callB (k_isi Z.K) (by rfl) B.isinstance (by decide +kernel) (pa_cons (pv 0) (pa_cons (pe_bltn (v := .ty "str") (by rfl) B.str (by decide +kernel) rfl) pa_nil)))) (pss_one (ps_ret (pe_and (pe_callB (k_isi Z.K) (by rfl) B.isinstance (by decide +kernel) (pa_cons (pv 1) (pa_cons (pe_bltn (v := .ty "str") (by rfl) B.str (by decide +kernel) rfl) pa_nil))) (pe_one (pe_cmpR (k_eq Z.K (h64 hr)) (pv 0) (pv 1) (nomark _)))))) pss_nil) (pss_cons (ps_if (pt_val (pe_callB (k_isi Z.K) (by rfl) B.isinstance (by decide +kernel) (pa_cons (pv 0) (pa_cons (pe_bltn (v := .ty "dict") (by rfl) B.dict (by decide +kernel) rfl) pa_nil)))) (pss_cons (ps_if (PW.pt (pw_or (pt_not (pt_val (pe_callB (k_isi Z.K) (by rfl) B.isinstance (by decide +kernel) (pa_cons (pv 1) (pa_cons (pe_bltn (v := .ty "dict") (by rfl) B.dict (by decide +kernel) rfl) pa_nil))))) (pw_or1 (pt_cmpR (k_ne Z.K (h64 hr)) (pe_callB (k_len Z.K) (by rfl) B.len (by decide +kernel) (pa_cons (pv 0) pa_nil)) (pe_callB (k_len Z.K) (by rfl) B.len (by decide +kernel) (pa_cons (pv 1) pa_nil)) (nomark _))))) (pss_one (ps_ret pe_bl)) pss_nil) (pss_cons (ps_set (i := 2) sc_law_same.nd rfl (Or.inl rfl) pe_dnewK) (pss_cons (ps_lock2 (ps_for PassesOwn.never rfl (pi_keys (pv 0)) (pg_name (i := 3) sc_law_same.nd rfl (Or.inl rfl)) (pss_one (ps_dput (h1 hr) (pv 2) (pv 3) (pv 3) rfl)))) (pss_cons (ps_lock2 (ps_for PassesOwn.never rfl (pi_keys (pv 1)) (pg_name (i := 3) sc_law_same.nd rfl (Or.inl rfl)) (pss_one (ps_if (PW.pt (pw_or (pt_cmp (pc_dnotin (h1 hr) (pv 3) (pv 2))) (pw_or (pt_not (pt_val (pcall c__law_same hr (pa_cons (pe_dget (h1 hr) (pv 2) (pv 3) (fun _ _ => rfl)) (pa_cons (pv 3) pa_nil)) pass0))) (pw_or1 (pt_not (pt_val (pcall c__law_same hr (pa_cons (pe_dget (h1 hr) (pv 0) (pv 3) (fun _ _ => rfl)) (pa_cons (pe_dget (h1 hr) (pv 1) (pv 3) (fun _ _ => rfl)) pa_nil)) pass0))))))) (pss_one (ps_ret pe_bl)) pss_nil)))) (pss_one (ps_ret pe_bl)))))) pss_nil) (pss_cons (ps_if (PW.pt (pw_and (pt_val (pe_callB (k_isi Z.K) (by rfl) B.isinstance (by decide +kernel) (pa_cons (pv 0) (pa_cons (pe_bltn (v := .ty "list") (by rfl) B.list (by decide +kernel) rfl) pa_nil)))) (pw_and1 (pt_not (pt_val (pe_callB (k_isi Z.K) (by rfl) B.isinstance (by decide +kernel) (pa_cons (pv 1) (pa_cons (pe_bltn (v := .ty "list") (by rfl) B.list (by decide +kernel) rfl) pa_nil)))))))) (pss_one (ps_ret pe_bl)) pss_nil) (pss_cons (ps_if (PW.pt (pw_and (pt_val (pe_callB (k_isi Z.K) (by rfl) B.isinstance (by decide +kernel) (pa_cons (pv 0) (pa_cons (pe_bltn (v := .ty "tuple") (by rfl) B.tuple (by decide +kernel) rfl) pa_nil)))) (pw_and1 (pt_not (pt_val (pe_callB (k_isi Z.K) (by rfl) B.isinstance (by decide +kernel) (pa_cons (pv 1) (pa_cons (pe_bltn (v := .ty "tuple") (by rfl) B.tuple (by decide +kernel) rfl) pa_nil)))))))) (pss_one (ps_ret pe_bl)) pss_nil) (pss_cons (ps_if (pt_cmpR (k_ne Z.K (h64 hr)) (pe_callB (k_len Z.K) (by rfl) B.len (by decide +kernel) (pa_cons (pv 0) pa_nil)) (pe_callB (k_len Z.K) (by rfl) B.len (by decide +kernel) (pa_cons (pv 1) pa_nil)) (nomark _)) (pss_one (ps_ret pe_bl)) pss_nil) (pss_cons (ps_for PassesOwn.never rfl (pi_range1 (by rfl) B.range (pa_cons (pe_callB (k_len Z.K) (by rfl) B.len (by decide +kernel) (pa_cons (pv 0) pa_nil)) pa_nil)) (pg_name (i := 4) sc_law_same.nd rfl (Or.inl rfl)) (pss_one (ps_if (pt_not (pt_val (pcall c__law_same hr (pa_cons (pe_ix (k_ix Z.K) (pv 0) (pv 4) (fun _ _ => rfl)) (pa_cons (pe_ix (k_ix Z.K) (pv 1) (pv 4) (fun _ _ => rfl)) pa_nil)) pass0))) (pss_one (ps_ret pe_bl)) pss_nil))) (pss_one (ps_ret pe_bl))))))))))), ?_⟩)
  · obtain ⟨W, v, u, d, rfl, rfl, _⟩ := h
    rfl
  · obtain ⟨W, v, u, d, rfl, rfl, hv, hu, hd, k⟩ := h
    have k0 := k W (Mod.refl W)
    have refl1 : ∀ {α : Type} [DecidableEq α] (a : α), decide (a = a) = true := fun a => decide_eq_true rfl
    cases hd with
    | non =>
      cases hv; cases hu
      walk_at "go"
      exact k0
    | bl =>
      cases hv; cases hu
      walk_at "go"
      rw [refl1]
      exact k0
    | int =>
      cases hv; cases hu
      walk_at "go"
      rw [refl1]
      exact k0
    | str =>
      cases hv; cases hu
      walk_at "go"
      rw [refl1]
      exact k0
    | @lst _ ds hl ha =>
      obtain ⟨p, rfl⟩ : ∃ p, v = .ref p := by cases hv; exact ⟨_, rfl⟩
      obtain ⟨q, rfl⟩ : ∃ p, u = .ref p := by cases hu; exact ⟨_, rfl⟩
      walk_at "go"
      refine ⟨by omega, by omega, ?_⟩
      refine forR (fun i σ W1 => ∃ o, σ = [some (.ref p), some (.ref q), none, none, o] ∧ Mod [] W W1) ⟨_, rfl, Mod.refl W⟩ ?_ ?_
      · rintro i _ W1 hi ⟨o, rfl, m1⟩
        have hi : i < ds.length := by omega
        walk_at "go"
        have ed := List.getElem?_eq_getElem hi
        refine ixRL (i := 0 + (i : Int)) (by walk_at "rp") (by omega) (by rw [Int.zero_add]; exact ed) fun v1 hv1 => ?_
        walk_at "go"
        refine ixRL (i := 0 + (i : Int)) (by walk_at "rp") (by omega) (by rw [Int.zero_add]; exact ed) fun v2 hv2 => ?_
        walk_at "go"
        refine use_same hv1 hv2 (ha _ (List.getElem_mem hi)) fun W2 m2 => ?_
        walk_at "go"
        exact ⟨W2, rfl, _, rfl, m1.tr0 m2⟩
      · rintro _ W1 ⟨o, rfl, m1⟩
        walk_at "go"
        exact k W1 m1
    | @tup _ ds hl ha =>
      obtain ⟨p, rfl⟩ : ∃ p, v = .ref p := by cases hv; exact ⟨_, rfl⟩
      obtain ⟨q, rfl⟩ : ∃ p, u = .ref p := by cases hu; exact ⟨_, rfl⟩
      walk_at "go"
      refine ⟨by omega, by omega, ?_⟩
      refine forR (fun i σ W1 => ∃ o, σ = [some (.ref p), some (.ref q), none, none, o] ∧ Mod [] W W1) ⟨_, rfl, Mod.refl W⟩ ?_ ?_
      · rintro i _ W1 hi ⟨o, rfl, m1⟩
        have hi : i < ds.length := by omega
        walk_at "go"
        have ed := List.getElem?_eq_getElem hi
        refine ixRT (i := 0 + (i : Int)) (by walk_at "rp") (by omega) (by rw [Int.zero_add]; exact ed) fun v1 hv1 => ?_
        walk_at "go"
        refine ixRT (i := 0 + (i : Int)) (by walk_at "rp") (by omega) (by rw [Int.zero_add]; exact ed) fun v2 hv2 => ?_
        walk_at "go"
        refine use_same hv1 hv2 (ha _ (List.getElem_mem hi)) fun W2 m2 => ?_
        walk_at "go"
        exact ⟨W2, rfl, _, rfl, m1.tr0 m2⟩
      · rintro _ W1 ⟨o, rfl, m1⟩
        walk_at "go"
        exact k W1 m1
    | @dct _ ds hl hz nd ha =>
      obtain ⟨p, rfl⟩ : ∃ p, v = .ref p := by cases hv; exact ⟨_, rfl⟩
      obtain ⟨q, rfl⟩ : ∃ p, u = .ref p := by cases hu; exact ⟨_, rfl⟩
      walk_at "go"
      refine lenRD hv ?_
      walk_at "go"
      refine lenRD hu ?_
      walk_at "go"
      refine mk_ownD fun r W1 m1 n1 o1 => ?_
      walk_at "go"
      obtain ⟨kvs1, r1, nM1, rk1⟩ := (hv.up m1).dK
      refine forK (X := [r]) (by exact rfl) r1 nM1 rk1 (fun i σ W2 => ∃ o kv, σ = [some (.ref p), some (.ref q), some (.ref r), o, none] ∧ OwnD W2 r kv ∧ kv.length ≤ i ∧ ∀ j k d, j < i → ds[j]? = some (k, d) → valV kv k = some (kV k))
        (fun a ha => by rw [List.mem_singleton.mp ha]; exact o1.2) (fun W2 l => ⟨_, [], rfl, o1.lk l, Nat.le_refl _, fun j k d hj => absurd hj (Nat.not_lt_zero _)⟩) ?_ ?_
      · rintro i k d _ W0 W2 rt bk ed l m2 ⟨o, kv, rfl, o2, hl2, hk2⟩
        have hi := (List.getElem?_eq_some_iff.mp ed).1
        walk_at "go"
        refine putD o2 (by omega) fun W3 m3 o3 => ?_
        refine ⟨W3, rfl, m2.trS m3, _, _, rfl, o3, Nat.le_trans (length_putK _ _ _) (by omega), fun j k' d' hj ed' => ?_⟩
        rw [valV_put]
        by_cases e : k' = k
        · rw [if_pos e, e]
        · rw [if_neg e]
          refine hk2 j k' d' ?_ ed'
          rcases Nat.lt_succ_iff_lt_or_eq.mp hj with hj | rfl
          · exact hj
          · rw [ed'] at ed
            exact absurd (congrArg Prod.fst (Option.some.inj ed)) e
      rintro _ W2 W3 ⟨o, kv, rfl, o2, hl2, hk2⟩ l3 m3
      have o3 := o2.lk l3
      have m03 : Mod [] W W3 := m1.trN m3 n1
      obtain ⟨kvs2, r2, nM2, rk2⟩ := (hu.up m03).dK
      walk_at "go"
      refine forK (X := []) (by exact rfl) r2 nM2 rk2 (fun i σ W2 => ∃ o, σ = [some (.ref p), some (.ref q), some (.ref r), o, none]) (fun _ h => nomatch h) (fun W2 l => ⟨_, rfl⟩) ?_ ?_
      · rintro i k d _ W0 W4 rt bk ed l m4 ⟨o', rfl⟩
        have o4 := (o3.lk l).up m4 (by simp)
        have hp4 := (Rp.lk l (hv.up m03)).up m4
        have hq4 := (Rp.lk l (hu.up m03)).up m4
        have ek := hk2 i k d (List.getElem?_eq_some_iff.mp ed).1 ed
        obtain ⟨d', ed', md'⟩ := valD_mem ed
        walk_at "go"
        refine dhas (.inl o4.1) ?_
        rw [ek, Option.isSome_some]
        walk_at "go"
        refine getD (.inl o4.1) ek ?_
        walk_at "go"
        refine use_same kD_rp kD_rp (Dep.key hz k) fun W5 m5 => ?_
        walk_at "go"
        have o5 := o4.up m5 (by simp)
        obtain ⟨kp, rp, _, xp⟩ := (hp4.up m5).dK
        obtain ⟨kq, rq, _, xq⟩ := (hq4.up m5).dK
        obtain ⟨vp, ep, hvp⟩ := xp.val ed'
        obtain ⟨vq, eq, hvq⟩ := xq.val ed'
        refine getD rp ep ?_
        walk_at "go"
        refine getD rq eq ?_
        walk_at "go"
        refine use_same hvp hvq (ha _ md') fun W6 m6 => ?_
        walk_at "go"
        exact ⟨W6, rfl, (m4.tr0 m5).tr0 m6, _, rfl⟩
      · rintro _ W4 W5 ⟨o', rfl⟩ l5 m5
        walk_at "go"
        exact k W5 (m03.tr0 m5)

abbrev s_law_integer : Stmt := top 46
abbrev nn_law_integer : List Str := ["thing"]
theorem sc_law_integer : FnScope nn_law_integer ["thing"] (defScope s_law_integer) := ⟨rfl, rfl, rfl, by decide +kernel, rfl, by decide +kernel, by decide +kernel⟩
theorem can_law_integer {Z : Env} (B : Std Z) (Df : DefAt Z "_law_integer" s_law_integer []) : Can Z CX0 (1) "_law_integer" ["thing"] [] (spB1 Z.K isWh (fun _ => True)) := by
  refine can_of Df sc_law_integer (fun vs H Q E h => ?_) (fun _ _ _ _ _ _ us hl => match us, hl with | [_], _ => rfl) (fun f cdv A outer s H vs Q E hr h => ⟨_, PSs.nox ((pss_one (ps_ret (pe_and (pe_callB (k_isi Z.K) (by rfl) B.isinstance (by decide +kernel) (pa_cons (pv 0) (pa_cons (pe_bltn (v := .ty "int") (by rfl) B.int (by decide +kernel) rfl) pa_nil))) (pe_one (pe_not (pe_callB (k_isi Z.K) (by rfl) B.isinstance (by decide +kernel) (pa_cons (pv 0) (pa_cons (pe_bltn (v := .ty "bool") (by rfl) B.bool (by decide +kernel) rfl) pa_nil))))))))), ?_⟩)
  · obtain ⟨W, v, d, rfl, rfl, _⟩ := h
    rfl
  · obtain ⟨W, v, d, rfl, rfl, hv, _, k⟩ := h
    have k := k W (Mod.refl W)
    cases hv with
    | lst h1 h2 h3 => have hv := Rp.lst (K := Z.K) h1 h2 h3; walk_at "go"; exact k
    | tup h1 h2 => have hv := Rp.tup (K := Z.K) h1 h2; walk_at "go"; exact k
    | dct h1 h2 h3 => have hv := Rp.dct (K := Z.K) h1 h2 h3; walk_at "go"; exact k
    | _ => walk_at "go"; exact k

abbrev s_law_is_name : Stmt := top 43
abbrev nn_law_is_name : List Str := ["text", "sign"]
theorem sc_law_is_name : FnScope nn_law_is_name ["text"] (defScope s_law_is_name) := ⟨rfl, rfl, rfl, by decide +kernel, rfl, by decide +kernel, by decide +kernel⟩
theorem can_law_is_name {Z : Env} (B : Std Z) (Df : DefAt Z "_law_is_name" s_law_is_name []) : Can Z CX0 (1) "_law_is_name" ["text"] [] (spB1 Z.K isNm Sz) := by
  refine can_of Df sc_law_is_name (fun vs H Q E h => ?_) (fun _ _ _ _ _ _ us hl => match us, hl with | [_], _ => rfl) (fun f cdv A outer s H vs Q E hr h => ⟨_, PSs.nox ((pss_cons (ps_if (PW.pt (pw_or (pt_not (pt_val (pe_callB (k_isi Z.K) (by rfl) B.isinstance (by decide +kernel) (pa_cons (pv 0) (pa_cons (pe_bltn (v := .ty "str") (by rfl) B.str (by decide +kernel) rfl) pa_nil))))) (pw_or (pt_cmpR o_lt (pe_callB (k_len Z.K) (by rfl) B.len (by decide +kernel) (pa_cons (pv 0) pa_nil)) pe_int (nomark _)) (pw_or1 (pt_cmpR o_gt (pe_callB (k_len Z.K) (by rfl) B.len (by decide +kernel) (pa_cons (pv 0) pa_nil)) pe_int (nomark _)))))) (pss_one (ps_ret pe_bl)) pss_nil) (pss_one (ps_ret (pe_cmpR (k_eq Z.K (h64 hr)) (pe_callB (k_len Z.K) (by rfl) B.len (by decide +kernel) (pa_cons (pe_lc (own := [("sign", 1)]) (g := gName 1) (by rfl) sc_law_is_name.nd (k_pi Z.K (pv 0)) (blkOk_by (own := [("sign", 1)]) (N := nn_law_is_name) (sc := defScope s_law_is_name) (by decide +kernel)) (fun _ _ _ _ _ => (pg_name (i := 1) sc_law_is_name.nd rfl (Or.inl rfl))) (fun _ _ _ _ _ => (pts_one (pt_cmpR (k_notIn Z.K) (pv 1) pe_str (by rfl)))) (fun _ _ _ _ _ => (pv 1))) pa_nil)) pe_int (nomark _)))))), ?_⟩)
  · obtain ⟨W, v, d, rfl, rfl, _⟩ := h
    rfl
  · obtain ⟨W, v, d, rfl, rfl, hv, hz, k⟩ := h
    cases hb : isT "str" d with
    | false =>
      walk_at "go"
      have e := isT_str_f hb
      first | rw [e.1] at k | rw [e.2] at k
      exact k W (Mod.refl W)
    | true =>
      obtain ⟨z, rfl⟩ := isT_str hb
      have hz := hz z rfl
      cases hv
      rw [isNm_eq] at k
      walk_at "go"
      refine lenS (sz hz) ?_
      walk_at "go"
      refine iteD (fun h1 => ?_) (fun h1 => ?_)
      · walk_at "go"
        rw [decide_eq_false (by omega : ¬ 1 ≤ z.length), Bool.false_and, Bool.false_and] at k
        exact k W (Mod.refl W)
      walk_at "go"
      refine lenS (sz hz) ?_
      walk_at "go"
      refine iteD (fun h2 => ?_) (fun h2 => ?_)
      · walk_at "go"
        rw [decide_eq_false (by omega : ¬ z.length ≤ 8), Bool.and_false, Bool.false_and] at k
        exact k W (Mod.refl W)
      rw [decide_eq_true (by omega : 1 ≤ z.length), decide_eq_true (by omega : z.length ≤ 8), Bool.true_and, Bool.true_and] at k
      walk_at "go"
      refine any_s ?_
      walk_at "go"
      intro p hp
      have ez := len_tl z
      refine lcS (X := []) hp (fun _ h => nomatch h) (fun i W1 xs => xs = (((tl z).take i).filter fun c => !(decide (97 ≤ c) && decide (c ≤ 122))).map fun c => V.str (sg c)) (fun _ => rfl) (fun _ _ _ => rfl) ?_ ?_
      · rintro i c W1 xs hc m1 o1 hl rfl
        have hc2 : (tl z)[i]? = some c := by simpa using hc
        have hi := (List.getElem?_eq_some_iff.mp hc2).1
        walk_at "go"
        rw [dec_abc]
        refine iteNB (fun hb => ?_) (fun hb => ?_)
        · walk_at "go"
          refine lc_give hp (by omega) m1 o1 hl fun W4 m4 o4 => ?_
          rw [List.take_add_one, hc2, List.filter_append, filter_one_t (by rw [hb]; rfl), List.map_append]
          rfl
        · refine lc_skip m1 o1 hl ?_
          rw [List.take_add_one, hc2, List.filter_append, filter_one_f (by rw [hb]; rfl), List.append_nil]
      · rintro W1 xs m1 o1 hl rfl
        rw [ez, List.take_length] at o1
        walk_at "go"
        rw [List.length_map]
        have e : ((tl z).filter fun c => !(decide (97 ≤ c) && decide (c ≤ 122))).isEmpty = decide ((((tl z).filter fun c => !(decide (97 ≤ c) && decide (c ≤ 122))).length : Int) = 0) := by
          cases ((tl z).filter fun c => !(decide (97 ≤ c) && decide (c ≤ 122))) with
          | nil => rfl
          | cons a r =>
            rw [decide_eq_false (by simp; omega)]
            rfl
        rw [e] at k
        exact k W1 m1

abbrev s_law_load : Stmt := top 32
abbrev nn_law_load : List Str := ["store", "cell"]
theorem sc_law_load : FnScope nn_law_load ["store"] (defScope s_law_load) := ⟨rfl, rfl, rfl, by decide +kernel, rfl, by decide +kernel, by decide +kernel⟩
theorem can_law_load {Z : Env} (B : Std Z) (Df : DefAt Z "_law_load" s_law_load []) : Can Z CX0 (1) "_law_load" ["store"] [] (spLoad Z.K) := by
  refine can_of Df sc_law_load (fun vs H Q E h => ?_) (fun _ _ _ _ _ _ us hl => match us, hl with | [_], _ => rfl) (fun f cdv A outer s H vs Q E hr h => ⟨_, PSs.nox ((pss_cons (ps_asg pe_int (pg_sub (pv 0) pe_int set_list)) (pss_one (ps_if (pt_cmpR o_lt (pe_ix (k_ix Z.K) (pv 0) pe_int (fun _ _ => rfl)) (pe_callB (k_len Z.K) (by rfl) B.len (by decide +kernel) (pa_cons (pe_ix (k_ix Z.K) (pv 0) pe_int (fun _ _ => rfl)) pa_nil)) (nomark _)) (pss_cons (ps_set (i := 1) sc_law_load.nd rfl (Or.inl rfl) (pe_ix (k_ix Z.K) (pe_ix (k_ix Z.K) (pv 0) pe_int (fun _ _ => rfl)) (pe_ix (k_ix Z.K) (pv 0) pe_int (fun _ _ => rfl)) (fun _ _ => rfl))) (pss_cons (ps_asg (pe_op o_add (pe_ix (k_ix Z.K) (pv 0) pe_int (fun _ _ => rfl)) pe_int) (pg_sub (pv 0) pe_int set_list)) (pss_cons (ps_asg (pe_op o_mod (pe_callTy c_int (by rfl) B.int (by decide +kernel) (pa_cons (pe_op o_add (pe_op o_add (pe_op o_mulU (pe_ix (k_ix Z.K) (pv 0) pe_int (fun _ _ => rfl)) pe_int) (pe_op o_mulU (pv 1) pe_int)) pe_int) pa_nil)) pe_int) (pg_sub (pv 0) pe_int set_list)) (pss_cons (ps_asg pe_int (pg_sub (pv 0) pe_int set_list)) (pss_one (ps_if (PW.pt (pw_or (pt_cmpR o_ge (pv 1) (pe_op o_pow pe_int pe_int) (nomark _)) (pw_or1 (pt_cmpR o_le (pv 1) (pe_op o_sub pe_int (pe_op o_pow pe_int pe_int)) (nomark _))))) (pss_cons (ps_asg (pe_callB call_abs (by rfl) B.abs (by decide +kernel) (pa_cons (pv 1) pa_nil)) (pg_sub (pv 0) pe_int set_list)) (pss_one (ps_asg pe_int (pg_sub (pv 0) pe_int set_list)))) pss_nil)))))) pss_nil)))), ?_⟩)
  · obtain ⟨W, st, rfl, rfl, _⟩ := h
    rfl
  · obtain ⟨W, st, rfl, rfl, ⟨c, ns, i, b, sd, fu, n, o, hi, hc⟩, k⟩ := h
    walk_at "go"
    refine iteD (fun hlt => ?_) (fun _ => ?_)
    · walk_at "go"
      obtain ⟨z, hz⟩ : ∃ z, ns[i.toNat]? = some z := ⟨_, List.getElem?_eq_getElem (by rw [List.length_map] at hlt; omega)⟩
      refine ixRL (by walk_at "rp") hi (d := .int z) (by rw [List.getElem?_map, hz]; rfl) fun v hv => ?_
      cases hv
      walk_at "go"
      refine iteD (fun _ => ?_) (fun _ => ?_)
      · walk_at "go"
        exact k _ (by walk_at "mod") ⟨_, _, _, _, _, _, _, by assumption, by omega, by walk_at "rp"⟩
      · walk_at "go"
        refine iteD (fun _ => ?_) (fun _ => ?_)
        · walk_at "go"
          exact k _ (by walk_at "mod") ⟨_, _, _, _, _, _, _, by assumption, by omega, by walk_at "rp"⟩
        · walk_at "go"
          exact k _ (by walk_at "mod") ⟨_, _, _, _, _, _, _, by assumption, by omega, by walk_at "rp"⟩
    · walk_at "go"
      exact k _ (by walk_at "mod") ⟨_, _, _, _, _, _, _, by assumption, hi, by walk_at "rp"⟩

abbrev s_law_reserved : Stmt := top 39
abbrev nn_law_reserved : List Str := []
theorem sc_law_reserved : FnScope nn_law_reserved [] (defScope s_law_reserved) := ⟨rfl, rfl, rfl, by decide +kernel, rfl, by decide +kernel, by decide +kernel⟩
theorem can_law_reserved {Z : Env} (B : Std Z) (Df : DefAt Z "_law_reserved" s_law_reserved []) : Can Z CX0 (1) "_law_reserved" [] [] (spNew Z.K resDs) := by
  refine can_of Df sc_law_reserved (fun vs H Q E h => ?_) (fun _ _ _ _ _ _ us hl => match us, hl with | [], _ => rfl) (fun f cdv A outer s H vs Q E hr h => ⟨_, PSs.nox ((pss_one (ps_ret (pe_lst (pa_cons pe_str (pa_cons pe_str (pa_cons pe_str (pa_cons pe_str (pa_cons pe_str (pa_cons pe_str (pa_cons pe_str (pa_cons pe_str (pa_cons pe_str pa_nil))))))))))))), ?_⟩)
  · obtain ⟨W, rfl, rfl, _⟩ := h
    rfl
  · obtain ⟨W, rfl, rfl, k⟩ := h
    walk_at "go"
    refine ⟨by walk_at "nat", mk_lst (K := Z.K) (by walk_at "rpl") fun p W1 m1 n1 r1 => ?_⟩
    exact k p W1 m1 n1 r1

abbrev s_law_store : Stmt := top 31
abbrev nn_law_store : List Str := ["script", "cell"]
theorem sc_law_store : FnScope nn_law_store ["script"] (defScope s_law_store) := ⟨rfl, rfl, rfl, by decide +kernel, rfl, by decide +kernel, by decide +kernel⟩
theorem can_law_store {Z : Env} (B : Std Z) (Df : DefAt Z "_law_store" s_law_store []) : Can Z CX0 (1) "_law_store" ["script"] [] (spStore Z.K) := by
  refine can_of Df sc_law_store (fun vs H Q E h => ?_) (fun _ _ _ _ _ _ us hl => match us, hl with | [_], _ => rfl) (fun f cdv A outer s H vs Q E hr h => ⟨_, PSs.nox ((pss_one (ps_ret (pe_lst (pa_cons (pe_lc (own := [("cell", 1)]) (g := gName 1) (tt := tYes) (by rfl) sc_law_store.nd (k_pi Z.K (pe_slice (k_sl Z.K) (pv 0) po_none (po_some pe_int))) (blkOk_by (own := [("cell", 1)]) (N := nn_law_store) (sc := defScope s_law_store) (by decide +kernel)) (fun _ _ _ _ _ => (pg_name (i := 1) sc_law_store.nd rfl (Or.inl rfl))) (fun _ _ _ _ _ => pts_nil) (fun _ _ _ _ _ => (pe_callTy c_int (by rfl) B.int (by decide +kernel) (pa_cons (pv 1) pa_nil)))) (pa_cons pe_int (pa_cons pe_int (pa_cons pe_int (pa_cons pe_int (pa_cons pe_int pa_nil)))))))))), ?_⟩)
  · obtain ⟨W, a, ns, rfl, rfl, _⟩ := h
    rfl
  · obtain ⟨W, a, ns, rfl, rfl, hs, hl, k⟩ := h
    walk_at "go"
    refine any_l ?_
    walk_at "go"
    refine slL hs (fun b W1 m1 n1 ⟨ms, q1, l1⟩ => ?_)
    walk_at "go"
    refine ⟨⟨_, .inl (.inl q1)⟩, ?_⟩
    intro p hp
    refine lcL (X := []) hp (fun _ h => nomatch h) (fun i W2 xs => xs = (ms.take i).map V.int) (fun _ => rfl) (fun W2 m2 => .inl (.inl (m2.keep _ _ (by simp) q1))) (fun _ _ _ => rfl) ?_ ?_
    · rintro i z W2 xs ez m2 o2 hl2 rfl
      rw [List.getElem?_map] at ez
      obtain ⟨y, ey, rfl⟩ := Option.map_eq_some_iff.mp ez
      walk_at "go"
      refine lc_give hp (by have := (List.getElem?_eq_some_iff.mp ey).1; omega) m2 o2 hl2 fun W4 m4 o4 => ?_
      rw [List.take_add_one, ey, List.map_append]
      rfl
    · rintro W2 xs m2 o2 hl2 rfl
      rw [List.length_map, List.take_length] at o2
      refine drop_own (K := Z.K) (ds := ms.map D.int) (m1.tr0 m2) (m1.free hp) o2 (RpL.map (fun _ => .int) ms) fun W3 m3 _ _ q3 => ?_
      walk_at "go"
      refine ⟨by walk_at "nat", mk_own fun st W4 m4 n4 o4 => ?_⟩
      exact k st W4 (m3.tr0 m4) (m3.free n4) ⟨_, _, _, _, _, _, _, o4, by decide, q3.up m4⟩

abbrev s_good_name : Stmt := top 24
abbrev nn_good_name : List Str := ["text", "sign"]
theorem sc_good_name : FnScope nn_good_name ["text"] (defScope s_good_name) := ⟨rfl, rfl, rfl, by decide +kernel, rfl, by decide +kernel, by decide +kernel⟩
theorem can_good_name {Z : Env} (B : Std Z) (Df : DefAt Z "good_name" s_good_name []) (g_LONGEST_NAME : Gv Z "LONGEST_NAME" (.int 8)) (g_SMALL_LETTERS : Gv Z "SMALL_LETTERS" (.str (Str.ofString "abcdefghijklmnopqrstuvwxyz"))) : Can Z CX0 (1) "good_name" ["text"] [] (spB1 Z.K isNm Sz) := by
  refine can_of Df sc_good_name (fun vs H Q E h => ?_) (fun _ _ _ _ _ _ us hl => match us, hl with | [_], _ => rfl) (fun f cdv A outer s H vs Q E hr h => ⟨_, PSs.nox ((pss_cons (ps_if (pt_not (pt_val (pe_callB (k_isi Z.K) (by rfl) B.isinstance (by decide +kernel) (pa_cons (pv 0) (pa_cons (pe_bltn (v := .ty "str") (by rfl) B.str (by decide +kernel) rfl) pa_nil))))) (pss_one (ps_ret pe_bl)) pss_nil) (pss_cons (ps_if (PW.pt (pw_or (pt_cmpR o_lt (pe_callB (k_len Z.K) (by rfl) B.len (by decide +kernel) (pa_cons (pv 0) pa_nil)) pe_int (nomark _)) (pw_or1 (pt_cmpR o_gt (pe_callB (k_len Z.K) (by rfl) B.len (by decide +kernel) (pa_cons (pv 0) pa_nil)) (pglob g_LONGEST_NAME) (nomark _))))) (pss_one (ps_ret pe_bl)) pss_nil) (pss_one (ps_ret (pe_callB (k_all Z.K) (by rfl) B.all (by decide +kernel) (pa_cons (pe_lc (own := [("sign", 1)]) (g := gName 1) (tt := tYes) (by rfl) sc_good_name.nd (k_pi Z.K (pv 0)) (blkOk_by (own := [("sign", 1)]) (N := nn_good_name) (sc := defScope s_good_name) (by decide +kernel)) (fun _ _ _ _ _ => (pg_name (i := 1) sc_good_name.nd rfl (Or.inl rfl))) (fun _ _ _ _ _ => pts_nil) (fun _ _ _ _ _ => (pe_cmpR (k_in Z.K) (pv 1) (pglob g_SMALL_LETTERS) (by rfl)))) pa_nil))))))), ?_⟩)
  · obtain ⟨W, v, d, rfl, rfl, _⟩ := h
    rfl
  · obtain ⟨W, v, d, rfl, rfl, hv, hz, k⟩ := h
    cases hb : isT "str" d with
    | false =>
      walk_at "go"
      have e := isT_str_f hb
      first | rw [e.1] at k | rw [e.2] at k
      exact k W (Mod.refl W)
    | true =>
      obtain ⟨z, rfl⟩ := isT_str hb
      have hz := hz z rfl
      cases hv
      walk_at "go"
      refine lenS (sz hz) ?_
      walk_at "go"
      refine iteD (fun h1 => ?_) (fun h1 => ?_)
      · walk_at "go"
        have e : isNm (.str z) = false := by
          show (lowB z && (decide (1 ≤ z.length) && decide (z.length ≤ 8))) = false
          rw [decide_eq_false (by omega : ¬ 1 ≤ z.length), Bool.false_and, Bool.and_false]
        rw [e] at k
        exact k W (Mod.refl W)
      walk_at "go"
      refine lenS (sz hz) ?_
      walk_at "go"
      refine iteD (fun h2 => ?_) (fun h2 => ?_)
      · walk_at "go"
        have e : isNm (.str z) = false := by
          show (lowB z && (decide (1 ≤ z.length) && decide (z.length ≤ 8))) = false
          rw [decide_eq_false (by omega : ¬ z.length ≤ 8), Bool.and_false, Bool.and_false]
        rw [e] at k
        exact k W (Mod.refl W)
      have e : isNm (.str z) = (tl z).all fun c => decide (97 ≤ c) && decide (c ≤ 122) := by
        show (lowB z && (decide (1 ≤ z.length) && decide (z.length ≤ 8))) = _
        rw [decide_eq_true (by omega : 1 ≤ z.length), decide_eq_true (by omega : z.length ≤ 8), Bool.true_and, Bool.and_true]
        rfl
      rw [e] at k
      walk_at "go"
      refine any_s ?_
      walk_at "go"
      intro p hp
      refine lcS (X := []) hp (fun _ h => nomatch h) (fun i W1 xs => xs = ((tl z).take i).map fun c => V.bl (decide (97 ≤ c) && decide (c ≤ 122))) (fun _ => rfl) (fun _ _ _ => rfl) ?_ ?_
      · rintro i c W1 xs hc m1 o1 hl rfl
        have hc2 : (tl z)[i]? = some c := by simpa using hc
        walk_at "go"
        rw [dec_abc]
        refine lc_give hp (by have := (List.getElem?_eq_some_iff.mp hc2).1; rw [← len_tl] at this; omega) m1 o1 hl fun W4 m4 o4 => ?_
        rw [List.take_add_one, hc2]
        simp
      · rintro W1 xs m1 o1 hl rfl
        rw [len_tl, List.take_length] at o1
        refine allL (bs := (tl z).map fun c => decide (97 ≤ c) && decide (c ≤ 122)) (by rw [List.map_map]; exact o1.sq) ?_
        rw [List.all_map]
        exact k W1 m1

abbrev s_is_whole : Stmt := top 23
abbrev nn_is_whole : List Str := ["value", "low", "high"]
theorem sc_is_whole : FnScope nn_is_whole ["value", "low", "high"] (defScope s_is_whole) := ⟨rfl, rfl, rfl, by decide +kernel, rfl, by decide +kernel, by decide +kernel⟩
theorem can_is_whole {Z : Env} (B : Std Z) (Df : DefAt Z "is_whole" s_is_whole []) : Can Z CX0 (1) "is_whole" ["value", "low", "high"] [] (spWhole Z.K) := by
  refine can_of Df sc_is_whole (fun vs H Q E h => ?_) (fun _ _ _ _ _ _ us hl => match us, hl with | [_, _, _], _ => rfl) (fun f cdv A outer s H vs Q E hr h => ⟨_, PSs.nox ((pss_cons (ps_if (PW.pt (pw_or (pt_not (pt_val (pe_callB (k_isi Z.K) (by rfl) B.isinstance (by decide +kernel) (pa_cons (pv 0) (pa_cons (pe_bltn (v := .ty "int") (by rfl) B.int (by decide +kernel) rfl) pa_nil))))) (pw_or1 (pt_val (pe_callB (k_isi Z.K) (by rfl) B.isinstance (by decide +kernel) (pa_cons (pv 0) (pa_cons (pe_bltn (v := .ty "bool") (by rfl) B.bool (by decide +kernel) rfl) pa_nil))))))) (pss_one (ps_ret pe_bl)) pss_nil) (pss_one (ps_ret (pe_chain o_le o_le (pv 1) (pv 0) (pv 2)))))), ?_⟩)
  · obtain ⟨W, v, d, lo, hi, rfl, rfl, _⟩ := h
    rfl
  · obtain ⟨W, v, d, lo, hi, rfl, rfl, hv, k⟩ := h
    cases hv with
    | int =>
      walk_at "go"
      refine iteD (fun h1 => ?_) (fun h1 => ?_)
      · walk_at "go"
        rw [wholeB, decide_eq_true h1, Bool.true_and] at k
        exact k
      · walk_at "go"
        rw [wholeB, decide_eq_false h1, Bool.false_and] at k
        exact k
    | non => walk_at "go"; exact k
    | bl => walk_at "go"; exact k
    | str => walk_at "go"; exact k
    | lst h1 h2 h3 => have hv := Rp.lst (K := Z.K) h1 h2 h3; walk_at "go"; exact k
    | tup h1 h2 => have hv := Rp.tup (K := Z.K) h1 h2; walk_at "go"; exact k
    | dct h1 h2 h3 => have hv := Rp.dct (K := Z.K) h1 h2 h3; walk_at "go"; exact k

abbrev s_short_number : Stmt := top 26
abbrev nn_short_number : List Str := ["text", "sign"]
theorem sc_short_number : FnScope nn_short_number ["text"] (defScope s_short_number) := ⟨rfl, rfl, rfl, by decide +kernel, rfl, by decide +kernel, by decide +kernel⟩
theorem can_short_number {Z : Env} (B : Std Z) (Df : DefAt Z "short_number" s_short_number []) (g_DIGITS : Gv Z "DIGITS" (.str (Str.ofString "0123456789"))) : Can Z CX0 (1) "short_number" ["text"] [] (spB1 Z.K isShort TxtD) := by
  refine can_of Df sc_short_number (fun vs H Q E h => ?_) (fun _ _ _ _ _ _ us hl => match us, hl with | [_], _ => rfl) (fun f cdv A outer s H vs Q E hr h => ⟨_, PSs.nox ((pss_cons (ps_if (PW.pt (pw_or (pt_cmpR o_lt (pe_callB (k_len Z.K) (by rfl) B.len (by decide +kernel) (pa_cons (pv 0) pa_nil)) pe_int (nomark _)) (pw_or1 (pt_cmpR o_gt (pe_callB (k_len Z.K) (by rfl) B.len (by decide +kernel) (pa_cons (pv 0) pa_nil)) pe_int (nomark _))))) (pss_one (ps_ret pe_bl)) pss_nil) (pss_cons (ps_if (pt_not (pt_val (pe_callB (k_all Z.K) (by rfl) B.all (by decide +kernel) (pa_cons (pe_lc (own := [("sign", 1)]) (g := gName 1) (tt := tYes) (by rfl) sc_short_number.nd (k_pi Z.K (pv 0)) (blkOk_by (own := [("sign", 1)]) (N := nn_short_number) (sc := defScope s_short_number) (by decide +kernel)) (fun _ _ _ _ _ => (pg_name (i := 1) sc_short_number.nd rfl (Or.inl rfl))) (fun _ _ _ _ _ => pts_nil) (fun _ _ _ _ _ => (pe_cmpR (k_in Z.K) (pv 1) (pglob g_DIGITS) (by rfl)))) pa_nil)))) (pss_one (ps_ret pe_bl)) pss_nil) (pss_one (ps_ret (pe_or (pe_cmpR (k_eq Z.K (h64 hr)) (pe_callB (k_len Z.K) (by rfl) B.len (by decide +kernel) (pa_cons (pv 0) pa_nil)) pe_int (nomark _)) (pe_one (pe_cmpR (k_ne Z.K (h64 hr)) (pe_ix (k_ix Z.K) (pv 0) pe_int (fun _ _ => rfl)) pe_str (nomark _))))))))), ?_⟩)
  · obtain ⟨W, v, d, rfl, rfl, _⟩ := h
    rfl
  · obtain ⟨W, v, d, rfl, rfl, hv, ⟨z, rfl, hz⟩, k⟩ := h
    cases hv
    have ez := len_tl z
    walk_at "go"
    refine lenS (sz hz) ?_
    walk_at "go"
    have E0 : isShort (.str z) = ((decide (1 ≤ (tl z).length) && decide ((tl z).length ≤ 2)) && ((tl z).all digB && (decide ((tl z).length = 1) || !decide ((tl z).head? = some 48)))) := rfl
    refine iteD (fun h1 => ?_) (fun h1 => ?_)
    · walk_at "go"
      rw [E0, decide_eq_false (by omega : ¬ 1 ≤ (tl z).length), Bool.false_and, Bool.false_and] at k
      exact k W (Mod.refl W)
    walk_at "go"
    refine lenS (sz hz) ?_
    walk_at "go"
    refine iteD (fun h2 => ?_) (fun h2 => ?_)
    · walk_at "go"
      rw [E0, decide_eq_false (by omega : ¬ (tl z).length ≤ 2), Bool.and_false, Bool.false_and] at k
      exact k W (Mod.refl W)
    rw [E0, decide_eq_true (by omega : 1 ≤ (tl z).length), decide_eq_true (by omega : (tl z).length ≤ 2), Bool.true_and, Bool.true_and] at k
    walk_at "go"
    refine any_s ?_
    walk_at "go"
    intro p hp
    refine lcS (X := []) hp (fun _ h => nomatch h) (fun i W1 xs => xs = ((tl z).take i).map fun c => V.bl (digB c)) (fun _ => rfl) (fun _ _ _ => rfl) ?_ ?_
    · rintro i c W1 xs hc m1 o1 hl rfl
      have hc2 : (tl z)[i]? = some c := by simpa using hc
      walk_at "go"
      rw [dec_dig]
      refine lc_give hp (by have := (List.getElem?_eq_some_iff.mp hc2).1; omega) m1 o1 hl fun W4 m4 o4 => ?_
      rw [List.take_add_one, hc2]
      simp
    · rintro W1 xs m1 o1 hl rfl
      rw [len_tl, List.take_length] at o1
      walk_at "go"
      refine allL (bs := (tl z).map digB) (by rw [List.map_map]; exact o1.sq) ?_
      have ea : ((tl z).map digB).all id = (tl z).all digB := by rw [List.all_map]; rfl
      rw [ea]
      walk_at "go"
      cases hd : (tl z).all digB with
      | false =>
        walk_at "go"
        rw [hd, Bool.false_and] at k
        exact k W1 m1
      | true =>
        rw [hd, Bool.true_and] at k
        walk_at "go"
        refine lenS (sz hz) ?_
        walk_at "go"
        refine iteD (fun h3 => ?_) (fun h3 => ?_)
        · rw [decide_eq_true (by omega : (tl z).length = 1), Bool.true_or] at k
          exact k W1 m1
        · rw [decide_eq_false (by omega : ¬ (tl z).length = 1), Bool.false_or] at k
          walk_at "go"
          obtain ⟨c, hc⟩ : ∃ c, (tl z).head? = some c := by
            cases hl : tl z with
            | nil => rw [hl] at ez; simp at ez; omega
            | cons a r => exact ⟨a, rfl⟩
          refine ix0S (sz hz) hc ?_
          walk_at "go"
          have e : decide ((⟨#[c]⟩ : Str) = Str.ofString "0") = decide ((tl z).head? = some 48) := by
            rw [hc]
            refine decide_eq_decide.mpr ⟨fun h => ?_, fun h => ?_⟩
            · have := congrArg tl h
              have h5 : [c] = [48] := this
              rw [List.cons.inj h5 |>.1]
            · have h5 : c = 48 := Option.some.inj h
              rw [h5]; rfl
          rw [e]
          exact k W1 m1

abbrev s_law_is_free : Stmt := top 44
abbrev nn_law_is_free : List Str := ["text"]
theorem sc_law_is_free : FnScope nn_law_is_free ["text"] (defScope s_law_is_free) := ⟨rfl, rfl, rfl, by decide +kernel, rfl, by decide +kernel, by decide +kernel⟩
theorem can_law_is_free {Z : Env} (B : Std Z) (Df : DefAt Z "_law_is_free" s_law_is_free []) (c__law_is_name : Can Z CX0 1 "_law_is_name" ["text"] [] (spB1 Z.K isNm Sz)) (c__law_reserved : Can Z CX0 1 "_law_reserved" [] [] (spNew Z.K resDs)) : Can Z CX0 (2) "_law_is_free" ["text"] [] (spB1 Z.K isFree Sz) := by
  refine can_of Df sc_law_is_free (fun vs H Q E h => ?_) (fun _ _ _ _ _ _ us hl => match us, hl with | [_], _ => rfl) (fun f cdv A outer s H vs Q E hr h => ⟨_, PSs.nox ((pss_one (ps_ret (pe_and (pcall c__law_is_name hr (pa_cons (pv 0) pa_nil) pass0) (pe_one (pe_cmpR (k_notIn Z.K) (pv 0) (pcall0 c__law_reserved hr pass0) (by rfl))))))), ?_⟩)
  · obtain ⟨W, v, d, rfl, rfl, _⟩ := h
    rfl
  · obtain ⟨W, v, d, rfl, rfl, hv, hz, k⟩ := h
    walk_at "go"
    refine use_B1 hv hz fun W1 m1 => ?_
    refine ex_bl2 ?_
    cases hn : isNm d with
    | false =>
      walk_at "go"
      rw [isFree_nm hn] at k
      exact k W1 m1
    | true =>
      obtain ⟨z, rfl, hz2⟩ := isNm_str hn
      cases hv
      walk_at "go"
      refine use_new fun p W2 m2 n2 q2 => ?_
      walk_at "go"
      obtain ⟨xs, hs, hr⟩ := q2.seqL
      have ex : xs = resVs := RpL.strs (zs := resZs) hr
      subst ex
      refine inL0 (.inl hs) rfl (by decide) ?_
      have e : isFree (.str z) = !inV (.str z) resVs := by
        show (nmB z && _) = _
        rw [hz2, Bool.true_and]
      rw [e] at k
      exact k W2 (m1.tr0 m2)

abbrev s_law_is_letter : Stmt := top 45
abbrev nn_law_is_letter : List Str := ["text", "at", "k"]
theorem sc_law_is_letter : FnScope nn_law_is_letter ["text"] (defScope s_law_is_letter) := ⟨rfl, rfl, rfl, by decide +kernel, rfl, by decide +kernel, by decide +kernel⟩
theorem can_law_is_letter {Z : Env} (B : Std Z) (Df : DefAt Z "_law_is_letter" s_law_is_letter []) (c__law_is_name : Can Z CX0 1 "_law_is_name" ["text"] [] (spB1 Z.K isNm Sz)) : Can Z CX0 (2) "_law_is_letter" ["text"] [] (spB1 Z.K isLet Sz) := by
  refine can_of Df sc_law_is_letter (fun vs H Q E h => ?_) (fun _ _ _ _ _ _ us hl => match us, hl with | [_], _ => rfl) (fun f cdv A outer s H vs Q E hr h => ⟨_, PSs.nox ((pss_cons (ps_if (pt_val (pcall c__law_is_name hr (pa_cons (pv 0) pa_nil) pass0)) (pss_one (ps_ret pe_bl)) pss_nil) (pss_cons (ps_if (PW.pt (pw_or (pt_not (pt_val (pe_callB (k_isi Z.K) (by rfl) B.isinstance (by decide +kernel) (pa_cons (pv 0) (pa_cons (pe_bltn (v := .ty "str") (by rfl) B.str (by decide +kernel) rfl) pa_nil))))) (pw_or1 (pt_cmpR (k_notIn Z.K) pe_str (pv 0) (by rfl))))) (pss_one (ps_ret pe_bl)) pss_nil) (pss_cons (ps_set (i := 1) sc_law_is_letter.nd rfl (Or.inl rfl) (pe_m1 PySem.F.slot_str_find PySem.F.type_str_find mt_find (pv 0) pe_str)) (pss_one (ps_ret (pe_and (pcall c__law_is_name hr (pa_cons (pe_slice (k_sl Z.K) (pv 0) po_none (po_some (pv 1))) pa_nil) pass0) (pe_one (pe_cmpR (k_in Z.K) (pe_slice (k_sl Z.K) (pv 0) (po_some (pe_op o_add (pv 1) pe_int)) po_none) (pe_lc (own := [("k", 2)]) (g := gName 2) (tt := tYes) (by rfl) sc_law_is_letter.nd (pi_range1 (by rfl) B.range (pa_cons pe_int pa_nil)) (blkOk_by (own := [("k", 2)]) (N := nn_law_is_letter) (sc := defScope s_law_is_letter) (by decide +kernel)) (fun _ _ _ _ _ => (pg_name (i := 2) sc_law_is_letter.nd rfl (Or.inl rfl))) (fun _ _ _ _ _ => pts_nil) (fun _ _ _ _ _ => (pe_callTy c_str (by rfl) B.str (by decide +kernel) (pa_cons (pv 2) pa_nil)))) (by rfl)))))))))), ?_⟩)
  · obtain ⟨W, v, d, rfl, rfl, _⟩ := h
    rfl
  · obtain ⟨W, v, d, rfl, rfl, hv, hz, k⟩ := h
    walk_at "go"
    refine use_B1 hv hz fun W1 m1 => ?_
    walk_at "go"
    cases hn : isNm d with
    | true =>
      obtain ⟨z, rfl, hz2⟩ := isNm_str hn
      walk_at "go"
      have e : isLet (.str z) = true := letZ_nm hz2
      rw [e] at k
      exact k W1 m1
    | false =>
      walk_at "go"
      cases hb : isT "str" d with
      | false =>
        have : Rp Z.K W1 v d := by walk_at "rp"
        walk_at "go"
        rw [(isT_str_f hb).2] at k
        exact k W1 m1
      | true =>
        obtain ⟨z, rfl⟩ := isT_str hb
        have hz := hz z rfl
        cases hv
        have hn' : nmB z = false := hn
        walk_at "go"
        refine inSg0 (c := 46) ?_
        walk_at "go"
        by_cases hdot : 46 ∈ tl z
        · obtain ⟨a, b, rfl, ha⟩ := dot_split hdot
          have ek : isLet (.str (a ++ dot ++ b)) = (nmB a && shortB b) := letZ_dot ha
          rw [ek] at k
          have hab : a.length + 1 + b.length ≤ 100000 := by rw [len_app, len_app] at hz; exact hz
          rw [decide_eq_true (p := 46 ∈ (a ++ dot ++ b).cps.toList) hdot]
          walk_at "go"
          refine ⟨_, _, rfl, rfl, ?_⟩
          rw [find_dot ha]
          walk_at "go"
          refine slS (sz hz) ?_
          rw [show a ++ dot ++ b = a ++ (dot ++ b) from ext_tl (by simp [tl_append, List.append_assoc]), cut_pre]
          walk_at "go"
          refine use_B1 (d := .str a) .str (fun y e => by cases e; omega) fun W2 m2 => ?_
          refine ex_bl2 ?_
          cases hn : isNm (.str a) with
          | false =>
            have hn' : nmB a = false := hn
            rw [hn', Bool.false_and] at k
            walk_at "go"
            exact k W2 (m1.tr0 m2)
          | true =>
            have hn' : nmB a = true := hn
            rw [hn', Bool.true_and] at k
            walk_at "go"
            refine slS (sz (by rw [len_app, len_app]; show a.length + (1 + b.length) ≤ _; omega)) ?_
            rw [show a ++ (dot ++ b) = (a ++ dot) ++ b from ext_tl (by simp [tl_append, List.append_assoc]), cut_suf (a := a ++ dot) (b := b) (by rw [len_app]; show _ = ((a.length + 1 : Nat) : Int); omega)]
            walk_at "go"
            refine ⟨by omega, by omega, fun p hp => ?_⟩
            refine lcR (X := []) hp (fun _ h => nomatch h) (fun i W1 xs => xs = (List.range i).map fun k => V.str (nums k)) (fun _ => rfl) (fun _ _ _ => rfl) ?_ ?_
            · rintro i W3 xs hi m3 o3 hl rfl
              have hi : i < 100 := hi
              walk_at "go"
              rw [Int.zero_add]
              refine i_str (log2_small (by omega)) ?_
              refine lc_give hp (by omega) m3 o3 hl fun W4 m4 o4 => ?_
              rw [List.range_succ, List.map_append]
              rfl
            · rintro W3 xs m3 o3 hl rfl
              refine inL1 (.inl o3.sq) rfl (by rw [List.all_map]; exact List.all_eq_true.mpr fun _ _ => rfl) ?_
              have e : inV (.str b) ((List.range ((100 : Int)).toNat).map fun k => V.str (nums k)) = shortB b := inV_nums b
              rw [e]
              exact k W3 ((m1.tr0 m2).tr0 m3)
        · rw [decide_eq_false (p := 46 ∈ z.cps.toList) hdot]
          have ek : isLet (.str z) = nmB z := letZ_none hdot
          rw [ek, hn'] at k
          walk_at "go"
          exact k W1 m1

abbrev s_law_join_due : Stmt := top 54
abbrev nn_law_join_due : List Str := ["parts"]
theorem sc_law_join_due : FnScope nn_law_join_due ["parts"] (defScope s_law_join_due) := ⟨rfl, rfl, rfl, by decide +kernel, rfl, by decide +kernel, by decide +kernel⟩
theorem can_law_join_due {Z : Env} (B : Std Z) (Df : DefAt Z "_law_join_due" s_law_join_due []) (c__law_integer : Can Z CX0 1 "_law_integer" ["thing"] [] (spB1 Z.K isWh (fun _ => True))) (c__law_is_name : Can Z CX0 1 "_law_is_name" ["text"] [] (spB1 Z.K isNm Sz)) : Can Z CX0 (2) "_law_join_due" ["parts"] [] (spJDue Z.K) := by
  refine can_of Df sc_law_join_due (fun vs H Q E h => ?_) (fun _ _ _ _ _ _ us hl => match us, hl with | [_], _ => rfl) (fun f cdv A outer s H vs Q E hr h => ⟨_, PSs.nox ((pss_cons (ps_if (pt_not (pt_val (pcall c__law_is_name hr (pa_cons (pe_ix (k_ix Z.K) (pv 0) pe_int (fun _ _ => rfl)) pa_nil) pass0))) (pss_one (ps_ret (pe_tup (pa_cons pe_str (pa_cons pe_str pa_nil))))) pss_nil) (pss_cons (ps_if (PW.pt (pw_or (pt_cmpR (k_eq Z.K (h64 hr)) (pe_callB (k_len Z.K) (by rfl) B.len (by decide +kernel) (pa_cons (pv 0) pa_nil)) pe_int (nomark _)) (pw_or1 (pt_cmpR o_isN (pe_ix (k_ix Z.K) (pv 0) pe_int (fun _ _ => rfl)) pe_non (nomark _))))) (pss_one (ps_ret (pe_ix (k_ix Z.K) (pv 0) pe_int (fun _ _ => rfl)))) pss_nil) (pss_cons (ps_if (PW.pt (pw_or (pt_not (pt_val (pcall c__law_integer hr (pa_cons (pe_ix (k_ix Z.K) (pv 0) pe_int (fun _ _ => rfl)) pa_nil) pass0))) (pw_or (pt_cmpR o_lt (pe_ix (k_ix Z.K) (pv 0) pe_int (fun _ _ => rfl)) pe_int (nomark _)) (pw_or1 (pt_cmpR o_gt (pe_ix (k_ix Z.K) (pv 0) pe_int (fun _ _ => rfl)) pe_int (nomark _)))))) (pss_one (ps_ret (pe_tup (pa_cons pe_str (pa_cons pe_str pa_nil))))) pss_nil) (pss_one (ps_ret (pe_op o_add (pe_op o_add (pe_ix (k_ix Z.K) (pv 0) pe_int (fun _ _ => rfl)) pe_str) (pe_callTy c_str (by rfl) B.str (by decide +kernel) (pa_cons (pe_ix (k_ix Z.K) (pv 0) pe_int (fun _ _ => rfl)) pa_nil))))))))), ?_⟩)
  · obtain ⟨W, p, d, es, rfl, rfl, _⟩ := h
    rfl
  · obtain ⟨W, p, d, es, rfl, rfl, hv, hl, hz, k⟩ := h
    walk_at "go"
    refine ixRL hv (by decide) (d := d) rfl fun v hd => ?_
    walk_at "go"
    refine use_B1 hd hz fun W1 m1 => ?_
    walk_at "go"
    cases hn : isNm d with
    | false =>
      walk_at "go"
      refine ⟨by walk_at "nat", mk_tup (K := Z.K) (by walk_at "rpl") fun p W2 m2 n2 _ q2 => ?_⟩
      exact k _ W2 (m1.tr0 m2) (by rw [joinD_not (joinB_nm hn)]; exact q2)
    | true =>
      obtain ⟨z, rfl, hz2⟩ := isNm_str hn
      cases hd
      walk_at "go"
      match es, hl with
      | [], _ =>
        walk_at "go"
        refine iteD (fun _ => ?_) fun h => absurd rfl h
        walk_at "go"
        refine ixRL (hv.up m1) (by decide) (d := .str z) rfl fun v hd => ?_
        exact k _ W1 m1 (by
          show Rp Z.K W1 v (joinD (.str z) .non)
          rw [joinD_non hn]; exact hd)
      | [e], _ =>
        have k : ∀ r W', Mod [] W W' → Rp Z.K W' r (joinD (.str z) e) → Q r W'.H := k
        walk_at "go"
        refine iteD (fun h => absurd (show ((2 : Nat) : Int) = 1 from h) (by decide)) fun _ => ?_
        have hv1 := hv.up m1
        walk_at "go"
        refine ixRL hv1 (by decide) (d := e) rfl fun u hu => ?_
        cases hn2 : isNon e with
        | true =>
          obtain rfl := isNon_t hn2
          cases hu
          walk_at "go"
          refine ixRL hv1 (by decide) (d := .str z) rfl fun v hd => ?_
          exact k _ W1 m1 (by rw [joinD_non hn]; exact hd)
        | false =>
          have hu2 : decide (u = .non) = false := isNon_f hn2 hu
          walk_at "go"
          rw [hu2]
          walk_at "go"
          refine ixRL hv1 (by decide) (d := e) rfl fun u2 hu2 => ?_
          walk_at "go"
          refine use_B1 hu2 True.intro fun W2 m2 => ?_
          walk_at "go"
          have bad : wholeB e 0 99 = false → ∀ W', Mod [] W W' → NewT [.str (Str.ofString "refused"), .str (Str.ofString "BadWord")] Q W'.H := fun hw W' m' => mk_tup (K := Z.K) (ds := [.str (Str.ofString "refused"), .str (Str.ofString "BadWord")]) (by walk_at "rpl") fun p W2 m2 n2 _ q2 => k _ W2 (m'.tr0 m2) (by rw [joinD_not (joinB_f hn2 hw)]; exact q2)
          have m12 := m1.tr0 m2
          cases hw : isWh e with
          | false =>
            walk_at "go"
            exact ⟨by walk_at "nat", bad (wholeB_wh hw) W2 m12⟩
          | true =>
            obtain ⟨i, rfl⟩ := isWh_int hw
            have hv2 := hv1.up m2
            walk_at "go"
            refine ixRL hv2 (by decide) (d := .int i) rfl fun v3 hv3 => ?_
            cases hv3
            walk_at "go"
            refine iteD (fun h => ?_) fun h0 => ?_
            · walk_at "go"
              exact ⟨by walk_at "nat", bad (by show (decide (0 ≤ i) && _) = false; rw [decide_eq_false (by omega)]; rfl) W2 m12⟩
            walk_at "go"
            refine ixRL hv2 (by decide) (d := .int i) rfl fun v3 hv3 => ?_
            cases hv3
            walk_at "go"
            refine iteD (fun h => ?_) fun h9 => ?_
            · walk_at "go"
              exact ⟨by walk_at "nat", bad (by show (decide (0 ≤ i) && decide (i ≤ 99)) = false; rw [decide_eq_false (show ¬ i ≤ 99 by omega), Bool.and_false]) W2 m12⟩
            have hw2 : wholeB (.int i) 0 99 = true := by show (decide (0 ≤ i) && decide (i ≤ 99)) = true; rw [decide_eq_true (by omega), decide_eq_true (by omega)]; rfl
            obtain ⟨j, rfl⟩ := Int.eq_ofNat_of_zero_le (show 0 ≤ i by omega)
            have hz3 := (nm_of hz2).2.2
            have hj2 := num_len (n := j) (k := 2) (by decide) (by omega)
            walk_at "go"
            refine ixRL hv2 (by decide) (d := .str z) rfl fun v3 hv3 => ?_
            cases hv3
            walk_at "go"
            refine ixRL hv2 (by decide) (d := .int j) rfl fun v3 hv3 => ?_
            cases hv3
            walk_at "go"
            refine i_str (log2_small (by omega)) ?_
            refine i_addS (sz (by rw [len_app]; show z.length + 1 + _ ≤ _; omega)) ?_
            exact k _ W2 m12 (by rw [joinD_int hn hw2]; exact .str)

abbrev s_law_take : Stmt := top 33
abbrev nn_law_take : List Str := ["store", "many", "rest", "mixed"]
theorem sc_law_take : FnScope nn_law_take ["store", "many"] (defScope s_law_take) := ⟨rfl, rfl, rfl, by decide +kernel, rfl, by decide +kernel, by decide +kernel⟩
theorem can_law_take {Z : Env} (B : Std Z) (Df : DefAt Z "_law_take" s_law_take []) (c__law_load : Can Z CX0 1 "_law_load" ["store"] [] (spLoad Z.K)) : Can Z CX0 (2) "_law_take" ["store", "many"] [] (spTake Z.K) := by
  refine can_of Df sc_law_take (fun vs H Q E h => ?_) (fun _ _ _ _ _ _ us hl => match us, hl with | [_, _], _ => rfl) (fun f cdv A outer s H vs Q E hr h => ⟨_, PSs.nox ((pss_cons (ps_if (pt_cmpR o_lt (pv 1) pe_int (nomark _)) (pss_one (ps_ret pe_int)) pss_nil) (Evl.pss_cut (ps_if (PW.pt (pw_and (pt_cmpR o_lt (pe_ix (k_ix Z.K) (pv 0) pe_int (fun _ _ => rfl)) pe_int (nomark _)) (pw_and1 (pt_cmpR o_lt (pe_ix (k_ix Z.K) (pv 0) pe_int (fun _ _ => rfl)) pe_int (nomark _))))) (pss_one (ps_expr (pcall c__law_load hr (pa_cons (pv 0) pa_nil) pass0))) pss_nil) (pss_cons (ps_if (pt_cmpR o_gt (pe_ix (k_ix Z.K) (pv 0) pe_int (fun _ _ => rfl)) pe_int (nomark _)) (pss_cons (ps_set (i := 2) sc_law_take.nd rfl (Or.inl rfl) (pe_ix (k_ix Z.K) (pv 0) pe_int (fun _ _ => rfl))) (pss_cons (ps_asg (pe_op o_fdiv (pv 2) (pv 1)) (pg_sub (pv 0) pe_int set_list)) (pss_one (ps_ret (pe_op o_mod (pe_callTy c_int (by rfl) B.int (by decide +kernel) (pa_cons (pv 2) pa_nil)) (pv 1)))))) pss_nil) (pss_cons (ps_asg (pe_op o_sub (pe_ix (k_ix Z.K) (pv 0) pe_int (fun _ _ => rfl)) pe_int) (pg_sub (pv 0) pe_int set_list)) (pss_cons (ps_asg (pe_op o_add (pe_ix (k_ix Z.K) (pv 0) pe_int (fun _ _ => rfl)) pe_int) (pg_sub (pv 0) pe_int set_list)) (pss_cons (ps_set (i := 3) sc_law_take.nd rfl (Or.inl rfl) (pe_op o_add (pe_op o_add (pe_op o_mulU (pe_ix (k_ix Z.K) (pv 0) pe_int (fun _ _ => rfl)) pe_int) (pe_op o_mulU (pe_ix (k_ix Z.K) (pv 0) pe_int (fun _ _ => rfl)) pe_int)) pe_int)) (pss_cons (ps_asg (pe_op o_mod (pe_callTy c_int (by rfl) B.int (by decide +kernel) (pa_cons (pv 3) pa_nil)) pe_int) (pg_sub (pv 0) pe_int set_list)) (pss_cons (ps_set (i := 3) sc_law_take.nd rfl (Or.inl rfl) (pe_op o_add (pe_op o_add (pe_op o_mulU (pe_op o_fdiv (pe_ix (k_ix Z.K) (pv 0) pe_int (fun _ _ => rfl)) pe_int) pe_int) (pe_op o_mulU (pe_ix (k_ix Z.K) (pv 0) pe_int (fun _ _ => rfl)) pe_int)) (pe_ix (k_ix Z.K) (pv 0) pe_int (fun _ _ => rfl)))) (pss_cons (ps_set (i := 3) sc_law_take.nd rfl (Or.inl rfl) (pe_op o_mod (pe_callTy c_int (by rfl) B.int (by decide +kernel) (pa_cons (pv 3) pa_nil)) pe_int)) (pss_one (ps_ret (pe_op o_mod (pe_callTy c_int (by rfl) B.int (by decide +kernel) (pa_cons (pv 3) pa_nil)) (pv 1)))))))))))))), ?_⟩)
  · obtain ⟨W, st, m, rfl, rfl, _⟩ := h
    rfl
  · obtain ⟨W, st, m, rfl, rfl, S, hm, k⟩ := h
    obtain ⟨c, ns, i, b, sd, fu, n, o, hi, hc⟩ := id S
    walk_at "go"
    refine iteD (fun h2 => ?_) (fun h2 => ?_)
    · walk_at "go"
      exact k _ _ (by walk_at "mod") S (by omega) (by omega)
    · walk_at "go"
      refine ⟨hide fun σ' H' => ∃ W1, W1.H = H' ∧ σ' = [some (.ref st), some (.int m), none, none] ∧ Mod [st] W W1 ∧ Sto Z.K st W1, ?_, ?_⟩
      · walk_at "go"
        refine iteD (fun _ => ?_) (fun _ => ?_)
        · walk_at "go"
          refine iteD (fun _ => ?_) (fun _ => ?_)
          · walk_at "go"
            refine use_load S fun W1 m1 s1 => ?_
            walk_at "go"
            exact ⟨W1, rfl, rfl, m1, s1⟩
          · walk_at "go"
            exact ⟨W, rfl, rfl, by walk_at "mod", S⟩
        · walk_at "go"
          exact ⟨W, rfl, rfl, by walk_at "mod", S⟩
      · clear o hc hi
        rintro _ _ ⟨W1, rfl, rfl, m1, s1⟩
        obtain ⟨c, ns, i, b, sd, fu, n, o, hi, hc⟩ := id s1
        walk_at "go"
        refine iteD (fun hb => ?_) (fun hb => ?_)
        · walk_at "go"
          refine i_I ⟨by omega, by omega⟩ ?_
          walk_at "go"
          have e := Int.emod_nonneg b (show m ≠ 0 by omega)
          have e2 := Int.emod_lt_of_pos b (show 0 < m by omega)
          have e3 : b.fmod m = b % m := Int.fmod_eq_emod_of_nonneg b (by omega)
          exact k _ _ (by walk_at "mod") ⟨_, _, _, _, _, _, _, by assumption, hi, by walk_at "rp"⟩ (by show 0 ≤ b.fmod m; omega) (by show b.fmod m < m ∨ b.fmod m = 0; omega)
        · walk_at "go"
          have e := fun b : Int => Int.emod_nonneg b (show m ≠ 0 by omega)
          have e2 := fun b : Int => Int.emod_lt_of_pos b (show 0 < m by omega)
          have e3 : ∀ b : Int, b.fmod m = b % m := fun b => Int.fmod_eq_emod_of_nonneg b (by omega)
          have f0 : ∀ b : Int, 0 ≤ b.fmod m := fun b => by rw [e3]; exact e b
          have f1 : ∀ b : Int, b.fmod m < m := fun b => by rw [e3]; exact e2 b
          exact k _ _ (by walk_at "mod") ⟨_, _, _, _, _, _, _, by assumption, hi, by walk_at "rp"⟩ (f0 _) (Or.inl (f1 _))

abbrev s_free_name : Stmt := top 25
abbrev nn_free_name : List Str := ["text"]
theorem sc_free_name : FnScope nn_free_name ["text"] (defScope s_free_name) := ⟨rfl, rfl, rfl, by decide +kernel, rfl, by decide +kernel, by decide +kernel⟩
theorem can_free_name {Z : Env} (B : Std Z) (Df : DefAt Z "free_name" s_free_name []) (c_good_name : Can Z CX0 1 "good_name" ["text"] [] (spB1 Z.K isNm Sz)) (g_TAKEN_NAMES : GTup Z "TAKEN_NAMES" resVs) : Can Z CX0 (2) "free_name" ["text"] [] (spB1 Z.K isFree Sz) := by
  obtain ⟨tA, g_TAKEN_NAMES, t_TAKEN⟩ := g_TAKEN_NAMES
  refine can_of Df sc_free_name (fun vs H Q E h => ?_) (fun _ _ _ _ _ _ us hl => match us, hl with | [_], _ => rfl) (fun f cdv A outer s H vs Q E hr h => ⟨_, PSs.nox ((pss_one (ps_ret (pe_and (pcall c_good_name hr (pa_cons (pv 0) pa_nil) pass0) (pe_one (pe_cmpR (k_notIn Z.K) (pv 0) (pglob g_TAKEN_NAMES) (by rfl))))))), ?_⟩)
  · obtain ⟨W, v, d, rfl, rfl, _⟩ := h
    rfl
  · obtain ⟨W, v, d, rfl, rfl, hv, hz, k⟩ := h
    walk_at "go"
    refine use_B1 hv hz fun W1 m1 => ?_
    refine ex_bl2 ?_
    cases hn : isNm d with
    | false =>
      walk_at "go"
      rw [isFree_nm hn] at k
      exact k W1 m1
    | true =>
      obtain ⟨z, rfl, hz2⟩ := isNm_str hn
      cases hv
      walk_at "go"
      refine inL0 (.inr (t_TAKEN _)) rfl (by decide) ?_
      have e : isFree (.str z) = !inV (.str z) resVs := by
        show (nmB z && _) = _
        rw [hz2, Bool.true_and]
      rw [e] at k
      exact k W1 m1

abbrev s_good_letter : Stmt := top 27
abbrev nn_good_letter : List Str := ["text", "name", "dot", "rest"]
theorem sc_good_letter : FnScope nn_good_letter ["text"] (defScope s_good_letter) := ⟨rfl, rfl, rfl, by decide +kernel, rfl, by decide +kernel, by decide +kernel⟩
theorem can_good_letter {Z : Env} (B : Std Z) (Df : DefAt Z "good_letter" s_good_letter []) (c_good_name : Can Z CX0 1 "good_name" ["text"] [] (spB1 Z.K isNm Sz)) (c_short_number : Can Z CX0 1 "short_number" ["text"] [] (spB1 Z.K isShort TxtD)) : Can Z CX0 (2) "good_letter" ["text"] [] (spB1 Z.K isLet Sz) := by
  refine can_of Df sc_good_letter (fun vs H Q E h => ?_) (fun _ _ _ _ _ _ us hl => match us, hl with | [_], _ => rfl) (fun f cdv A outer s H vs Q E hr h => ⟨_, PSs.nox ((pss_cons (ps_if (pt_not (pt_val (pe_callB (k_isi Z.K) (by rfl) B.isinstance (by decide +kernel) (pa_cons (pv 0) (pa_cons (pe_bltn (v := .ty "str") (by rfl) B.str (by decide +kernel) rfl) pa_nil))))) (pss_one (ps_ret pe_bl)) pss_nil) (pss_cons (ps_asg (k_partition (pv 0) pe_str) (k_tup Z.K (by rfl) (pgs_cons (pg_name (i := 1) sc_good_letter.nd rfl (Or.inl rfl)) (pgs_cons (pg_name (i := 2) sc_good_letter.nd rfl (Or.inl rfl)) (pgs_cons (pg_name (i := 3) sc_good_letter.nd rfl (Or.inl rfl)) pgs_nil))))) (pss_cons (ps_if (pt_cmpR (k_eq Z.K (h64 hr)) (pv 2) pe_str (nomark _)) (pss_one (ps_ret (pcall c_good_name hr (pa_cons (pv 1) pa_nil) pass0))) pss_nil) (pss_one (ps_ret (pe_and (pcall c_good_name hr (pa_cons (pv 1) pa_nil) pass0) (pe_one (pcall c_short_number hr (pa_cons (pv 3) pa_nil) pass0))))))))), ?_⟩)
  · obtain ⟨W, v, d, rfl, rfl, _⟩ := h
    rfl
  · obtain ⟨W, v, d, rfl, rfl, hv, hz, k⟩ := h
    cases hb : isT "str" d with
    | false =>
      walk_at "go"
      have e := isT_str_f hb
      first | rw [e.1] at k | rw [e.2] at k
      exact k W (Mod.refl W)
    | true =>
      obtain ⟨z, rfl⟩ := isT_str hb
      have hz := hz z rfl
      cases hv
      walk_at "go"
      refine partS (K := Z.K) (by rfl) (sz hz) fun p W1 m1 n1 q1 => ?_
      walk_at "go"
      by_cases hdot : 46 ∈ tl z
      · obtain ⟨a, b, rfl, ha⟩ := dot_split hdot
        have ek : isLet (.str (a ++ dot ++ b)) = (nmB a && shortB b) := letZ_dot ha
        rw [ek] at k
        have hab : a.length + 1 + b.length ≤ 100000 := by rw [len_app, len_app] at hz; exact hz
        rw [part_dot ha]
        refine iteD (fun h => absurd (show dot = Str.ofString "" from h) (by decide)) fun _ => ?_
        walk_at "go"
        refine use_B1 (d := .str a) .str (fun y e => by cases e; omega) fun W2 m2 => ?_
        refine ex_bl2 ?_
        cases hn : isNm (.str a) with
        | false =>
          have hn' : nmB a = false := hn
          rw [hn', Bool.false_and] at k
          walk_at "go"
          exact k W2 (by walk_at "mod")
        | true =>
          have hn' : nmB a = true := hn
          rw [hn', Bool.true_and] at k
          walk_at "go"
          exact use_B1 (d := .str b) .str ⟨b, rfl, by omega⟩ fun W3 m3 => k W3 (by walk_at "mod")
      · have ek : isLet (.str z) = nmB z := letZ_none hdot
        rw [ek] at k
        rw [part_none hdot]
        refine iteD (fun _ => ?_) fun h => absurd rfl h
        walk_at "go"
        exact use_B1 (d := .str z) .str (fun y e => by cases e; exact hz) fun W3 m3 => k W3 (by walk_at "mod")

abbrev s_join_letter : Stmt := top 29
abbrev nn_join_letter : List Str := ["name", "number"]
theorem sc_join_letter : FnScope nn_join_letter ["name", "number"] (defScope s_join_letter) := ⟨rfl, rfl, rfl, by decide +kernel, rfl, by decide +kernel, by decide +kernel⟩
theorem can_join_letter_1 {Z : Env} (B : Std Z) (Df : DefAt Z "join_letter" s_join_letter [.non]) {C_BadWord : Addr} (e_BadWord : ErrC Z "BadWord" C_BadWord) (c_good_name : Can Z CX0 1 "good_name" ["text"] [] (spB1 Z.K isNm Sz)) (c_is_whole : Can Z CX0 1 "is_whole" ["value", "low", "high"] [] (spWhole Z.K)) (g_GREATEST_NUMBER : Gv Z "GREATEST_NUMBER" (.int 99)) : Can Z (CXn Z) (2) "join_letter" ["name", "number"] [.non] (spJoin Z.K C_BadWord) := by
  refine can_ofD 1 0 Df sc_join_letter (fun vs H Q E h => ?_) (by decide) rfl (fun _ _ _ _ _ _ _ us its h1 h2 => match us, its, h1, h2 with | [_], [_], _, _ => ⟨_, rfl, rfl⟩) (fun f cdv A outer s H vs Q E hr h => ⟨_, ((pss_cons (ps_if (pt_not (pt_val (pcall c_good_name hr (pa_cons (pv 0) pa_nil) pass0))) (pss_one (L2N.ps_raise rfl (L2N.takes_of rfl rfl rfl rfl) (pmkE e_BadWord))) pss_nil) (pss_cons (ps_if (pt_cmpR o_isN (pv 1) pe_non (nomark _)) (pss_one (ps_ret (pv 0))) pss_nil) (pss_cons (ps_if (pt_not (pt_val (pcall c_is_whole hr (pa_cons (pv 1) (pa_cons pe_int (pa_cons (pglob g_GREATEST_NUMBER) pa_nil))) pass0))) (pss_one (L2N.ps_raise rfl (L2N.takes_of rfl rfl rfl rfl) (pmkE e_BadWord))) pss_nil) (pss_one (ps_ret (pe_joined (PJ.cons (pe_fmt (pv 0)) (PJ.cons pe_str (PJ.cons (pe_fmt (pv 1)) PJ.nil)))))))))), ?_⟩)
  · obtain ⟨W, v, d, u, e, rfl, rfl, _⟩ := h
    rfl
  · obtain ⟨W, v, d, u, e, rfl, rfl, hv, hu, hz, kE, k⟩ := h
    walk_at "go"
    refine use_B1 hv hz fun W1 m1 => ?_
    walk_at "go"
    cases hl : isNm d with
    | false =>
      walk_at "go"
      exact kE (joinB_nm hl) W1 m1
    | true =>
      obtain ⟨z, rfl, hz2⟩ := isNm_str hl
      cases hv
      walk_at "go"
      have hu := hu.up m1
      cases hn : isNon e with
      | true =>
        obtain rfl := isNon_t hn
        cases hu
        walk_at "go"
        exact k hl _ W1 m1 (by rw [joinD_non hl]; exact .str)
      | false =>
        have hu2 : decide (u = .non) = false := isNon_f hn hu
        rw [hu2]
        walk_at "go"
        refine use_whole (d := e) hu ?_
        walk_at "go"
        cases hw : wholeB e 0 99 with
        | false =>
          walk_at "go"
          exact kE (joinB_f hn hw) W1 m1
        | true =>
          obtain ⟨j, rfl, hj⟩ := wholeB_int hw
          cases hu
          have hz3 := (nm_of hz2).2.2
          have hj2 := num_len (n := j) (k := 2) (by decide) (by omega)
          walk_at "go"
          refine or_fmtS (z := z) (sz (by omega)) ?_
          walk_at "go"
          refine ⟨by rw [emp_app]; exact sz (by omega), ?_⟩
          walk_at "go"
          refine ⟨by rw [emp_app, len_app]; exact sz (by show z.length + 1 ≤ _; omega), ?_⟩
          walk_at "go"
          refine or_fmtI (log2_small (by omega)) ?_
          walk_at "go"
          refine ⟨by rw [emp_app, len_app, len_app]; exact sz (by show z.length + 1 + _ ≤ _; omega), ?_⟩
          walk_at "go"
          rw [emp_app]
          exact k (by show (isNm _ && _) = true; rw [hl, hw]; rfl) _ W1 m1 (by rw [joinD_int hl hw]; exact .str)

theorem can_join_letter_2 {Z : Env} (B : Std Z) (Df : DefAt Z "join_letter" s_join_letter [.non]) {C_BadWord : Addr} (e_BadWord : ErrC Z "BadWord" C_BadWord) (c_good_name : Can Z CX0 1 "good_name" ["text"] [] (spB1 Z.K isNm Sz)) (c_is_whole : Can Z CX0 1 "is_whole" ["value", "low", "high"] [] (spWhole Z.K)) (g_GREATEST_NUMBER : Gv Z "GREATEST_NUMBER" (.int 99)) : Can Z (CXn Z) (2) "join_letter" ["name", "number"] [] (spJoin Z.K C_BadWord) := by
  refine can_ofD 2 1 Df sc_join_letter (fun vs H Q E h => ?_) (by decide) rfl (fun _ _ _ _ _ _ _ us its h1 h2 => match us, its, h1, h2 with | [_, _], [_], _, _ => ⟨_, rfl, rfl⟩) (fun f cdv A outer s H vs Q E hr h => ⟨_, ((pss_cons (ps_if (pt_not (pt_val (pcall c_good_name hr (pa_cons (pv 0) pa_nil) pass0))) (pss_one (L2N.ps_raise rfl (L2N.takes_of rfl rfl rfl rfl) (pmkE e_BadWord))) pss_nil) (pss_cons (ps_if (pt_cmpR o_isN (pv 1) pe_non (nomark _)) (pss_one (ps_ret (pv 0))) pss_nil) (pss_cons (ps_if (pt_not (pt_val (pcall c_is_whole hr (pa_cons (pv 1) (pa_cons pe_int (pa_cons (pglob g_GREATEST_NUMBER) pa_nil))) pass0))) (pss_one (L2N.ps_raise rfl (L2N.takes_of rfl rfl rfl rfl) (pmkE e_BadWord))) pss_nil) (pss_one (ps_ret (pe_joined (PJ.cons (pe_fmt (pv 0)) (PJ.cons pe_str (PJ.cons (pe_fmt (pv 1)) PJ.nil)))))))))), ?_⟩)
  · obtain ⟨W, v, d, u, e, rfl, rfl, _⟩ := h
    rfl
  · obtain ⟨W, v, d, u, e, rfl, rfl, hv, hu, hz, kE, k⟩ := h
    walk_at "go"
    refine use_B1 hv hz fun W1 m1 => ?_
    walk_at "go"
    cases hl : isNm d with
    | false =>
      walk_at "go"
      exact kE (joinB_nm hl) W1 m1
    | true =>
      obtain ⟨z, rfl, hz2⟩ := isNm_str hl
      cases hv
      walk_at "go"
      have hu := hu.up m1
      cases hn : isNon e with
      | true =>
        obtain rfl := isNon_t hn
        cases hu
        walk_at "go"
        exact k hl _ W1 m1 (by rw [joinD_non hl]; exact .str)
      | false =>
        have hu2 : decide (u = .non) = false := isNon_f hn hu
        rw [hu2]
        walk_at "go"
        refine use_whole (d := e) hu ?_
        walk_at "go"
        cases hw : wholeB e 0 99 with
        | false =>
          walk_at "go"
          exact kE (joinB_f hn hw) W1 m1
        | true =>
          obtain ⟨j, rfl, hj⟩ := wholeB_int hw
          cases hu
          have hz3 := (nm_of hz2).2.2
          have hj2 := num_len (n := j) (k := 2) (by decide) (by omega)
          walk_at "go"
          refine or_fmtS (z := z) (sz (by omega)) ?_
          walk_at "go"
          refine ⟨by rw [emp_app]; exact sz (by omega), ?_⟩
          walk_at "go"
          refine ⟨by rw [emp_app, len_app]; exact sz (by show z.length + 1 ≤ _; omega), ?_⟩
          walk_at "go"
          refine or_fmtI (log2_small (by omega)) ?_
          walk_at "go"
          refine ⟨by rw [emp_app, len_app, len_app]; exact sz (by show z.length + 1 + _ ≤ _; omega), ?_⟩
          walk_at "go"
          rw [emp_app]
          exact k (by show (isNm _ && _) = true; rw [hl, hw]; rfl) _ W1 m1 (by rw [joinD_int hl hw]; exact .str)

abbrev s_law_big : Stmt := top 36
abbrev nn_law_big : List Str := ["store", "big", "k"]
theorem sc_law_big : FnScope nn_law_big ["store"] (defScope s_law_big) := ⟨rfl, rfl, rfl, by decide +kernel, rfl, by decide +kernel, by decide +kernel⟩
theorem can_law_big {Z : Env} (B : Std Z) (Df : DefAt Z "_law_big" s_law_big []) (c__law_take : Can Z CX0 2 "_law_take" ["store", "many"] [] (spTake Z.K)) : Can Z CX0 (3) "_law_big" ["store"] [] (spDraw Z.K (IsI Big)) := by
  refine can_of Df sc_law_big (fun vs H Q E h => ?_) (fun _ _ _ _ _ _ us hl => match us, hl with | [_], _ => rfl) (fun f cdv A outer s H vs Q E hr h => ⟨_, PSs.nox ((pss_cons (ps_set (i := 1) sc_law_big.nd rfl (Or.inl rfl) (pcall c__law_take hr (pa_cons (pv 0) (pa_cons pe_int pa_nil)) pass0)) (pss_cons (ps_for PassesOwn.never rfl (pi_range1 (by rfl) B.range (pa_cons (pcall c__law_take hr (pa_cons (pv 0) (pa_cons pe_int pa_nil)) pass0) pa_nil)) (pg_name (i := 2) sc_law_big.nd rfl (Or.inl rfl)) (pss_one (ps_set (i := 1) sc_law_big.nd rfl (Or.inl rfl) (pe_op o_add (pe_op o_mulU (pv 1) (pe_op o_pow pe_int pe_int)) (pcall c__law_take hr (pa_cons (pv 0) (pa_cons (pe_op o_pow pe_int pe_int) pa_nil)) pass0))))) (pss_one (ps_ret (pv 1)))))), ?_⟩)
  · obtain ⟨W, st, rfl, rfl, _⟩ := h
    rfl
  · obtain ⟨W, st, rfl, rfl, S, k⟩ := h
    walk_at "go"
    refine use_take S (by omega) fun b W1 m1 s1 b0 b1 => ?_
    walk_at "go"
    refine use_take s1 (by omega) fun n W2 m2 s2 n0 n1 => ?_
    walk_at "go"
    refine ⟨by omega, by omega, ?_⟩
    refine forR (fun i σ W3 => ∃ (x : Int) (u : Option V), σ = [some (.ref st), some (.int x), u] ∧ Mod [st] W W3 ∧ Sto Z.K st W3 ∧ 0 ≤ x ∧ x < 3 * 1000000000 ^ i) ⟨b, none, rfl, m1.trS m2, s2, b0, by simp; omega⟩ ?_ ?_
    · rintro i _ W3 hi ⟨x, u, rfl, m3, s3, x0, x1⟩
      walk_at "go"
      refine use_take s3 (by decide) fun t W4 m4 s4 t0 t1 => ?_
      walk_at "go"
      have e : (10 : Int) ^ (9 : Int).toNat = 1000000000 := by decide
      refine ⟨W4, rfl, _, _, rfl, m3.trS m4, s4, ?_, ?_⟩
      · rw [e]; omega
      · rw [e] at t1 ⊢
        rw [Int.pow_succ]
        generalize (1000000000 : Int) ^ i = X at x1 ⊢
        omega
    · rintro _ W3 ⟨x, u, rfl, m3, s3, x0, x1⟩
      walk_at "go"
      refine ret_draw k m3 s3 .int ⟨x, rfl, x0, ?_⟩
      have hn : n.toNat = 0 ∨ n.toNat = 1 ∨ n.toNat = 2 ∨ n.toNat = 3 ∨ n.toNat = 4 ∨ n.toNat = 5 ∨ n.toNat = 6 := by omega
      rcases hn with e | e | e | e | e | e | e <;> (rw [e] at x1; simp at x1; omega)

abbrev s_law_due : Stmt := top 52
abbrev nn_law_due : List Str := ["way", "value", "parts"]
theorem sc_law_due : FnScope nn_law_due ["way", "value"] (defScope s_law_due) := ⟨rfl, rfl, rfl, by decide +kernel, rfl, by decide +kernel, by decide +kernel⟩
theorem can_law_due {Z : Env} (B : Std Z) (Df : DefAt Z "_law_due" s_law_due []) (c__law_is_free : Can Z CX0 2 "_law_is_free" ["text"] [] (spB1 Z.K isFree Sz)) (c__law_is_letter : Can Z CX0 2 "_law_is_letter" ["text"] [] (spB1 Z.K isLet Sz)) (c__law_is_name : Can Z CX0 2 "_law_is_name" ["text"] [] (spB1 Z.K isNm Sz)) : Can Z CX0 (3) "_law_due" ["way", "value"] [] (spDue Z.K) := by
  refine can_of Df sc_law_due (fun vs H Q E h => ?_) (fun _ _ _ _ _ _ us hl => match us, hl with | [_, _], _ => rfl) (fun f cdv A outer s H vs Q E hr h => ⟨_, PSs.nox ((pss_cons (ps_if (pt_cmpR (k_eq Z.K (h64 hr)) (pv 0) pe_int (nomark _)) (pss_one (ps_ret (pcall c__law_is_name hr (pa_cons (pv 1) pa_nil) pass0))) pss_nil) (pss_cons (ps_if (pt_cmpR (k_eq Z.K (h64 hr)) (pv 0) pe_int (nomark _)) (pss_one (ps_ret (pcall c__law_is_free hr (pa_cons (pv 1) pa_nil) pass0))) pss_nil) (pss_cons (ps_if (pt_cmpR (k_eq Z.K (h64 hr)) (pv 0) pe_int (nomark _)) (pss_one (ps_ret (pcall c__law_is_letter hr (pa_cons (pv 1) pa_nil) pass0))) pss_nil) (pss_cons (ps_if (pt_not (pt_val (pcall c__law_is_letter hr (pa_cons (pv 1) pa_nil) pass0))) (pss_one (ps_ret (pe_tup (pa_cons pe_str (pa_cons pe_str pa_nil))))) pss_nil) (pss_cons (ps_if (pt_cmpR (k_notIn Z.K) pe_str (pv 1) (by rfl)) (pss_one (ps_ret (pe_tup (pa_cons (pv 1) (pa_cons pe_non pa_nil))))) pss_nil) (pss_cons (ps_set (i := 2) sc_law_due.nd rfl (Or.inl rfl) (k_split (pv 1) pe_str)) (pss_one (ps_ret (pe_tup (pa_cons (pe_ix (k_ix Z.K) (pv 2) pe_int (fun _ _ => rfl)) (pa_cons (pe_callTy c_int (by rfl) B.int (by decide +kernel) (pa_cons (pe_ix (k_ix Z.K) (pv 2) pe_int (fun _ _ => rfl)) pa_nil)) pa_nil)))))))))))), ?_⟩)
  · obtain ⟨W, way, v, d, rfl, rfl, _⟩ := h
    rfl
  · obtain ⟨W, way, v, d, rfl, rfl, hv, hz, k⟩ := h
    walk_at "go"
    refine iteD (fun h0 => ?_) (fun h0 => ?_)
    · walk_at "go"
      exact use_B1 hv hz fun W1 m1 => k _ W1 m1 (by rw [dueD, if_pos h0]; exact .bl)
    walk_at "go"
    refine iteD (fun h1 => ?_) (fun h1 => ?_)
    · walk_at "go"
      exact use_B1 hv hz fun W1 m1 => k _ W1 m1 (by rw [dueD, if_neg h0, if_pos h1]; exact .bl)
    walk_at "go"
    refine iteD (fun h2 => ?_) (fun h2 => ?_)
    · walk_at "go"
      exact use_B1 hv hz fun W1 m1 => k _ W1 m1 (by rw [dueD, if_neg h0, if_neg h1, if_pos h2]; exact .bl)
    have e : dueD way d = splD d := by rw [dueD, if_neg h0, if_neg h1, if_neg h2]
    rw [e] at k
    walk_at "go"
    refine use_B1 hv hz fun W1 m1 => ?_
    walk_at "go"
    cases hl : isLet d with
    | false =>
      walk_at "go"
      refine ⟨by walk_at "nat", mk_tup (K := Z.K) (by walk_at "rpl") fun p W2 m2 n2 _ q2 => ?_⟩
      exact k _ W2 (m1.tr0 m2) (by rw [splD_not hl]; exact q2)
    | true =>
      obtain ⟨z, rfl, hz2⟩ := isLet_str hl
      rw [splD_let hz2] at k
      have hz := hz z rfl
      cases hv
      walk_at "go"
      refine inSg0 (c := 46) ?_
      walk_at "go"
      by_cases hdot : 46 ∈ tl z
      · obtain ⟨a, b, rfl, ha⟩ := dot_split hdot
        rw [decide_eq_true (p := 46 ∈ (a ++ dot ++ b).cps.toList) hdot]
        rw [splZ_dot ha] at k
        rw [letZ_dot ha, Bool.and_eq_true] at hz2
        have hi := intText_short hz2.2
        obtain ⟨j, hj, rfl⟩ := shortB_iff.mp hz2.2
        walk_at "go"
        refine splitR (K := Z.K) (sz (by rw [len_app, len_app]; have h8 := (nm_of hz2.1).2.2; have h2 : (nums j).length ≤ 2 := num_len (n := j) (k := 2) (by decide) (by omega); show a.length + 1 + (nums j).length + 2 ≤ _; omega)) (by rfl) (split_dot ha (num_nodot j)) fun p W2 m2 n2 q2 => ?_
        walk_at "go"
        refine ixRL q2 (by decide) (d := .str a) rfl fun v hv => ?_
        cases hv
        walk_at "go"
        refine ixRL q2 (by decide) (d := .str (nums j)) rfl fun v hv => ?_
        cases hv
        walk_at "go"
        refine i_intS hi (by show (nums j).length ≤ 640; exact Nat.le_trans (num_len (n := j) (k := 2) (by decide) (by omega)) (by decide)) ?_
        walk_at "go"
        refine ⟨by walk_at "nat", mk_tup (K := Z.K) (by walk_at "rpl") fun p3 W3 m3 n3 _ q3 => ?_⟩
        exact k _ W3 (by walk_at "mod") q3
      · rw [decide_eq_false (p := 46 ∈ z.cps.toList) hdot]
        rw [splZ_none hdot] at k
        walk_at "go"
        refine ⟨by walk_at "nat", mk_tup (K := Z.K) (by walk_at "rpl") fun p3 W3 m3 n3 _ q3 => ?_⟩
        exact k _ W3 (by walk_at "mod") q3

abbrev s_law_error : Stmt := top 49
abbrev nn_law_error : List Str := ["e", "names", "flags", "own", "k"]
theorem sc_law_error : FnScope nn_law_error ["e"] (defScope s_law_error) := ⟨rfl, rfl, rfl, by decide +kernel, rfl, by decide +kernel, by decide +kernel⟩
theorem can_law_error {Z : Env} {n : Nat} (B : Std Z) (Df : DefAt Z "_law_error" s_law_error []) : CanE Z (n + 1) "_law_error" ["e"] (spErr Z) := by
  refine canE_of Df sc_law_error rfl (fun _ _ _ _ _ _ us hl => match us, hl with | [_], _ => rfl) (fun f cdv A outer s H Q p cls d hot hz hf hr h => ?_)
  obtain ⟨W, C, nm, rfl, rfl, rfl, R, k⟩ := h
  obtain ⟨C_BadMachine, g_BadMachine, e_BadMachine⟩ := R.row "BadMachine" (by simp)
  obtain ⟨C_BadNet, g_BadNet, e_BadNet⟩ := R.row "BadNet" (by simp)
  obtain ⟨C_BadStanding, g_BadStanding, e_BadStanding⟩ := R.row "BadStanding" (by simp)
  obtain ⟨C_BadWord, g_BadWord, e_BadWord⟩ := R.row "BadWord" (by simp)
  obtain ⟨C_BadText, g_BadText, e_BadText⟩ := R.row "BadText" (by simp)
  obtain ⟨C_BadWish, g_BadWish, e_BadWish⟩ := R.row "BadWish" (by simp)
  obtain ⟨C_BadPaper, g_BadPaper, e_BadPaper⟩ := R.row "BadPaper" (by simp)
  obtain ⟨C_Cannot, g_Cannot, e_Cannot⟩ := R.row "Cannot" (by simp)
  obtain ⟨C_Loud, g_Loud, e_Loud⟩ := R.row "Loud" (by simp)
  obtain ⟨C_NotCalm, g_NotCalm, e_NotCalm⟩ := R.row "NotCalm" (by simp)
  obtain ⟨C_NotThere, g_NotThere, e_NotThere⟩ := R.row "NotThere" (by simp)
  obtain ⟨C_NoJoin, g_NoJoin, e_NoJoin⟩ := R.row "NoJoin" (by simp)
  obtain ⟨C_TooMany, g_TooMany, e_TooMany⟩ := R.row "TooMany" (by simp)
  obtain ⟨C_Reserved, g_Reserved, e_Reserved⟩ := R.row "Reserved" (by simp)
  obtain ⟨C_Nothing, g_Nothing, e_Nothing⟩ := R.row "Nothing" (by simp)
  obtain ⟨C_OneError, g_OneError, e_OneError⟩ := R.one
  refine ⟨_, (pss_cons (ps_set (i := 1) sc_law_error.nd rfl (Or.inr rfl) (pe_lst (pa_cons pe_str (pa_cons pe_str (pa_cons pe_str (pa_cons pe_str (pa_cons pe_str (pa_cons pe_str (pa_cons pe_str (pa_cons pe_str (pa_cons pe_str (pa_cons pe_str (pa_cons pe_str (pa_cons pe_str (pa_cons pe_str (pa_cons pe_str (pa_cons pe_str pa_nil))))))))))))))))) (pss_cons (ps_set (i := 2) sc_law_error.nd rfl (Or.inr rfl) (pe_lst (pa_cons (pe_callB (isiE (p := p) (List.mem_singleton.mpr rfl) R.ex hz hf) (by rfl) B.isinstance (by decide +kernel) (pa_cons (pv 0) (pa_cons (pglob (v := .ref C_BadMachine) ⟨_, g_BadMachine, rfl⟩) pa_nil))) (pa_cons (pe_callB (isiE (p := p) (List.mem_singleton.mpr rfl) R.ex hz hf) (by rfl) B.isinstance (by decide +kernel) (pa_cons (pv 0) (pa_cons (pglob (v := .ref C_BadNet) ⟨_, g_BadNet, rfl⟩) pa_nil))) (pa_cons (pe_callB (isiE (p := p) (List.mem_singleton.mpr rfl) R.ex hz hf) (by rfl) B.isinstance (by decide +kernel) (pa_cons (pv 0) (pa_cons (pglob (v := .ref C_BadStanding) ⟨_, g_BadStanding, rfl⟩) pa_nil))) (pa_cons (pe_callB (isiE (p := p) (List.mem_singleton.mpr rfl) R.ex hz hf) (by rfl) B.isinstance (by decide +kernel) (pa_cons (pv 0) (pa_cons (pglob (v := .ref C_BadWord) ⟨_, g_BadWord, rfl⟩) pa_nil))) (pa_cons (pe_callB (isiE (p := p) (List.mem_singleton.mpr rfl) R.ex hz hf) (by rfl) B.isinstance (by decide +kernel) (pa_cons (pv 0) (pa_cons (pglob (v := .ref C_BadText) ⟨_, g_BadText, rfl⟩) pa_nil))) (pa_cons (pe_callB (isiE (p := p) (List.mem_singleton.mpr rfl) R.ex hz hf) (by rfl) B.isinstance (by decide +kernel) (pa_cons (pv 0) (pa_cons (pglob (v := .ref C_BadWish) ⟨_, g_BadWish, rfl⟩) pa_nil))) (pa_cons (pe_callB (isiE (p := p) (List.mem_singleton.mpr rfl) R.ex hz hf) (by rfl) B.isinstance (by decide +kernel) (pa_cons (pv 0) (pa_cons (pglob (v := .ref C_BadPaper) ⟨_, g_BadPaper, rfl⟩) pa_nil))) (pa_cons (pe_callB (isiE (p := p) (List.mem_singleton.mpr rfl) R.ex hz hf) (by rfl) B.isinstance (by decide +kernel) (pa_cons (pv 0) (pa_cons (pglob (v := .ref C_Cannot) ⟨_, g_Cannot, rfl⟩) pa_nil))) (pa_cons (pe_callB (isiE (p := p) (List.mem_singleton.mpr rfl) R.ex hz hf) (by rfl) B.isinstance (by decide +kernel) (pa_cons (pv 0) (pa_cons (pglob (v := .ref C_Loud) ⟨_, g_Loud, rfl⟩) pa_nil))) (pa_cons (pe_callB (isiE (p := p) (List.mem_singleton.mpr rfl) R.ex hz hf) (by rfl) B.isinstance (by decide +kernel) (pa_cons (pv 0) (pa_cons (pglob (v := .ref C_NotCalm) ⟨_, g_NotCalm, rfl⟩) pa_nil))) (pa_cons (pe_callB (isiE (p := p) (List.mem_singleton.mpr rfl) R.ex hz hf) (by rfl) B.isinstance (by decide +kernel) (pa_cons (pv 0) (pa_cons (pglob (v := .ref C_NotThere) ⟨_, g_NotThere, rfl⟩) pa_nil))) (pa_cons (pe_callB (isiE (p := p) (List.mem_singleton.mpr rfl) R.ex hz hf) (by rfl) B.isinstance (by decide +kernel) (pa_cons (pv 0) (pa_cons (pglob (v := .ref C_NoJoin) ⟨_, g_NoJoin, rfl⟩) pa_nil))) (pa_cons (pe_callB (isiE (p := p) (List.mem_singleton.mpr rfl) R.ex hz hf) (by rfl) B.isinstance (by decide +kernel) (pa_cons (pv 0) (pa_cons (pglob (v := .ref C_TooMany) ⟨_, g_TooMany, rfl⟩) pa_nil))) (pa_cons (pe_callB (isiE (p := p) (List.mem_singleton.mpr rfl) R.ex hz hf) (by rfl) B.isinstance (by decide +kernel) (pa_cons (pv 0) (pa_cons (pglob (v := .ref C_Reserved) ⟨_, g_Reserved, rfl⟩) pa_nil))) (pa_cons (pe_callB (isiE (p := p) (List.mem_singleton.mpr rfl) R.ex hz hf) (by rfl) B.isinstance (by decide +kernel) (pa_cons (pv 0) (pa_cons (pglob (v := .ref C_Nothing) ⟨_, g_Nothing, rfl⟩) pa_nil))) pa_nil))))))))))))))))) (pss_cons (ps_setLcH (p := p) (i := 3) (own := [("k", 4)]) (g := gName 4) hot (List.mem_singleton.mpr rfl) sc_law_error.nd rfl rfl (sw_true rfl rfl rfl (by decide +kernel)) (L2H.pi_range1H (by rfl) B.range (pa_cons pe_int pa_nil)) (blkOk_by (own := [("k", 4)]) (N := nn_law_error) (sc := defScope s_law_error) (by decide +kernel)) (fun _ _ _ _ _ => (pg_name (i := 4) sc_law_error.nd rfl (Or.inl rfl))) (fun _ _ _ _ _ => (pts_one (pt_val (pe_ix (k_ix Z.K) (pv 2) (pv 4) (fun _ _ => rfl))))) (fun _ _ _ _ _ => (pe_ix (k_ix Z.K) (pv 1) (pv 4) (fun _ _ => rfl)))) (pss_cons (ps_if (PW.pt (pw_or (pt_cmpR (k_ne Z.K (h64H hr)) (pe_callB (k_len Z.K) (by rfl) B.len (by decide +kernel) (pa_cons (pv 3) pa_nil)) pe_int (nomark _)) (pw_or (pt_not (pt_val (pe_callB (isiE (p := p) (List.mem_singleton.mpr rfl) R.ex hz hf) (by rfl) B.isinstance (by decide +kernel) (pa_cons (pv 0) (pa_cons (pglob (v := .ref C_OneError) ⟨_, g_OneError, rfl⟩) pa_nil))))) (pw_or1 (pt_not (pt_val (pe_callB (isiE (p := p) (List.mem_singleton.mpr rfl) R.ex hz hf) (by rfl) B.isinstance (by decide +kernel) (pa_cons (pv 0) (pa_cons (pe_bltn (v := .ty "ValueError") (by rfl) B.ValueError (by decide +kernel) rfl) pa_nil))))))))) (pss_one (ps_ret (pe_tup (pa_cons pe_str (pa_cons pe_str pa_nil))))) pss_nil) (pss_one (ps_ret (pe_tup (pa_cons pe_str (pa_cons (pe_ix (k_ix Z.K) (pv 3) pe_int (fun _ _ => rfl)) pa_nil))))))))), ?_⟩
  · walk_at "go"
    refine ⟨by walk_at "nat", mk_lst (K := Z.K) (ds := errNs.map D.str) (by walk_at "rpl") fun p1 W1 m1 n1 q1 => ?_⟩
    walk_at "go"
    refine i_isE (c := C_BadMachine) e_BadMachine ?_
    walk_at "go"
    refine i_isE (c := C_BadNet) e_BadNet ?_
    walk_at "go"
    refine i_isE (c := C_BadStanding) e_BadStanding ?_
    walk_at "go"
    refine i_isE (c := C_BadWord) e_BadWord ?_
    walk_at "go"
    refine i_isE (c := C_BadText) e_BadText ?_
    walk_at "go"
    refine i_isE (c := C_BadWish) e_BadWish ?_
    walk_at "go"
    refine i_isE (c := C_BadPaper) e_BadPaper ?_
    walk_at "go"
    refine i_isE (c := C_Cannot) e_Cannot ?_
    walk_at "go"
    refine i_isE (c := C_Loud) e_Loud ?_
    walk_at "go"
    refine i_isE (c := C_NotCalm) e_NotCalm ?_
    walk_at "go"
    refine i_isE (c := C_NotThere) e_NotThere ?_
    walk_at "go"
    refine i_isE (c := C_NoJoin) e_NoJoin ?_
    walk_at "go"
    refine i_isE (c := C_TooMany) e_TooMany ?_
    walk_at "go"
    refine i_isE (c := C_Reserved) e_Reserved ?_
    walk_at "go"
    refine i_isE (c := C_Nothing) e_Nothing ?_
    walk_at "go"
    refine ⟨by walk_at "nat", mk_lst (K := Z.K) (ds := errNs.map fun x => D.bl (decide (x = Str.ofString nm))) (by walk_at "rpl") fun p2 W2 m2 n2 q2 => ?_⟩
    have q1 := q1.up m2
    walk_at "go"
    refine ⟨by omega, by omega, fun p3 n3 => ?_⟩
    refine lcR (X := []) n3 (fun _ h => nomatch h) (fun i W3 xs => xs = ((errNs.take i).filter fun x => decide (x = Str.ofString nm)).map V.str) (fun _ => rfl) (fun _ _ _ => rfl) ?_ ?_
    · rintro i W3 xs hi m3 o3 hl rfl
      have hi : i < errNs.length := hi
      have ei : errNs[i]? = some errNs[i] := List.getElem?_eq_getElem hi
      walk_at "go"
      refine ixRL (i := 0 + (i : Int)) (d := .bl (decide (errNs[i] = Str.ofString nm))) (q2.up m3) (by omega) (by rw [Int.zero_add, Int.toNat_natCast, List.getElem?_map, ei]; rfl) fun v hv => ?_
      cases hv
      walk_at "go"
      refine iteD (fun hb => ?_) (fun hb => ?_)
      · walk_at "go"
        refine ixRL (i := 0 + (i : Int)) (d := .str errNs[i]) (q1.up m3) (by omega) (by rw [Int.zero_add, Int.toNat_natCast, List.getElem?_map, ei]; rfl) fun v hv => ?_
        cases hv
        refine lc_give n3 (by have : errNs.length = 15 := rfl; omega) m3 o3 hl fun W4 m4 o4 => ?_
        rw [List.take_add_one, ei, List.filter_append, List.map_append]
        show _ = _ ++ List.map V.str (List.filter _ [errNs[i]])
        rw [fil_t (P := fun x => decide (x = Str.ofString nm)) (decide_eq_true hb)]
        rfl
      · refine lc_skip m3 o3 hl ?_
        rw [List.take_add_one, ei, List.filter_append]
        show _ = List.map V.str (_ ++ List.filter _ [errNs[i]])
        rw [fil_f (P := fun x => decide (x = Str.ofString nm)) (decide_eq_false hb), List.append_nil]
    · rintro W3 xs m3 o3 hl rfl
      rw [show errNs.take ((15 : Int)).toNat = errNs from rfl, err_one R.mem] at o3
      walk_at "go"
      refine iteND (fun h => absurd (show ((1 : Nat) : Int) = 1 from rfl) h) fun _ => ?_
      walk_at "go"
      refine i_isE (c := C_OneError) e_OneError ?_
      walk_at "go"
      refine i_isEt R.val ?_
      walk_at "go"
      refine ⟨by walk_at "nat", mk_tup (K := Z.K) (by walk_at "rpl") fun p4 W4 m4 n4 _ q4 => ?_⟩
      exact k p4 W4 (((m1.tr0 m2).tr0 m3).tr0 m4) q4

abbrev s_law_number : Stmt := top 34
abbrev nn_law_number : List Str := ["store", "low", "high", "way"]
theorem sc_law_number : FnScope nn_law_number ["store", "low", "high"] (defScope s_law_number) := ⟨rfl, rfl, rfl, by decide +kernel, rfl, by decide +kernel, by decide +kernel⟩
theorem can_law_number {Z : Env} (B : Std Z) (Df : DefAt Z "_law_number" s_law_number []) (c__law_take : Can Z CX0 2 "_law_take" ["store", "many"] [] (spTake Z.K)) : Can Z CX0 (3) "_law_number" ["store", "low", "high"] [] (spNumber Z.K) := by
  refine can_of Df sc_law_number (fun vs H Q E h => ?_) (fun _ _ _ _ _ _ us hl => match us, hl with | [_, _, _], _ => rfl) (fun f cdv A outer s H vs Q E hr h => ⟨_, PSs.nox ((pss_cons (ps_if (pt_cmpR o_le (pv 2) (pv 1) (nomark _)) (pss_one (ps_ret (pv 1))) pss_nil) (pss_cons (ps_set (i := 3) sc_law_number.nd rfl (Or.inl rfl) (pcall c__law_take hr (pa_cons (pv 0) (pa_cons pe_int pa_nil)) pass0)) (pss_cons (ps_if (pt_cmpR (k_eq Z.K (h64 hr)) (pv 3) pe_int (nomark _)) (pss_one (ps_ret (pv 1))) pss_nil) (pss_cons (ps_if (pt_cmpR (k_eq Z.K (h64 hr)) (pv 3) pe_int (nomark _)) (pss_one (ps_ret (pv 2))) pss_nil) (pss_cons (ps_if (pt_cmpR (k_eq Z.K (h64 hr)) (pv 3) pe_int (nomark _)) (pss_one (ps_ret (pe_op o_add (pv 1) pe_int))) pss_nil) (pss_one (ps_ret (pe_op o_add (pv 1) (pcall c__law_take hr (pa_cons (pv 0) (pa_cons (pe_op o_add (pe_op o_sub (pv 2) (pv 1)) pe_int) pa_nil)) pass0)))))))))), ?_⟩)
  · obtain ⟨W, st, lo, hi, rfl, rfl, _⟩ := h
    rfl
  · obtain ⟨W, st, lo, hi, rfl, rfl, S, hm, k⟩ := h
    walk_at "go"
    refine iteD (fun h2 => ?_) (fun h2 => ?_)
    · walk_at "go"
      exact k _ _ (by walk_at "mod") S (by omega) (by omega)
    · walk_at "go"
      refine use_take S (by omega) fun r W1 m1 s1 r0 r1 => ?_
      walk_at "go"
      refine iteD (fun h3 => ?_) (fun h3 => ?_)
      · walk_at "go"
        exact k _ _ m1 s1 (by omega) (by omega)
      walk_at "go"
      refine iteD (fun h4 => ?_) (fun h4 => ?_)
      · walk_at "go"
        exact k _ _ m1 s1 (by omega) (by omega)
      walk_at "go"
      refine iteD (fun h5 => ?_) (fun h5 => ?_)
      · walk_at "go"
        exact k _ _ m1 s1 (by omega) (by omega)
      walk_at "go"
      refine use_take s1 (by omega) fun q W2 m2 s2 q0 q1 => ?_
      walk_at "go"
      exact k _ _ (by walk_at "mod") s2 (by omega) (by omega)

abbrev s_law_pick : Stmt := top 35
abbrev nn_law_pick : List Str := ["store", "row"]
theorem sc_law_pick : FnScope nn_law_pick ["store", "row"] (defScope s_law_pick) := ⟨rfl, rfl, rfl, by decide +kernel, rfl, by decide +kernel, by decide +kernel⟩
theorem can_law_pick {Z : Env} (B : Std Z) (Df : DefAt Z "_law_pick" s_law_pick []) (c__law_take : Can Z CX0 2 "_law_take" ["store", "many"] [] (spTake Z.K)) : Can Z CX0 (3) "_law_pick" ["store", "row"] [] (spPick Z.K) := by
  refine can_of Df sc_law_pick (fun vs H Q E h => ?_) (fun _ _ _ _ _ _ us hl => match us, hl with | [_, _], _ => rfl) (fun f cdv A outer s H vs Q E hr h => ⟨_, PSs.nox ((pss_one (ps_ret (pe_ix (k_ix Z.K) (pv 1) (pcall c__law_take hr (pa_cons (pv 0) (pa_cons (pe_callB (k_len Z.K) (by rfl) B.len (by decide +kernel) (pa_cons (pv 1) pa_nil)) pa_nil)) pass0) (fun _ _ => rfl))))), ?_⟩)
  · obtain ⟨W, st, v, ds, rfl, rfl, _⟩ := h
    rfl
  · obtain ⟨W, st, v, ds, rfl, rfl, S, hv, hn, hl, k⟩ := h
    have hl0 : 0 < ds.length := List.length_pos_iff.mpr hn
    rcases hv with hv | hv
    · obtain ⟨p, rfl⟩ : ∃ p, v = .ref p := by cases hv; exact ⟨_, rfl⟩
      walk_at "go"
      refine use_take S (by omega) fun r W1 m1 s1 r0 r1 => ?_
      have hd : ds[r.toNat]? = some ds[r.toNat] := List.getElem?_eq_getElem (by omega)
      refine ixRL (by walk_at "rp") r0 hd fun u hu => ?_
      exact k _ _ _ m1 s1 (List.getElem_mem _) hu
    · obtain ⟨p, rfl⟩ : ∃ p, v = .ref p := by cases hv; exact ⟨_, rfl⟩
      walk_at "go"
      refine use_take S (by omega) fun r W1 m1 s1 r0 r1 => ?_
      have hd : ds[r.toNat]? = some ds[r.toNat] := List.getElem?_eq_getElem (by omega)
      refine ixRT (by walk_at "rp") r0 hd fun u hu => ?_
      exact k _ _ _ m1 s1 (List.getElem_mem _) hu

abbrev s_law_spell : Stmt := top 38
abbrev nn_law_spell : List Str := ["store", "size", "k"]
theorem sc_law_spell : FnScope nn_law_spell ["store", "size"] (defScope s_law_spell) := ⟨rfl, rfl, rfl, by decide +kernel, rfl, by decide +kernel, by decide +kernel⟩
theorem can_law_spell {Z : Env} (B : Std Z) (Df : DefAt Z "_law_spell" s_law_spell []) (c__law_take : Can Z CX0 2 "_law_take" ["store", "many"] [] (spTake Z.K)) : Can Z CX0 (3) "_law_spell" ["store", "size"] [] (spSpell Z.K) := by
  refine can_of Df sc_law_spell (fun vs H Q E h => ?_) (fun _ _ _ _ _ _ us hl => match us, hl with | [_, _], _ => rfl) (fun f cdv A outer s H vs Q E hr h => ⟨_, PSs.nox ((pss_one (ps_ret (k_join Z.K pe_str (pe_lc (own := [("k", 2)]) (g := gName 2) (tt := tYes) (by rfl) sc_law_spell.nd (pi_range1 (by rfl) B.range (pa_cons (pv 1) pa_nil)) (blkOk_by (own := [("k", 2)]) (N := nn_law_spell) (sc := defScope s_law_spell) (by decide +kernel)) (fun _ _ _ _ _ => (pg_name (i := 2) sc_law_spell.nd rfl (Or.inl rfl))) (fun _ _ _ _ _ => pts_nil) (fun _ _ _ _ _ => (pe_ix (k_ix Z.K) pe_str (pcall c__law_take hr (pa_cons (pv 0) (pa_cons pe_int pa_nil)) pass0) (fun _ _ => rfl)))))))), ?_⟩)
  · obtain ⟨W, st, n, rfl, rfl, _⟩ := h
    rfl
  · obtain ⟨W, st, n, rfl, rfl, S, h0, hm, k⟩ := h
    walk_at "go"
    refine ⟨by omega, by omega, fun p hp => ?_⟩
    refine lcR (X := [st]) hp (fun a ha => by rw [List.mem_singleton.mp ha]; exact S.inM) (fun i W1 xs => Sto Z.K st W1 ∧ ∃ zs : List Nat, zs.length = i ∧ (∀ c ∈ zs, low c) ∧ xs = (zs.map sg).map V.str) (fun _ => rfl) (fun W1 m1 o1 => ⟨S.up m1 (by walk_at "ne"), [], rfl, (fun _ h => nomatch h), rfl⟩) ?_ ?_
    · rintro i W1 xs hi m1 o1 hl ⟨s1, zs, e1, e2, rfl⟩
      walk_at "go"
      refine use_take s1 (by omega) fun r W2 m2 s2 r0 r1 => ?_
      obtain ⟨c, hc, hlow⟩ := abc_at r0 (show r < 26 by omega)
      refine ixS (sz (by decide)) hc ?_
      refine lc_give hp (by omega) (m1.trS m2) (o1.up m2 (m1.notin hp)) hl fun W4 m4 o4 => ⟨s2.up m4 (by intro h; exact S.ne hp (List.mem_singleton.mp h)), zs ++ [c], by simp [e1], ?_, by simp⟩
      intro d hd
      rcases List.mem_append.mp hd with hd | hd
      · exact e2 d hd
      · rw [List.mem_singleton.mp hd]; exact hlow
    · rintro W1 xs m1 o1 hl ⟨s1, zs, e1, e2, rfl⟩
      refine ⟨_, p, zs.map sg, rfl, rfl, .inl o1.sq, ?_, ?_⟩
      · rw [sum_sg, List.length_map]
        show zs.length + zs.length * 0 ≤ _
        omega
      · refine k _ W1 m1 s1 ?_ ?_
        · rw [len_tl, tl_join_sg]; omega
        · intro c hc
          have hc2 : c ∈ tl (Txt.join (Str.ofString "") (zs.map sg)) := hc
          rw [tl_join_sg] at hc2
          exact e2 c hc2

abbrev s_split_letter : Stmt := top 28
abbrev nn_split_letter : List Str := ["text", "name", "dot", "rest"]
theorem sc_split_letter : FnScope nn_split_letter ["text"] (defScope s_split_letter) := ⟨rfl, rfl, rfl, by decide +kernel, rfl, by decide +kernel, by decide +kernel⟩
theorem can_split_letter {Z : Env} (B : Std Z) (Df : DefAt Z "split_letter" s_split_letter []) {C_BadWord : Addr} (e_BadWord : ErrC Z "BadWord" C_BadWord) (c_good_letter : Can Z CX0 2 "good_letter" ["text"] [] (spB1 Z.K isLet Sz)) : Can Z (CXn Z) (3) "split_letter" ["text"] [] (spSplit Z.K C_BadWord) := by
  refine can_of Df sc_split_letter (fun vs H Q E h => ?_) (fun _ _ _ _ _ _ us hl => match us, hl with | [_], _ => rfl) (fun f cdv A outer s H vs Q E hr h => ⟨_, ((pss_cons (ps_if (pt_not (pt_val (pcall c_good_letter hr (pa_cons (pv 0) pa_nil) pass0))) (pss_one (L2N.ps_raise rfl (L2N.takes_of rfl rfl rfl rfl) (pmkE e_BadWord))) pss_nil) (pss_cons (ps_asg (k_partition (pv 0) pe_str) (k_tup Z.K (by rfl) (pgs_cons (pg_name (i := 1) sc_split_letter.nd rfl (Or.inl rfl)) (pgs_cons (pg_name (i := 2) sc_split_letter.nd rfl (Or.inl rfl)) (pgs_cons (pg_name (i := 3) sc_split_letter.nd rfl (Or.inl rfl)) pgs_nil))))) (pss_cons (ps_if (pt_cmpR (k_eq Z.K (h64 hr)) (pv 2) pe_str (nomark _)) (pss_one (ps_ret (pe_tup (pa_cons (pv 1) (pa_cons pe_non pa_nil))))) pss_nil) (pss_one (ps_ret (pe_tup (pa_cons (pv 1) (pa_cons (pe_callTy c_int (by rfl) B.int (by decide +kernel) (pa_cons (pv 3) pa_nil)) pa_nil))))))))), ?_⟩)
  · obtain ⟨W, v, d, rfl, rfl, _⟩ := h
    rfl
  · obtain ⟨W, v, d, rfl, rfl, hv, hz, kE, k⟩ := h
    walk_at "go"
    refine use_B1 hv hz fun W1 m1 => ?_
    walk_at "go"
    cases hl : isLet d with
    | false =>
      walk_at "go"
      exact kE hl W1 m1
    | true =>
      obtain ⟨z, rfl, hz2⟩ := isLet_str hl
      have k := k hl
      rw [splD_let hz2] at k
      have hz := hz z rfl
      cases hv
      walk_at "go"
      refine partS (K := Z.K) (by rfl) (sz hz) fun p W2 m2 n2 q2 => ?_
      walk_at "go"
      by_cases hdot : 46 ∈ tl z
      · obtain ⟨a, b, rfl, ha⟩ := dot_split hdot
        rw [splZ_dot ha] at k
        rw [letZ_dot ha, Bool.and_eq_true] at hz2
        rw [part_dot ha]
        refine iteD (fun h => absurd (show dot = Str.ofString "" from h) (by decide)) fun _ => ?_
        walk_at "go"
        obtain ⟨j, hj, ej⟩ := shortB_iff.mp hz2.2
        refine i_intS (intText_short hz2.2) (by show b.length ≤ 640; rw [ej]; exact Nat.le_trans (num_len (n := j) (k := 2) (by decide) (by omega)) (by decide)) ?_
        walk_at "go"
        refine ⟨by walk_at "nat", mk_tup (K := Z.K) (by walk_at "rpl") fun p3 W3 m3 n3 _ q3 => ?_⟩
        exact k _ W3 (by walk_at "mod") q3
      · rw [splZ_none hdot] at k
        rw [part_none hdot]
        refine iteD (fun _ => ?_) fun h => absurd rfl h
        walk_at "go"
        refine ⟨by walk_at "nat", mk_tup (K := Z.K) (by walk_at "rpl") fun p3 W3 m3 n3 _ q3 => ?_⟩
        exact k _ W3 (by walk_at "mod") q3

abbrev s_law_joined : Stmt := top 53
abbrev nn_law_joined : List Str := ["parts", "e"]
theorem sc_law_joined : FnScope nn_law_joined ["parts"] (defScope s_law_joined) := ⟨rfl, rfl, rfl, by decide +kernel, rfl, by decide +kernel, by decide +kernel⟩
theorem can_law_joined {Z : Env} (B : Std Z) (Df : DefAt Z "_law_joined" s_law_joined []) {K_OneError : Addr} (k_OneError : CatC Z "OneError" K_OneError) (c__law_error : CanE Z 3 "_law_error" ["e"] (spErr Z)) {C_BadWord : Addr} (c_join_letter_1 : Can Z (CXn Z) 3 "join_letter" ["name", "number"] [.non] (spJoin Z.K C_BadWord)) (c_join_letter_2 : Can Z (CXn Z) 3 "join_letter" ["name", "number"] [] (spJoin Z.K C_BadWord)) (m_BadWord : PySem.W.exmOne Z.K (.ref C_BadWord) (.ref K_OneError) = some true) (r_BadWord : ErrRow Z C_BadWord (Str.ofString "BadWord") errNs) : Can Z CX0 (4) "_law_joined" ["parts"] [] (spJDue Z.K) := by
  refine can_of Df sc_law_joined (fun vs H Q E h => ?_) (fun _ _ _ _ _ _ us hl => match us, hl with | [_], _ => rfl) (fun f cdv A outer s H vs Q E hr h => ⟨_, PSs.nox ((pss_one (L2N.ps_try_as (i := 1) rfl rfl sc_law_joined.nd rfl rfl ⟨by rfl, by decide, Or.inl k_OneError.gl⟩ takesN (fun W pn xe tk _ => (pss_cons (ps_if (pt_cmpR (k_eq Z.K (h64 hr)) (pe_callB (k_len Z.K) (by rfl) B.len (by decide +kernel) (pa_cons (pv 0) pa_nil)) pe_int (nomark _)) (pss_one (ps_ret (pcallT tk c_join_letter_1 hr (pa_cons (pe_ix (k_ix Z.K) (pv 0) pe_int (fun _ _ => rfl)) pa_nil)))) pss_nil) (pss_one (ps_ret (pcallT tk c_join_letter_2 hr (pa_cons (pe_ix (k_ix Z.K) (pv 0) pe_int (fun _ _ => rfl)) (pa_cons (pe_ix (k_ix Z.K) (pv 0) pe_int (fun _ _ => rfl)) pa_nil))))))) (fun a oe cls d pn hz hf => (pss_one (ps_ret (pcallE c__law_error hr hz hf (pv 1)))))))), ?_⟩)
  · obtain ⟨W, p, d, es, rfl, rfl, _⟩ := h
    rfl
  · obtain ⟨W, p, d, es, rfl, rfl, hv, hl, hz, k⟩ := h
    walk_at "go"
    match es, hl with
    | [], _ =>
      have k : ∀ r W', Mod [] W W' → Rp Z.K W' r (joinD d .non) → Q r W'.H := k
      walk_at "go"
      refine iteD (fun _ => ?_) fun h => absurd rfl h
      walk_at "go"
      refine ixRL hv (by decide) (d := d) rfl fun v hd => ?_
      walk_at "go"
      refine ⟨W, v, d, .non, .non, rfl, rfl, hd, .non, hz, fun hl W1 m1 => ?_, fun hl r W1 m1 q1 => k _ W1 m1 q1⟩
      exact caught m_BadWord r_BadWord (show 1 < 2 by decide) fun p W2 m2 q2 => k _ W2 (m1.tr0 m2) (by rw [joinD_not hl]; exact q2)
    | [e], _ =>
      have k : ∀ r W', Mod [] W W' → Rp Z.K W' r (joinD d e) → Q r W'.H := k
      walk_at "go"
      refine iteD (fun h => absurd (show ((2 : Nat) : Int) = 1 from h) (by decide)) fun _ => ?_
      walk_at "go"
      refine ixRL hv (by decide) (d := d) rfl fun v hd => ?_
      walk_at "go"
      refine ixRL hv (by decide) (d := e) rfl fun u hu => ?_
      walk_at "go"
      refine ⟨W, v, d, u, e, rfl, rfl, hd, hu, hz, fun hl W1 m1 => ?_, fun hl r W1 m1 q1 => k _ W1 m1 q1⟩
      exact caught m_BadWord r_BadWord (show 1 < 2 by decide) fun p W2 m2 q2 => k _ W2 (m1.tr0 m2) (by rw [joinD_not hl]; exact q2)

abbrev s_law_name : Stmt := top 40
abbrev nn_law_name : List Str := ["store", "way"]
theorem sc_law_name : FnScope nn_law_name ["store"] (defScope s_law_name) := ⟨rfl, rfl, rfl, by decide +kernel, rfl, by decide +kernel, by decide +kernel⟩
theorem can_law_name {Z : Env} (B : Std Z) (Df : DefAt Z "_law_name" s_law_name []) (c__law_number : Can Z CX0 3 "_law_number" ["store", "low", "high"] [] (spNumber Z.K)) (c__law_pick : Can Z CX0 3 "_law_pick" ["store", "row"] [] (spPick Z.K)) (c__law_reserved : Can Z CX0 3 "_law_reserved" [] [] (spNew Z.K resDs)) (c__law_spell : Can Z CX0 3 "_law_spell" ["store", "size"] [] (spSpell Z.K)) (c__law_take : Can Z CX0 3 "_law_take" ["store", "many"] [] (spTake Z.K)) : Can Z CX0 (4) "_law_name" ["store"] [] (spDraw Z.K (IsS Nm)) := by
  refine can_of Df sc_law_name (fun vs H Q E h => ?_) (fun _ _ _ _ _ _ us hl => match us, hl with | [_], _ => rfl) (fun f cdv A outer s H vs Q E hr h => ⟨_, PSs.nox ((pss_cons (ps_set (i := 1) sc_law_name.nd rfl (Or.inl rfl) (pcall c__law_take hr (pa_cons (pv 0) (pa_cons pe_int pa_nil)) pass0)) (pss_cons (ps_if (pt_cmpR (k_eq Z.K (h64 hr)) (pv 1) pe_int (nomark _)) (pss_one (ps_ret (pcall c__law_pick hr (pa_cons (pv 0) (pa_cons (pcall0 c__law_reserved hr pass0) pa_nil)) pass0))) pss_nil) (pss_cons (ps_if (pt_cmpR o_lt (pv 1) pe_int (nomark _)) (pss_one (ps_ret (pcall c__law_pick hr (pa_cons (pv 0) (pa_cons (pe_lst (pa_cons pe_str (pa_cons pe_str (pa_cons pe_str (pa_cons pe_str (pa_cons pe_str (pa_cons pe_str (pa_cons pe_str (pa_cons pe_str (pa_cons pe_str (pa_cons pe_str (pa_cons pe_str (pa_cons pe_str (pa_cons pe_str (pa_cons pe_str (pa_cons pe_str (pa_cons pe_str (pa_cons pe_str (pa_cons pe_str (pa_cons pe_str (pa_cons pe_str (pa_cons pe_str (pa_cons pe_str (pa_cons pe_str (pa_cons pe_str (pa_cons pe_str (pa_cons pe_str (pa_cons pe_str (pa_cons pe_str pa_nil))))))))))))))))))))))))))))) pa_nil)) pass0))) pss_nil) (pss_one (ps_ret (pcall c__law_spell hr (pa_cons (pv 0) (pa_cons (pcall c__law_number hr (pa_cons (pv 0) (pa_cons pe_int (pa_cons pe_int pa_nil))) pass0) pa_nil)) pass0))))))), ?_⟩)
  · obtain ⟨W, st, rfl, rfl, _⟩ := h
    rfl
  · obtain ⟨W, st, rfl, rfl, S, k⟩ := h
    walk_at "go"
    refine use_take S (by omega) fun r W1 m1 s1 r0 r1 => ?_
    walk_at "go"
    refine iteD (fun h => ?_) (fun h => ?_)
    · walk_at "go"
      refine use_new fun p W2 m2 n2 q2 => ?_
      walk_at "go"
      refine use_pick (s1.up m2 (by walk_at "ne")) q2 (by decide) (by decide) fun v d W3 m3 s3 hd hv => ?_
      obtain ⟨z, rfl, hz⟩ := allStr_mem (P := nmB) (by decide +kernel) hd
      cases hv
      exact ret_drawS k ((m1.tr0 m2).trS m3) s3 (nm_of hz)
    · walk_at "go"
      refine iteD (fun h => ?_) (fun h => ?_)
      · walk_at "go"
        refine ⟨by walk_at "nat", mk_lst (K := Z.K) (by walk_at "rpl") fun p W2 m2 n2 q2 => ?_⟩
        walk_at "go"
        refine use_pick (s1.up m2 (by walk_at "ne")) q2 (by simp) (by simp) fun v d W3 m3 s3 hd hv => ?_
        obtain ⟨z, rfl, hz⟩ := allStr_mem (P := nmB) (by decide +kernel) hd
        cases hv
        exact ret_drawS k ((m1.tr0 m2).trS m3) s3 (nm_of hz)
      · walk_at "go"
        refine use_number s1 (by omega) fun n W2 m2 s2 n0 n1 => ?_
        walk_at "go"
        refine use_spell s2 (by omega) (by omega) fun z W3 m3 s3 z1 z2 => ?_
        exact ret_drawS k ((m1.trS m2).trS m3) s3 ⟨z2, by omega, by omega⟩

abbrev s_law_letter : Stmt := top 41
abbrev nn_law_letter : List Str := ["store", "name"]
theorem sc_law_letter : FnScope nn_law_letter ["store"] (defScope s_law_letter) := ⟨rfl, rfl, rfl, by decide +kernel, rfl, by decide +kernel, by decide +kernel⟩
theorem can_law_letter {Z : Env} (B : Std Z) (Df : DefAt Z "_law_letter" s_law_letter []) (c__law_name : Can Z CX0 4 "_law_name" ["store"] [] (spDraw Z.K (IsS Nm))) (c__law_number : Can Z CX0 4 "_law_number" ["store", "low", "high"] [] (spNumber Z.K)) (c__law_take : Can Z CX0 4 "_law_take" ["store", "many"] [] (spTake Z.K)) : Can Z CX0 (5) "_law_letter" ["store"] [] (spDraw Z.K (IsS Lt)) := by
  refine can_of Df sc_law_letter (fun vs H Q E h => ?_) (fun _ _ _ _ _ _ us hl => match us, hl with | [_], _ => rfl) (fun f cdv A outer s H vs Q E hr h => ⟨_, PSs.nox ((pss_cons (ps_set (i := 1) sc_law_letter.nd rfl (Or.inl rfl) (pcall c__law_name hr (pa_cons (pv 0) pa_nil) pass0)) (pss_cons (ps_if (pt_cmpR (k_eq Z.K (h64 hr)) (pcall c__law_take hr (pa_cons (pv 0) (pa_cons pe_int pa_nil)) pass0) pe_int (nomark _)) (pss_one (ps_ret (pv 1))) pss_nil) (pss_one (ps_ret (pe_op o_add (pe_op o_add (pv 1) pe_str) (pe_callTy c_str (by rfl) B.str (by decide +kernel) (pa_cons (pcall c__law_number hr (pa_cons (pv 0) (pa_cons pe_int (pa_cons pe_int pa_nil))) pass0) pa_nil)))))))), ?_⟩)
  · obtain ⟨W, st, rfl, rfl, _⟩ := h
    rfl
  · obtain ⟨W, st, rfl, rfl, S, k⟩ := h
    walk_at "go"
    refine use_drawS S fun nm W1 m1 s1 hn => ?_
    walk_at "go"
    refine use_take s1 (by omega) fun r W2 m2 s2 r0 r1 => ?_
    walk_at "go"
    refine iteD (fun h => ?_) (fun h => ?_)
    · walk_at "go"
      exact ret_drawS k (m1.trS m2) s2 ⟨nm, hn, .inl rfl⟩
    · walk_at "go"
      have h1 : (Str.ofString ".").length = 1 := rfl
      have h2 := hn.2.2
      refine i_addS (sz (by omega)) ?_
      walk_at "go"
      refine use_number s2 (by omega) fun n W3 m3 s3 n0 n1 => ?_
      walk_at "go"
      obtain ⟨j, rfl⟩ := Int.eq_ofNat_of_zero_le n0
      refine i_str (log2_small (by omega)) ?_
      have h3 := num_len (n := j) (k := 2) (by decide) (by omega)
      refine i_addS (sz (by rw [len_app]; omega)) ?_
      exact ret_drawS k ((m1.trS m2).trS m3) s3 ⟨nm, hn, .inr ⟨j, by omega, rfl⟩⟩

abbrev s_law_told : Stmt := top 51
abbrev nn_law_told : List Str := ["way", "value", "e"]
theorem sc_law_told : FnScope nn_law_told ["way", "value"] (defScope s_law_told) := ⟨rfl, rfl, rfl, by decide +kernel, rfl, by decide +kernel, by decide +kernel⟩
theorem can_law_told {Z : Env} (B : Std Z) (Df : DefAt Z "_law_told" s_law_told []) {K_OneError : Addr} (k_OneError : CatC Z "OneError" K_OneError) (c__law_error : CanE Z 4 "_law_error" ["e"] (spErr Z)) (c_free_name : Can Z CX0 4 "free_name" ["text"] [] (spB1 Z.K isFree Sz)) (c_good_letter : Can Z CX0 4 "good_letter" ["text"] [] (spB1 Z.K isLet Sz)) (c_good_name : Can Z CX0 4 "good_name" ["text"] [] (spB1 Z.K isNm Sz)) {C_BadWord : Addr} (c_split_letter : Can Z (CXn Z) 4 "split_letter" ["text"] [] (spSplit Z.K C_BadWord)) (m_BadWord : PySem.W.exmOne Z.K (.ref C_BadWord) (.ref K_OneError) = some true) (r_BadWord : ErrRow Z C_BadWord (Str.ofString "BadWord") errNs) : Can Z CX0 (5) "_law_told" ["way", "value"] [] (spDue Z.K) := by
  refine can_of Df sc_law_told (fun vs H Q E h => ?_) (fun _ _ _ _ _ _ us hl => match us, hl with | [_, _], _ => rfl) (fun f cdv A outer s H vs Q E hr h => ⟨_, PSs.nox ((pss_one (L2N.ps_try_as (i := 2) rfl rfl sc_law_told.nd rfl rfl ⟨by rfl, by decide, Or.inl k_OneError.gl⟩ takesN (fun W pn xe tk _ => (pss_cons (ps_if (pt_cmpR (k_eq Z.K (h64 hr)) (pv 0) pe_int (nomark _)) (pss_one (ps_ret (pcall c_good_name hr (pa_cons (pv 1) pa_nil) pass0))) pss_nil) (pss_cons (ps_if (pt_cmpR (k_eq Z.K (h64 hr)) (pv 0) pe_int (nomark _)) (pss_one (ps_ret (pcall c_free_name hr (pa_cons (pv 1) pa_nil) pass0))) pss_nil) (pss_cons (ps_if (pt_cmpR (k_eq Z.K (h64 hr)) (pv 0) pe_int (nomark _)) (pss_one (ps_ret (pcall c_good_letter hr (pa_cons (pv 1) pa_nil) pass0))) pss_nil) (pss_one (ps_ret (pcallT tk c_split_letter hr (pa_cons (pv 1) pa_nil)))))))) (fun a oe cls d pn hz hf => (pss_one (ps_ret (pcallE c__law_error hr hz hf (pv 2)))))))), ?_⟩)
  · obtain ⟨W, way, v, d, rfl, rfl, _⟩ := h
    rfl
  · obtain ⟨W, way, v, d, rfl, rfl, hv, hz, k⟩ := h
    walk_at "go"
    refine iteD (fun h0 => ?_) (fun h0 => ?_)
    · walk_at "go"
      exact use_B1 hv hz fun W1 m1 => k _ W1 m1 (by rw [dueD, if_pos h0]; exact .bl)
    walk_at "go"
    refine iteD (fun h1 => ?_) (fun h1 => ?_)
    · walk_at "go"
      exact use_B1 hv hz fun W1 m1 => k _ W1 m1 (by rw [dueD, if_neg h0, if_pos h1]; exact .bl)
    walk_at "go"
    refine iteD (fun h2 => ?_) (fun h2 => ?_)
    · walk_at "go"
      exact use_B1 hv hz fun W1 m1 => k _ W1 m1 (by rw [dueD, if_neg h0, if_neg h1, if_pos h2]; exact .bl)
    have e : dueD way d = splD d := by rw [dueD, if_neg h0, if_neg h1, if_neg h2]
    rw [e] at k
    walk_at "go"
    refine ⟨W, v, d, rfl, rfl, hv, hz, fun hl W1 m1 => ?_, fun hl p W1 m1 q1 => k _ W1 m1 q1⟩
    exact caught m_BadWord r_BadWord (show 2 < 3 by decide) fun p W2 m2 q2 => k _ W2 (m1.tr0 m2) (by rw [splD_not hl]; exact q2)

abbrev s_law_near : Stmt := top 42
abbrev nn_law_near : List Str := ["store", "base", "way", "at"]
theorem sc_law_near : FnScope nn_law_near ["store"] (defScope s_law_near) := ⟨rfl, rfl, rfl, by decide +kernel, rfl, by decide +kernel, by decide +kernel⟩
theorem can_law_near {Z : Env} (B : Std Z) (Df : DefAt Z "_law_near" s_law_near []) (c__law_letter : Can Z CX0 5 "_law_letter" ["store"] [] (spDraw Z.K (IsS Lt))) (c__law_pick : Can Z CX0 5 "_law_pick" ["store", "row"] [] (spPick Z.K)) (c__law_spell : Can Z CX0 5 "_law_spell" ["store", "size"] [] (spSpell Z.K)) (c__law_take : Can Z CX0 5 "_law_take" ["store", "many"] [] (spTake Z.K)) : Can Z CX0 (6) "_law_near" ["store"] [] (spDraw Z.K (IsS (Le 40))) := by
  refine can_of Df sc_law_near (fun vs H Q E h => ?_) (fun _ _ _ _ _ _ us hl => match us, hl with | [_], _ => rfl) (fun f cdv A outer s H vs Q E hr h => ⟨_, PSs.nox ((pss_cons (ps_set (i := 1) sc_law_near.nd rfl (Or.inl rfl) (pcall c__law_letter hr (pa_cons (pv 0) pa_nil) pass0)) (pss_cons (ps_set (i := 2) sc_law_near.nd rfl (Or.inl rfl) (pcall c__law_take hr (pa_cons (pv 0) (pa_cons pe_int pa_nil)) pass0)) (pss_cons (ps_if (pt_cmpR o_lt (pv 2) pe_int (nomark _)) (pss_one (ps_ret (pv 1))) pss_nil) (pss_cons (ps_if (pt_cmpR (k_eq Z.K (h64 hr)) (pv 2) pe_int (nomark _)) (pss_one (ps_ret (pe_op o_add (pv 1) (pcall c__law_pick hr (pa_cons (pv 0) (pa_cons (pe_lst (pa_cons pe_str (pa_cons pe_str (pa_cons pe_str (pa_cons pe_str (pa_cons pe_str (pa_cons pe_str (pa_cons pe_str (pa_cons pe_str (pa_cons pe_str (pa_cons pe_str (pa_cons pe_str (pa_cons pe_str pa_nil))))))))))))) pa_nil)) pass0)))) pss_nil) (pss_cons (ps_if (pt_cmpR (k_eq Z.K (h64 hr)) (pv 2) pe_int (nomark _)) (pss_one (ps_ret (pcall c__law_pick hr (pa_cons (pv 0) (pa_cons (pe_lst (pa_cons pe_str (pa_cons pe_str (pa_cons pe_str (pa_cons pe_str (pa_cons pe_str (pa_cons pe_str (pa_cons pe_str (pa_cons pe_str (pa_cons pe_str (pa_cons pe_str (pa_cons pe_str (pa_cons pe_str (pa_cons pe_str pa_nil)))))))))))))) pa_nil)) pass0))) pss_nil) (pss_cons (ps_if (pt_cmpR (k_eq Z.K (h64 hr)) (pv 2) pe_int (nomark _)) (pss_one (ps_ret (pcall c__law_spell hr (pa_cons (pv 0) (pa_cons (pe_op o_add pe_int (pcall c__law_take hr (pa_cons (pv 0) (pa_cons pe_int pa_nil)) pass0)) pa_nil)) pass0))) pss_nil) (pss_cons (ps_set (i := 3) sc_law_near.nd rfl (Or.inl rfl) (pcall c__law_take hr (pa_cons (pv 0) (pa_cons (pe_op o_add (pe_callB (k_len Z.K) (by rfl) B.len (by decide +kernel) (pa_cons (pv 1) pa_nil)) pe_int) pa_nil)) pass0)) (pss_cons (ps_if (pt_cmpR (k_eq Z.K (h64 hr)) (pv 2) pe_int (nomark _)) (pss_one (ps_ret (pe_op o_add (pe_slice (k_sl Z.K) (pv 1) po_none (po_some (pv 3))) (pe_slice (k_sl Z.K) (pv 1) (po_some (pe_op o_add (pv 3) pe_int)) po_none)))) pss_nil) (pss_one (ps_ret (pe_op o_add (pe_op o_add (pe_slice (k_sl Z.K) (pv 1) po_none (po_some (pv 3))) (pcall c__law_pick hr (pa_cons (pv 0) (pa_cons (pe_lst (pa_cons pe_str (pa_cons pe_str (pa_cons pe_str (pa_cons pe_str (pa_cons pe_str (pa_cons pe_str (pa_cons pe_str (pa_cons pe_str (pa_cons pe_str (pa_cons pe_str (pa_cons pe_str (pa_cons pe_str (pa_cons pe_str (pa_cons pe_str pa_nil))))))))))))))) pa_nil)) pass0)) (pe_slice (k_sl Z.K) (pv 1) (po_some (pv 3)) po_none))))))))))))), ?_⟩)
  · obtain ⟨W, st, rfl, rfl, _⟩ := h
    rfl
  · obtain ⟨W, st, rfl, rfl, S, k⟩ := h
    walk_at "go"
    refine use_drawS S fun b W1 m1 s1 hb => ?_
    have hb := hb.len
    walk_at "go"
    refine use_take s1 (by omega) fun r W2 m2 s2 r0 r1 => ?_
    have m12 := m1.trS m2
    walk_at "go"
    refine iteD (fun h => ?_) (fun h => ?_)
    · walk_at "go"
      exact ret_drawS k m12 s2 (show b.length ≤ 40 by omega)
    walk_at "go"
    refine iteD (fun h => ?_) (fun h => ?_)
    · walk_at "go"
      refine ⟨by walk_at "nat", mk_lst (K := Z.K) (by walk_at "rpl") fun p W3 m3 n3 q3 => ?_⟩
      walk_at "go"
      refine use_pick (s2.up m3 (by walk_at "ne")) q3 (by simp) (by simp) fun v d W4 m4 s4 hd hv => ?_
      obtain ⟨z, rfl, hz⟩ := allStr_mem (P := leB 5) (by decide +kernel) hd
      cases hv
      have hz := le_of hz
      walk_at "go"
      exact ret_drawS k ((m12.tr0 m3).trS m4) s4 (show (b ++ z).length ≤ 40 by rw [len_app]; omega)
    walk_at "go"
    refine iteD (fun h => ?_) (fun h => ?_)
    · walk_at "go"
      refine ⟨by walk_at "nat", mk_lst (K := Z.K) (by walk_at "rpl") fun p W3 m3 n3 q3 => ?_⟩
      walk_at "go"
      refine use_pick (s2.up m3 (by walk_at "ne")) q3 (by simp) (by simp) fun v d W4 m4 s4 hd hv => ?_
      obtain ⟨z, rfl, hz⟩ := allStr_mem (P := leB 5) (by decide +kernel) hd
      cases hv
      have hz := le_of hz
      walk_at "go"
      exact ret_drawS k ((m12.tr0 m3).trS m4) s4 (show z.length ≤ 40 by omega)
    walk_at "go"
    refine iteD (fun h => ?_) (fun h => ?_)
    · walk_at "go"
      refine use_take s2 (by omega) fun q W3 m3 s3 q0 q1 => ?_
      walk_at "go"
      refine use_spell s3 (by omega) (by omega) fun z W4 m4 s4 z1 z2 => ?_
      exact ret_drawS k ((m12.trS m3).trS m4) s4 (show z.length ≤ 40 by omega)
    walk_at "go"
    refine lenS (sz (by omega)) ?_
    walk_at "go"
    refine use_take s2 (by omega) fun q W3 m3 s3 q0 q1 => ?_
    have m13 := m12.trS m3
    walk_at "go"
    refine iteD (fun h => ?_) (fun h => ?_)
    · walk_at "go"
      refine slS (sz (by omega)) ?_
      walk_at "go"
      refine slS (sz (by omega)) ?_
      have c1 := cut_len b none (some q)
      have c2 := cut_len b (some (q + 1)) none
      walk_at "go"
      exact ret_drawS k m13 s3 (show (cutS b none (some q) ++ cutS b (some (q + 1)) none).length ≤ 40 by rw [len_app]; omega)
    · walk_at "go"
      refine slS (sz (by omega)) ?_
      walk_at "go"
      refine ⟨by walk_at "nat", mk_lst (K := Z.K) (by walk_at "rpl") fun p W4 m4 n4 q4 => ?_⟩
      walk_at "go"
      refine use_pick (s3.up m4 (by walk_at "ne")) q4 (by simp) (by simp) fun v d W5 m5 s5 hd hv => ?_
      obtain ⟨z, rfl, hz⟩ := allStr_mem (P := leB 5) (by decide +kernel) hd
      cases hv
      have hz := le_of hz
      have c1 := cut_len b none (some q)
      have c2 := cut_len b (some q) none
      walk_at "go"
      refine slS (sz (by omega)) ?_
      walk_at "go"
      exact ret_drawS k ((m13.tr0 m4).trS m5) s5 (show (cutS b none (some q) ++ z ++ cutS b (some q) none).length ≤ 40 by rw [len_app, len_app]; omega)

abbrev s_law_odd : Stmt := top 37
abbrev nn_law_odd : List Str := ["store", "way"]
theorem sc_law_odd : FnScope nn_law_odd ["store"] (defScope s_law_odd) := ⟨rfl, rfl, rfl, by decide +kernel, rfl, by decide +kernel, by decide +kernel⟩
theorem can_law_odd {Z : Env} (B : Std Z) (Df : DefAt Z "_law_odd" s_law_odd []) (c__law_big : Can Z CX0 6 "_law_big" ["store"] [] (spDraw Z.K (IsI Big))) (c__law_near : Can Z CX0 6 "_law_near" ["store"] [] (spDraw Z.K (IsS (Le 40)))) (c__law_take : Can Z CX0 6 "_law_take" ["store", "many"] [] (spTake Z.K)) : Can Z CX0 (7) "_law_odd" ["store"] [] (spDraw Z.K Val) := by
  refine can_of Df sc_law_odd (fun vs H Q E h => ?_) (fun _ _ _ _ _ _ us hl => match us, hl with | [_], _ => rfl) (fun f cdv A outer s H vs Q E hr h => ⟨_, PSs.nox ((pss_cons (ps_set (i := 1) sc_law_odd.nd rfl (Or.inl rfl) (pcall c__law_take hr (pa_cons (pv 0) (pa_cons pe_int pa_nil)) pass0)) (pss_cons (ps_if (pt_cmpR o_lt (pv 1) pe_int (nomark _)) (pss_one (ps_ret (pe_ix (k_ix Z.K) (pe_lst (pa_cons pe_non (pa_cons pe_bl (pa_cons pe_bl pa_nil)))) (pv 1) (fun _ _ => rfl)))) pss_nil) (pss_cons (ps_if (pt_cmpR o_lt (pv 1) pe_int (nomark _)) (pss_one (ps_ret (pe_ix (k_ix Z.K) (pe_lst (pa_cons (pe_un un_neg pe_int) (pa_cons pe_int (pa_cons pe_int pa_nil)))) (pe_op o_sub (pv 1) pe_int) (fun _ _ => rfl)))) pss_nil) (pss_cons (ps_if (pt_cmpR o_lt (pv 1) pe_int (nomark _)) (pss_one (ps_ret (pe_ix (k_ix Z.K) (pe_lst (pa_cons (pcall c__law_big hr (pa_cons (pv 0) pa_nil) pass0) (pa_cons (pe_op o_sub (pe_op o_sub pe_int pe_int) (pcall c__law_big hr (pa_cons (pv 0) pa_nil) pass0)) pa_nil))) (pe_op o_sub (pv 1) pe_int) (fun _ _ => rfl)))) pss_nil) (pss_cons (ps_if (pt_cmpR o_lt (pv 1) pe_int (nomark _)) (pss_one (ps_ret (pcall c__law_near hr (pa_cons (pv 0) pa_nil) pass0))) pss_nil) (pss_one (ps_ret (pe_ix (k_ix Z.K) (pe_lst (pa_cons (pe_lst pa_nil) (pa_cons (pe_tup pa_nil) (pa_cons (pe_disp (pps_cons pe_str pe_int pps_nil) (by rfl) (by rfl) (fun z => by cases z) (by decide)) (pa_cons (pe_lst (pa_cons pe_int (pa_cons (pe_lst (pa_cons pe_int pa_nil)) pa_nil))) (pa_cons (pe_tup (pa_cons pe_int (pa_cons pe_str (pa_cons pe_int (pa_cons pe_str pa_nil))))) pa_nil)))))) (pe_op o_sub (pv 1) pe_int) (fun _ _ => rfl)))))))))), ?_⟩)
  · obtain ⟨W, st, rfl, rfl, _⟩ := h
    rfl
  · obtain ⟨W, st, rfl, rfl, S, k⟩ := h
    walk_at "go"
    refine use_take S (by omega) fun r W1 m1 s1 r0 r1 => ?_
    walk_at "go"
    refine iteD (fun h => ?_) (fun h => ?_)
    · walk_at "go"
      refine ⟨by walk_at "nat", mk_lst (K := Z.K) (by walk_at "rpl") fun p W2 m2 n2 q2 => ?_⟩
      walk_at "go"
      have hl : r.toNat < ([.non, .bl true, .bl false] : List D).length := by show r.toNat < 3; omega
      refine ixRL q2 r0 (List.getElem?_eq_getElem hl) fun v hv => ?_
      have hm : ([.non, .bl true, .bl false] : List D)[r.toNat] ∈ ([.non, .bl true, .bl false] : List D) := List.getElem_mem _
      refine ret_draw k (m1.tr0 m2) (s1.up m2 (by walk_at "ne")) hv ?_
      rcases List.mem_cons.mp hm with e | hm
      · exact .inl e
      rcases List.mem_cons.mp hm with e | hm
      · exact .inr (.inl ⟨_, e⟩)
      · exact .inr (.inl ⟨_, List.mem_singleton.mp hm⟩)
    walk_at "go"
    refine iteD (fun h => ?_) (fun h => ?_)
    · walk_at "go"
      refine ⟨by walk_at "nat", mk_lst (K := Z.K) (by walk_at "rpl") fun p W2 m2 n2 q2 => ?_⟩
      walk_at "go"
      have hl : (r - 3).toNat < ([.int (-1), .int 0, .int 1] : List D).length := by show (r - 3).toNat < 3; omega
      refine ixRL q2 (by omega) (List.getElem?_eq_getElem hl) fun v hv => ?_
      have hm : ([.int (-1), .int 0, .int 1] : List D)[(r - 3).toNat] ∈ ([.int (-1), .int 0, .int 1] : List D) := List.getElem_mem _
      refine ret_draw k (m1.tr0 m2) (s1.up m2 (by walk_at "ne")) hv ?_
      rcases List.mem_cons.mp hm with e | hm
      · exact .inr (.inr (.inl ⟨_, e, by decide, by decide⟩))
      rcases List.mem_cons.mp hm with e | hm
      · exact .inr (.inr (.inl ⟨_, e, by decide, by decide⟩))
      · exact .inr (.inr (.inl ⟨_, List.mem_singleton.mp hm, by decide, by decide⟩))
    walk_at "go"
    refine iteD (fun h => ?_) (fun h => ?_)
    · walk_at "go"
      refine use_drawI s1 fun x W2 m2 s2 hx => ?_
      walk_at "go"
      refine use_drawI s2 fun y W3 m3 s3 hy => ?_
      walk_at "go"
      refine ⟨by walk_at "nat", mk_lst (K := Z.K) (by walk_at "rpl") fun p W4 m4 n4 q4 => ?_⟩
      walk_at "go"
      have hl : (r - 6).toNat < ([.int x, .int (0 - 1 - y)] : List D).length := by show (r - 6).toNat < 2; omega
      refine ixRL q4 (by omega) (List.getElem?_eq_getElem hl) fun v hv => ?_
      have hm : ([.int x, .int (0 - 1 - y)] : List D)[(r - 6).toNat] ∈ ([.int x, .int (0 - 1 - y)] : List D) := List.getElem_mem _
      unfold Big at hx hy
      refine ret_draw k (((m1.trS m2).trS m3).tr0 m4) (s3.up m4 (by walk_at "ne")) hv ?_
      rcases List.mem_cons.mp hm with e | hm
      · exact .inr (.inr (.inl ⟨_, e, by omega, by omega⟩))
      · exact .inr (.inr (.inl ⟨_, List.mem_singleton.mp hm, by omega, by omega⟩))
    walk_at "go"
    refine iteD (fun h => ?_) (fun h => ?_)
    · walk_at "go"
      refine use_drawS s1 fun z W2 m2 s2 hz => ?_
      have hz : z.length ≤ 40 := hz
      exact ret_draw k (m1.trS m2) s2 .str (.inr (.inr (.inr (.inl ⟨z, rfl, by omega⟩))))
    walk_at "go"
    refine ⟨by walk_at "nat", mk_lst (K := Z.K) .nil fun p2 W2 m2 n2 q2 => ?_⟩
    walk_at "go"
    refine ⟨by walk_at "nat", mk_tup (K := Z.K) .nil fun p3 W3 m3 n3 _ q3 => ?_⟩
    walk_at "go"
    refine mk_disp1 (K := Z.K) fun p4 W4 m4 n4 q4 => ?_
    walk_at "go"
    refine ⟨by walk_at "nat", mk_lst (K := Z.K) (by walk_at "rpl") fun p5 W5 m5 n5 q5 => ?_⟩
    walk_at "go"
    refine ⟨by walk_at "nat", mk_lst (K := Z.K) (by walk_at "rpl") fun p6 W6 m6 n6 q6 => ?_⟩
    walk_at "go"
    refine ⟨by walk_at "nat", mk_tup (K := Z.K) (by walk_at "rpl") fun p7 W7 m7 n7 _ q7 => ?_⟩
    walk_at "go"
    have r2 : Rp Z.K W7 (.ref p2) (.lst []) := by walk_at "rp"
    have r3 : Rp Z.K W7 (.ref p3) (.tup []) := by walk_at "rp"
    have r4 : Rp Z.K W7 (.ref p4) (.dct [(.inr (Str.ofString "a"), .int 1)]) := by walk_at "rp"
    have r6 : Rp Z.K W7 (.ref p6) (.lst [.int 0, .lst [.int 1]]) := by walk_at "rp"
    refine ⟨by walk_at "nat", mk_lst (K := Z.K) (.cons r2 (.cons r3 (.cons r4 (.cons r6 (.cons q7 .nil))))) fun p8 W8 m8 n8 q8 => ?_⟩
    walk_at "go"
    have hl : (r - 11).toNat < oddDs.length := by show (r - 11).toNat < 5; omega
    refine ixRL (ds := oddDs) q8 (by omega) (List.getElem?_eq_getElem hl) fun v hv => ?_
    have hm : oddDs[(r - 11).toNat] ∈ oddDs := List.getElem_mem _
    exact ret_draw k (by walk_at "mod") (by walk_at "sto") hv (.inr (.inr (.inr (.inr hm))))

abbrev s_law_value : Stmt := top 50
abbrev nn_law_value : List Str := ["store", "way", "k"]
theorem sc_law_value : FnScope nn_law_value ["store"] (defScope s_law_value) := ⟨rfl, rfl, rfl, by decide +kernel, rfl, by decide +kernel, by decide +kernel⟩
theorem can_law_value {Z : Env} (B : Std Z) (Df : DefAt Z "_law_value" s_law_value []) (c__law_letter : Can Z CX0 7 "_law_letter" ["store"] [] (spDraw Z.K (IsS Lt))) (c__law_name : Can Z CX0 7 "_law_name" ["store"] [] (spDraw Z.K (IsS Nm))) (c__law_near : Can Z CX0 7 "_law_near" ["store"] [] (spDraw Z.K (IsS (Le 40)))) (c__law_number : Can Z CX0 7 "_law_number" ["store", "low", "high"] [] (spNumber Z.K)) (c__law_odd : Can Z CX0 7 "_law_odd" ["store"] [] (spDraw Z.K Val)) (c__law_pick : Can Z CX0 7 "_law_pick" ["store", "row"] [] (spPick Z.K)) (c__law_take : Can Z CX0 7 "_law_take" ["store", "many"] [] (spTake Z.K)) : Can Z CX0 (8) "_law_value" ["store"] [] (spDraw Z.K Val) := by
  refine can_of Df sc_law_value (fun vs H Q E h => ?_) (fun _ _ _ _ _ _ us hl => match us, hl with | [_], _ => rfl) (fun f cdv A outer s H vs Q E hr h => ⟨_, PSs.nox ((pss_cons (ps_set (i := 1) sc_law_value.nd rfl (Or.inl rfl) (pcall c__law_take hr (pa_cons (pv 0) (pa_cons pe_int pa_nil)) pass0)) (pss_cons (ps_if (pt_cmpR (k_eq Z.K (h64 hr)) (pv 1) pe_int (nomark _)) (pss_one (ps_ret (pcall c__law_odd hr (pa_cons (pv 0) pa_nil) pass0))) pss_nil) (pss_cons (ps_if (pt_cmpR (k_eq Z.K (h64 hr)) (pv 1) pe_int (nomark _)) (pss_one (ps_ret (k_join Z.K pe_str (pe_lc (own := [("k", 2)]) (g := gName 2) (tt := tYes) (by rfl) sc_law_value.nd (pi_range1 (by rfl) B.range (pa_cons (pcall c__law_take hr (pa_cons (pv 0) (pa_cons pe_int pa_nil)) pass0) pa_nil)) (blkOk_by (own := [("k", 2)]) (N := nn_law_value) (sc := defScope s_law_value) (by decide +kernel)) (fun _ _ _ _ _ => (pg_name (i := 2) sc_law_value.nd rfl (Or.inl rfl))) (fun _ _ _ _ _ => pts_nil) (fun _ _ _ _ _ => (pe_ix (k_ix Z.K) pe_str (pcall c__law_take hr (pa_cons (pv 0) (pa_cons pe_int pa_nil)) pass0) (fun _ _ => rfl))))))) pss_nil) (pss_cons (ps_if (PW.pt (pw_and (pt_cmpR (k_eq Z.K (h64 hr)) (pv 1) pe_int (nomark _)) (pw_and1 (pt_cmpR (k_eq Z.K (h64 hr)) (pcall c__law_take hr (pa_cons (pv 0) (pa_cons pe_int pa_nil)) pass0) pe_int (nomark _))))) (pss_one (ps_ret (pe_op o_add (pcall c__law_letter hr (pa_cons (pv 0) pa_nil) pass0) (pe_op o_mulU (pcall c__law_pick hr (pa_cons (pv 0) (pa_cons (pe_lst (pa_cons pe_str (pa_cons pe_str (pa_cons pe_str (pa_cons pe_str (pa_cons pe_str pa_nil)))))) pa_nil)) pass0) (pcall c__law_number hr (pa_cons (pv 0) (pa_cons pe_int (pa_cons pe_int pa_nil))) pass0))))) pss_nil) (pss_cons (ps_if (pt_cmpR (k_eq Z.K (h64 hr)) (pv 1) pe_int (nomark _)) (pss_one (ps_ret (pe_op o_add (pe_op o_add (pcall c__law_name hr (pa_cons (pv 0) pa_nil) pass0) pe_str) (pcall c__law_pick hr (pa_cons (pv 0) (pa_cons (pe_lst (pa_cons (pe_callTy c_str (by rfl) B.str (by decide +kernel) (pa_cons (pcall c__law_take hr (pa_cons (pv 0) (pa_cons pe_int pa_nil)) pass0) pa_nil)) (pa_cons pe_str (pa_cons pe_str (pa_cons pe_str (pa_cons pe_str (pa_cons pe_str pa_nil))))))) pa_nil)) pass0)))) pss_nil) (pss_one (ps_ret (pcall c__law_near hr (pa_cons (pv 0) pa_nil) pass0))))))))), ?_⟩)
  · obtain ⟨W, st, rfl, rfl, _⟩ := h
    rfl
  · obtain ⟨W, st, rfl, rfl, S, k⟩ := h
    have kS : ∀ z W', Mod [st] W W' → Sto Z.K st W' → z.length ≤ 6000 → Q (.str z) W'.H := fun z W' m s h => ret_draw k m s .str (.inr (.inr (.inr (.inl ⟨z, rfl, h⟩))))
    walk_at "go"
    refine use_take S (by omega) fun r W1 m1 s1 r0 r1 => ?_
    walk_at "go"
    refine iteD (fun h => ?_) (fun h => ?_)
    · walk_at "go"
      exact use_draw s1 fun v d W2 m2 s2 hv hd => ret_draw k (m1.trS m2) s2 hv hd
    walk_at "go"
    refine iteD (fun h => ?_) (fun h => ?_)
    · walk_at "go"
      refine use_take s1 (by omega) fun n W2 m2 s2 n0 n1 => ?_
      walk_at "go"
      refine ⟨by omega, by omega, fun p hp => ?_⟩
      refine lcR (X := [st]) hp (fun a ha => by rw [List.mem_singleton.mp ha]; exact s2.inM) (fun i W3 xs => Sto Z.K st W3 ∧ ∃ zs : List Nat, zs.length = i ∧ xs = (zs.map sg).map V.str) (fun _ => rfl) (fun W3 m3 o3 => ⟨s2.up m3 (by walk_at "ne"), [], rfl, rfl⟩) ?_ ?_
      · rintro i W3 xs hi m3 o3 hl ⟨s3, zs, e1, rfl⟩
        walk_at "go"
        refine use_take s3 (by omega) fun q W4 m4 s4 q0 q1 => ?_
        obtain ⟨c, hc⟩ := abc2_at q0 (show q < 24 by omega)
        refine ixS (sz (by decide)) hc ?_
        refine lc_give hp (by omega) (m3.trS m4) (o3.up m4 (m3.notin hp)) hl fun W5 m5 o5 => ⟨s4.up m5 (by intro h; exact s2.ne hp (List.mem_singleton.mp h)), zs ++ [c], by simp [e1], by simp⟩
      · rintro W3 xs m3 o3 hl ⟨s3, zs, e1, rfl⟩
        refine ⟨_, p, zs.map sg, rfl, rfl, .inl o3.sq, ?_, ?_⟩
        · rw [sum_sg, List.length_map]
          show zs.length + zs.length * 0 ≤ _
          omega
        · exact kS _ W3 ((m1.trS m2).trS m3) s3 (by rw [len_tl, tl_join_sg]; omega)
    have rest : ∀ W2, Mod [st] W W2 → Sto Z.K st W2 → spDraw Z.K (IsS (Le 40)) ([.ref st] ++ []) W2.H Q E0 := fun W2 m2 s2 => use_drawS s2 fun z W3 m3 s3 hz => kS z W3 (m2.trS m3) s3 (by have hz : z.length ≤ 40 := hz; omega)
    walk_at "go"
    refine iteD (fun h => ?_) (fun h => ?_)
    · walk_at "go"
      refine use_take s1 (by omega) fun q W2 m2 s2 q0 q1 => ?_
      have m12 := m1.trS m2
      walk_at "go"
      refine iteD (fun h => ?_) (fun h => ?_)
      · walk_at "go"
        refine use_drawS s2 fun a W3 m3 s3 ha => ?_
        have ha := ha.len
        walk_at "go"
        refine ⟨by walk_at "nat", mk_lst (K := Z.K) (by walk_at "rpl") fun p W4 m4 n4 q4 => ?_⟩
        walk_at "go"
        refine use_pick (s3.up m4 (by walk_at "ne")) q4 (by simp) (by simp) fun v d W5 m5 s5 hd hv => ?_
        obtain ⟨z, rfl, hz⟩ := allStr_mem (P := leB 1) (by decide +kernel) hd
        cases hv
        have hz := le_of hz
        walk_at "go"
        refine use_number s5 (by omega) fun n W6 m6 s6 n0 n1 => ?_
        refine i_mulS (by omega) (by omega) (by omega) ?_
        have hm := mul_len (x := z) (n := n) (by omega)
        have hm2 : n.toNat * z.length ≤ 5000 * 1 := Nat.mul_le_mul (by omega) hz
        walk_at "go"
        exact kS _ W6 ((((m12.trS m3).tr0 m4).trS m5).trS m6) s6 (by rw [len_app]; omega)
      · walk_at "go"
        refine iteD (fun h3 => absurd h3 (by omega)) fun _ => ?_
        walk_at "go"
        exact rest W2 m12 s2
    walk_at "go"
    refine iteD (fun h => ?_) (fun h => ?_)
    · walk_at "go"
      refine use_drawS s1 fun a W2 m2 s2 ha => ?_
      have ha := ha.2.2
      walk_at "go"
      refine use_take s2 (by omega) fun q W3 m3 s3 q0 q1 => ?_
      walk_at "go"
      obtain ⟨j, rfl⟩ := Int.eq_ofNat_of_zero_le q0
      refine i_str (log2_small (by omega)) ?_
      have hj := num_len (n := j) (k := 3) (by decide) (by omega)
      walk_at "go"
      refine ⟨by walk_at "nat", mk_lst (K := Z.K) (by walk_at "rpl") fun p W4 m4 n4 q4 => ?_⟩
      walk_at "go"
      refine use_pick (s3.up m4 (by walk_at "ne")) q4 (by simp) (by simp) fun v d W5 m5 s5 hd hv => ?_
      obtain ⟨z, rfl, hz⟩ : ∃ z, d = .str z ∧ z.length ≤ 3 := by
        rcases List.mem_cons.mp hd with e | hd
        · exact ⟨_, e, hj⟩
        · obtain ⟨z, e, hz⟩ := allStr_mem (P := leB 3) (by decide +kernel) hd
          exact ⟨z, e, le_of hz⟩
      cases hv
      walk_at "go"
      exact kS _ W5 ((((m1.trS m2).trS m3).tr0 m4).trS m5) s5 (by rw [len_app, len_app]; show a.length + 1 + _ ≤ _; omega)
    walk_at "go"
    exact rest W1 m1 s1

abbrev s_law_numbers_right : Stmt := top 55
abbrev nn_law_numbers_right : List Str := ["store", "low", "high", "values", "value", "due"]
theorem sc_law_numbers_right : FnScope nn_law_numbers_right ["store"] (defScope s_law_numbers_right) := ⟨rfl, rfl, rfl, by decide +kernel, rfl, by decide +kernel, by decide +kernel⟩
theorem can_law_numbers_right {Z : Env} (B : Std Z) (Df : DefAt Z "_law_numbers_right" s_law_numbers_right []) (c__law_big : Can Z CX0 8 "_law_big" ["store"] [] (spDraw Z.K (IsI Big))) (c__law_integer : Can Z CX0 8 "_law_integer" ["thing"] [] (spB1 Z.K isWh (fun _ => True))) (c__law_odd : Can Z CX0 8 "_law_odd" ["store"] [] (spDraw Z.K Val)) (c__law_pick : Can Z CX0 8 "_law_pick" ["store", "row"] [] (spPick Z.K)) (c__law_same : Can Z CX0 8 "_law_same" ["due", "seen"] [] (spSame Z.K 4)) (c__law_take : Can Z CX0 8 "_law_take" ["store", "many"] [] (spTake Z.K)) (c_is_whole : Can Z CX0 8 "is_whole" ["value", "low", "high"] [] (spWhole Z.K)) : Can Z CX0 (9) "_law_numbers_right" ["store"] [] (spRight Z.K) := by
  refine can_of Df sc_law_numbers_right (fun vs H Q E h => ?_) (fun _ _ _ _ _ _ us hl => match us, hl with | [_], _ => rfl) (fun f cdv A outer s H vs Q E hr h => ⟨_, PSs.nox ((pss_cons (ps_set (i := 1) sc_law_numbers_right.nd rfl (Or.inl rfl) (pcall c__law_pick hr (pa_cons (pv 0) (pa_cons (pe_lst (pa_cons (pcall c__law_big hr (pa_cons (pv 0) pa_nil) pass0) (pa_cons (pe_op o_sub pe_int (pcall c__law_big hr (pa_cons (pv 0) pa_nil) pass0)) (pa_cons (pe_op o_sub (pcall c__law_take hr (pa_cons (pv 0) (pa_cons pe_int pa_nil)) pass0) pe_int) pa_nil)))) pa_nil)) pass0)) (pss_cons (ps_set (i := 2) sc_law_numbers_right.nd rfl (Or.inl rfl) (pcall c__law_pick hr (pa_cons (pv 0) (pa_cons (pe_lst (pa_cons (pv 1) (pa_cons (pe_op o_add (pv 1) pe_int) (pa_cons (pe_op o_sub (pv 1) pe_int) (pa_cons (pe_op o_add (pv 1) (pcall c__law_big hr (pa_cons (pv 0) pa_nil) pass0)) (pa_cons pe_int pa_nil)))))) pa_nil)) pass0)) (pss_cons (ps_set (i := 3) sc_law_numbers_right.nd rfl (Or.inl rfl) (pe_lst (pa_cons pe_int (pa_cons pe_bl (pa_cons pe_int (pa_cons (pv 1) (pa_cons (pe_op o_sub (pv 1) pe_int) (pa_cons (pv 2) (pa_cons (pe_op o_add (pv 2) pe_int) (pa_cons (pe_callTy c_str (by rfl) B.str (by decide +kernel) (pa_cons (pv 1) pa_nil)) (pa_cons (pcall c__law_odd hr (pa_cons (pv 0) pa_nil) pass0) (pa_cons (pe_op o_fdiv (pe_op o_add (pv 1) (pv 2)) pe_int) pa_nil)))))))))))) (pss_cons (ps_for PassesOwn.never rfl (k_pi Z.K (pv 3)) (pg_name (i := 4) sc_law_numbers_right.nd rfl (Or.inl rfl)) (pss_cons (ps_set (i := 5) sc_law_numbers_right.nd rfl (Or.inl rfl) (pe_and (pcall c__law_integer hr (pa_cons (pv 4) pa_nil) pass0) (pe_one (pe_chain o_le o_le (pv 1) (pv 4) (pv 2))))) (pss_one (ps_if (pt_not (pt_val (pcall c__law_same hr (pa_cons (pv 5) (pa_cons (pcall c_is_whole hr (pa_cons (pv 4) (pa_cons (pv 1) (pa_cons (pv 2) pa_nil))) pass0) pa_nil)) pass0))) (pss_one (ps_ret pe_bl)) pss_nil)))) (pss_one (ps_ret (pe_and (pcall c__law_same hr (pa_cons pe_bl (pa_cons (pcall c_is_whole hr (pa_cons pe_int (pa_cons pe_int (pa_cons pe_int pa_nil))) pass0) pa_nil)) pass0) (pe_one (pcall c__law_same hr (pa_cons pe_bl (pa_cons (pcall c_is_whole hr (pa_cons pe_bl (pa_cons pe_int (pa_cons pe_int pa_nil))) pass0) pa_nil)) pass0)))))))))), ?_⟩)
  · obtain ⟨W, st, rfl, rfl, _⟩ := h
    rfl
  · obtain ⟨W, st, rfl, rfl, S, k⟩ := h
    walk_at "go"
    refine use_drawI S fun a W1 m1 s1 ha => ?_
    walk_at "go"
    refine use_drawI s1 fun b W2 m2 s2 hb => ?_
    walk_at "go"
    refine use_take s2 (by omega) fun t W3 m3 s3 t0 t1 => ?_
    walk_at "go"
    refine ⟨by walk_at "nat", mk_lst (K := Z.K) (by walk_at "rpl") fun p W4 m4 n4 q4 => ?_⟩
    walk_at "go"
    refine use_pick (s3.up m4 (by walk_at "ne")) q4 (by simp) (by simp) fun v d W5 m5 s5 hd hv => ?_
    unfold Big at ha hb
    obtain ⟨lo, rfl, l1, l2⟩ : ∃ i, d = .int i ∧ -4000000000000000000000000000000000000000000000000000000 < i ∧ i < 4000000000000000000000000000000000000000000000000000000 := by
      simp only [List.mem_cons, List.not_mem_nil, or_false] at hd
      rcases hd with rfl | rfl | rfl <;> exact ⟨_, rfl, by omega, by omega⟩
    cases hv
    have m15 := (((m1.trS m2).trS m3).tr0 m4).trS m5
    walk_at "go"
    refine use_drawI s5 fun c W6 m6 s6 hc => ?_
    walk_at "go"
    refine ⟨by walk_at "nat", mk_lst (K := Z.K) (by walk_at "rpl") fun p7 W7 m7 n7 q7 => ?_⟩
    walk_at "go"
    refine use_pick (s6.up m7 (by walk_at "ne")) q7 (by simp) (by simp) fun v d W8 m8 s8 hd hv => ?_
    unfold Big at hc
    obtain ⟨hi, rfl, h1, h2⟩ : ∃ i, d = .int i ∧ -8000000000000000000000000000000000000000000000000000000 < i ∧ i < 8000000000000000000000000000000000000000000000000000000 := by
      simp only [List.mem_cons, List.not_mem_nil, or_false] at hd
      rcases hd with rfl | rfl | rfl | rfl | rfl <;> exact ⟨_, rfl, by omega, by omega⟩
    cases hv
    have m18 := ((m15.trS m6).tr0 m7).trS m8
    walk_at "go"
    refine i_str (big_log2 (by omega) (by omega)) ?_
    walk_at "go"
    refine use_draw s8 fun v d W9 m9 s9 hv hd => ?_
    walk_at "go"
    refine ⟨by walk_at "nat", mk_lst (K := Z.K) (.cons .int (.cons .bl (.cons .int (.cons .int (.cons .int (.cons .int (.cons .int (.cons .str (.cons hv (.cons .int .nil)))))))))) fun p10 W10 m10 n10 q10 => ?_⟩
    have s10 := s9.up m10 (by walk_at "ne")
    have m110 := (m18.trS m9).tr0 m10
    obtain ⟨xs, hx, nM, rx⟩ := q10.lstH
    walk_at "go"
    refine any_l ?_
    walk_at "go"
    refine ⟨⟨_, .inl (.inl hx)⟩, ?_⟩
    refine forL (P := fun i σ W11 => ∃ o1 o2, σ = [some (.ref st), some (.int lo), some (.int hi), some (.ref p10), o1, o2] ∧ Mod [] W10 W11) ⟨_, _, rfl, Mod.refl _⟩ (fun i σ W11 _ ⟨_, _, _, m⟩ => .inl (.inl (m.keep _ _ (by simp) hx))) ?_ ?_
    · rintro i z _ W11 ez ⟨o1, o2, rfl, m11⟩
      obtain ⟨d, ed, hz⟩ := rx.get ez
      have hz := hz.up m11
      walk_at "go"
      refine use_B1 hz True.intro fun W12 m12 => ?_
      refine ex_bl2 ?_
      have hz2 := hz.up m12
      have m112 := m11.tr0 m12
      cases hw : isWh d with
      | false =>
        walk_at "go"
        refine use_whole (d := d) hz2 ?_
        rw [wholeB_wh hw]
        walk_at "go"
        refine use_same (d := .bl false) .bl .bl .bl fun W13 m13 => ?_
        walk_at "go"
        exact ⟨W13, rfl, _, _, rfl, m112.tr0 m13⟩
      | true =>
        obtain ⟨j, rfl⟩ := isWh_int hw
        cases hz
        walk_at "go"
        refine iteD (fun g1 => ?_) (fun g1 => ?_)
        · walk_at "go"
          refine use_whole (d := .int j) .int ?_
          rw [wholeB_int', decide_eq_true g1, Bool.true_and]
          walk_at "go"
          refine use_same (d := .bl (decide (j ≤ hi))) .bl .bl .bl fun W13 m13 => ?_
          walk_at "go"
          exact ⟨W13, rfl, _, _, rfl, m112.tr0 m13⟩
        · walk_at "go"
          refine use_whole (d := .int j) .int ?_
          rw [wholeB_int', decide_eq_false g1, Bool.false_and]
          walk_at "go"
          refine use_same (d := .bl false) .bl .bl .bl fun W13 m13 => ?_
          walk_at "go"
          exact ⟨W13, rfl, _, _, rfl, m112.tr0 m13⟩
    · rintro _ W11 ⟨o1, o2, rfl, m11⟩
      walk_at "go"
      refine use_whole (d := .int 1) .int ?_
      walk_at "go"
      refine use_same (d := .bl true) .bl .bl .bl fun W13 m13 => ?_
      walk_at "go"
      refine use_whole (d := .bl true) .bl ?_
      walk_at "go"
      refine use_same (d := .bl false) .bl .bl .bl fun W14 m14 => ?_
      exact k W14 (((m110.tr0 m11).tr0 m13).tr0 m14) (((s10.up m11 (by simp)).up m13 (by simp)).up m14 (by simp))

abbrev s_law : Stmt := top 56
abbrev nn_law : List Str := ["script", "store", "name", "letter", "values", "k", "copied", "value", "way", "parts", "number", "pairs", "other"]
theorem sc_law : FnScope nn_law ["script"] (defScope s_law) := ⟨rfl, rfl, rfl, by decide +kernel, rfl, by decide +kernel, by decide +kernel⟩
theorem ok_law {Z : Env} {f : Addr} {fd : FuncData} (B : Std Z) (F : FunD Z.K "law" "law" (defArgs s_law) (defBody s_law) (defScope s_law) [] [] f fd) (c__law_copy : Can Z CX0 9 "_law_copy" ["thing"] [] (spCopy Z.K 4)) (c__law_due : Can Z CX0 9 "_law_due" ["way", "value"] [] (spDue Z.K)) (c__law_is_letter : Can Z CX0 9 "_law_is_letter" ["text"] [] (spB1 Z.K isLet Sz)) (c__law_join_due : Can Z CX0 9 "_law_join_due" ["parts"] [] (spJDue Z.K)) (c__law_joined : Can Z CX0 9 "_law_joined" ["parts"] [] (spJDue Z.K)) (c__law_letter : Can Z CX0 9 "_law_letter" ["store"] [] (spDraw Z.K (IsS Lt))) (c__law_name : Can Z CX0 9 "_law_name" ["store"] [] (spDraw Z.K (IsS Nm))) (c__law_number : Can Z CX0 9 "_law_number" ["store", "low", "high"] [] (spNumber Z.K)) (c__law_numbers_right : Can Z CX0 9 "_law_numbers_right" ["store"] [] (spRight Z.K)) (c__law_odd : Can Z CX0 9 "_law_odd" ["store"] [] (spDraw Z.K Val)) (c__law_pick : Can Z CX0 9 "_law_pick" ["store", "row"] [] (spPick Z.K)) (c__law_same : Can Z CX0 9 "_law_same" ["due", "seen"] [] (spSame Z.K 4)) (c__law_store : Can Z CX0 9 "_law_store" ["script"] [] (spStore Z.K)) (c__law_told : Can Z CX0 9 "_law_told" ["way", "value"] [] (spDue Z.K)) (c__law_value : Can Z CX0 9 "_law_value" ["store"] [] (spDraw Z.K Val)) {C_BadWord : Addr} (c_split_letter : Can Z (CXn Z) 9 "split_letter" ["text"] [] (spSplit Z.K C_BadWord)) : FnOk Z.P Z.w Z.K Z.mg Z.base CX0 10 f fd ["script"] (spLaw Z.K) := by
  refine F.ok sc_law (fun vs H Q E h => ?_) (fun cdv A outer s H vs Q E hr h => ⟨_, PSs.nox ((pss_cons (ps_set (i := 1) sc_law.nd rfl (Or.inr rfl) (pcall c__law_store hr (pa_cons (pv 0) pa_nil) pass0)) (pss_cons (ps_set (i := 2) sc_law.nd rfl (Or.inl rfl) (pcall c__law_name hr (pa_cons (pv 1) pa_nil) pass0)) (pss_cons (ps_set (i := 3) sc_law.nd rfl (Or.inl rfl) (pcall c__law_letter hr (pa_cons (pv 1) pa_nil) pass0)) (pss_cons (ps_set (i := 4) sc_law.nd rfl (Or.inl rfl) (pe_op o_add (pe_lst (pa_cons (pv 2) (pa_cons (pv 3) (pa_cons (pe_op o_add (pe_op o_add (pv 2) pe_str) (pe_callTy c_str (by rfl) B.str (by decide +kernel) (pa_cons (pcall c__law_number hr (pa_cons (pv 1) (pa_cons pe_int (pa_cons pe_int pa_nil))) pass0) pa_nil))) pa_nil)))) (pe_lc (own := [("k", 5)]) (g := gName 5) (tt := tYes) (by rfl) sc_law.nd (pi_range1 (by rfl) B.range (pa_cons pe_int pa_nil)) (blkOk_by (own := [("k", 5)]) (N := nn_law) (sc := defScope s_law) (by decide +kernel)) (fun _ _ _ _ _ => (pg_name (i := 5) sc_law.nd rfl (Or.inl rfl))) (fun _ _ _ _ _ => pts_nil) (fun _ _ _ _ _ => (pcall c__law_value hr (pa_cons (pv 1) pa_nil) pass0))))) (pss_cons (ps_set (i := 6) sc_law.nd rfl (Or.inl rfl) (pcall c__law_copy hr (pa_cons (pv 4) pa_nil) pass0)) (pss_cons (ps_for PassesOwn.never rfl (k_pi Z.K (pe_op o_add (pv 4) (pe_slice (k_sl Z.K) (pv 4) po_none (po_some pe_int)))) (pg_name (i := 7) sc_law.nd rfl (Or.inl rfl)) (pss_cons (ps_for PassesOwn.never rfl (pi_range1 (by rfl) B.range (pa_cons pe_int pa_nil)) (pg_name (i := 8) sc_law.nd rfl (Or.inl rfl)) (pss_one (ps_if (pt_not (pt_val (pcall c__law_same hr (pa_cons (pcall c__law_due hr (pa_cons (pv 8) (pa_cons (pv 7) pa_nil)) pass0) (pa_cons (pcall c__law_told hr (pa_cons (pv 8) (pa_cons (pv 7) pa_nil)) pass0) pa_nil)) pass0))) (pss_one (ps_ret pe_bl)) pss_nil))) (pss_one (ps_if (pt_val (pcall c__law_is_letter hr (pa_cons (pv 7) pa_nil) pass0)) (pss_cons (ps_set (i := 9) sc_law.nd rfl (Or.inl rfl) (pcall c_split_letter hr (pa_cons (pv 7) pa_nil) passN)) (pss_one (ps_if (pt_not (pt_val (pcall c__law_same hr (pa_cons (pv 7) (pa_cons (pcall c__law_joined hr (pa_cons (pe_lst (pa_cons (pe_ix (k_ix Z.K) (pv 9) pe_int (fun _ _ => rfl)) (pa_cons (pe_ix (k_ix Z.K) (pv 9) pe_int (fun _ _ => rfl)) pa_nil))) pa_nil) pass0) pa_nil)) pass0))) (pss_one (ps_ret pe_bl)) pss_nil))) pss_nil)))) (pss_cons (ps_set (i := 10) sc_law.nd rfl (Or.inl rfl) (pcall c__law_number hr (pa_cons (pv 1) (pa_cons pe_int (pa_cons pe_int pa_nil))) pass0)) (pss_cons (ps_set (i := 11) sc_law.nd rfl (Or.inl rfl) (pe_lst (pa_cons (pe_lst (pa_cons (pv 2) pa_nil)) (pa_cons (pe_lst (pa_cons (pv 2) (pa_cons pe_non pa_nil))) (pa_cons (pe_lst (pa_cons (pv 2) (pa_cons (pv 10) pa_nil))) (pa_cons (pe_lst (pa_cons (pv 2) (pa_cons pe_int pa_nil))) (pa_cons (pe_lst (pa_cons (pv 2) (pa_cons pe_bl pa_nil))) (pa_cons (pe_lst (pa_cons (pv 2) (pa_cons pe_int pa_nil))) (pa_cons (pe_lst (pa_cons (pv 2) (pa_cons pe_int pa_nil))) (pa_cons (pe_lst (pa_cons (pv 2) (pa_cons pe_int pa_nil))) pa_nil)))))))))) (pss_cons (ps_for PassesOwn.never rfl (pi_range1 (by rfl) B.range (pa_cons pe_int pa_nil)) (pg_name (i := 5) sc_law.nd rfl (Or.inl rfl)) (pss_cons (ps_set (i := 12) sc_law.nd rfl (Or.inl rfl) (pcall c__law_pick hr (pa_cons (pv 1) (pa_cons (pe_lst (pa_cons pe_non (pa_cons (pv 10) (pa_cons (pe_op o_sub pe_int pe_int) (pa_cons pe_int (pa_cons pe_bl (pa_cons pe_str (pa_cons (pcall c__law_odd hr (pa_cons (pv 1) pa_nil) pass0) pa_nil)))))))) pa_nil)) pass0)) (pss_cons (ps_expr (k_bm Z.K PySem.F.plainAttrs_list PySem.F.slot_list_append PySem.F.type_list_append mt_append (pv 11) (pa_cons (pe_lst (pa_cons (pcall c__law_pick hr (pa_cons (pv 1) (pa_cons (pv 4) pa_nil)) pass0) (pa_cons (pv 12) pa_nil))) pa_nil))) (pss_one (ps_expr (k_bm Z.K PySem.F.plainAttrs_list PySem.F.slot_list_append PySem.F.type_list_append mt_append (pv 11) (pa_cons (pe_lst (pa_cons (pcall c__law_pick hr (pa_cons (pv 1) (pa_cons (pv 4) pa_nil)) pass0) pa_nil)) pa_nil))))))) (pss_cons (ps_for PassesOwn.never rfl (k_pi Z.K (pv 11)) (pg_name (i := 9) sc_law.nd rfl (Or.inl rfl)) (pss_one (ps_if (pt_not (pt_val (pcall c__law_same hr (pa_cons (pcall c__law_join_due hr (pa_cons (pv 9) pa_nil) pass0) (pa_cons (pcall c__law_joined hr (pa_cons (pv 9) pa_nil) pass0) pa_nil)) pass0))) (pss_one (ps_ret pe_bl)) pss_nil))) (pss_one (ps_ret (pe_and (pcall c__law_numbers_right hr (pa_cons (pv 1) pa_nil) pass0) (pe_one (pcall c__law_same hr (pa_cons (pv 6) (pa_cons (pv 4) pa_nil)) pass0)))))))))))))))), ?_⟩)
  · obtain ⟨W, a, ns, rfl, rfl, _⟩ := h
    rfl
  · obtain ⟨W, a, ns, rfl, rfl, hs, hl, k⟩ := h
    walk_at "go"
    refine use_store hs hl fun st W1 m1 n1 s1 => ?_
    walk_at "go"
    refine use_drawS s1 fun nm W2 m2 s2 hnm => ?_
    walk_at "go"
    refine use_drawS s2 fun lt W3 m3 s3 hlt => ?_
    have hnl := hnm.2.2
    have hll := hlt.len
    walk_at "go"
    refine use_number s3 (by omega) fun n W4 m4 s4 n0 n9 => ?_
    obtain ⟨j, rfl⟩ := Int.eq_ofNat_of_zero_le n0
    have hj2 := num_len (n := j) (k := 2) (by decide) (by omega)
    walk_at "go"
    refine i_str (log2_small (by omega)) ?_
    walk_at "go"
    refine ⟨by walk_at "nat", mk_lst (K := Z.K) (by walk_at "rpl") fun p5 W5 m5 n5 q5 => ?_⟩
    have s5 := s4.up m5 (by walk_at "ne")
    walk_at "go"
    refine ⟨by omega, by omega, fun p6 n6 => ?_⟩
    refine lcR (X := [st]) n6 (fun a ha => by rw [List.mem_singleton.mp ha]; exact s5.inM) (fun i W6 xs => Sto Z.K st W6 ∧ ∃ ds : List D, ds.length = i ∧ (∀ d ∈ ds, Val d) ∧ RpL Z.K W6 xs ds) (fun _ => rfl) (fun W6 m6 o6 => ⟨s5.up m6 (by simp), [], rfl, (fun _ h => nomatch h), .nil⟩) ?_ ?_
    · rintro i W6 xs hi m6 o6 hl6 ⟨s6, ds, e1, e2, r6⟩
      walk_at "go"
      refine use_draw s6 fun v d W7 m7 s7 hv hd => ?_
      refine lc_give n6 (by omega) (m6.trS m7) (o6.up m7 (m6.notin n6)) hl6 fun W8 m8 o8 => ⟨s7.up m8 (by intro h; exact s5.ne n6 (List.mem_singleton.mp h)), ds ++ [d], by simp [e1], ?_, ((r6.up m7).up m8).snoc (hv.up m8)⟩
      intro x hx
      rcases List.mem_append.mp hx with hx | hx
      · exact e2 x hx
      · rw [List.mem_singleton.mp hx]; exact hd
    rintro W6 xs m6 o6 hl6 ⟨s6, ds, e1, e2, r6⟩
    have e1 : ds.length = 7 := e1
    obtain ⟨ys, hy, nMy, ry⟩ := (q5.up m6).lstH
    refine catRL hy o6.1 ry r6 (by rw [ry.length, r6.length, e1]; show 3 + 7 ≤ 1000000; decide) fun p7 W7 m7 n7 q7 => ?_
    have s7 := s6.up m7 (by simp)
    generalize hvs : [D.str nm, D.str lt, D.str (nm ++ Str.ofString "." ++ Str.ofString (toString (j : Int)))] ++ ds = vs at q7
    have hval : ∀ d ∈ vs, Val d := by
      intro d hd
      rw [← hvs] at hd
      rcases List.mem_append.mp hd with hd | hd
      · simp only [List.mem_cons, List.not_mem_nil, or_false] at hd
        rcases hd with rfl | rfl | rfl
        · exact .inr (.inr (.inr (.inl ⟨_, rfl, by omega⟩)))
        · exact .inr (.inr (.inr (.inl ⟨_, rfl, by omega⟩)))
        · exact .inr (.inr (.inr (.inl ⟨_, rfl, by rw [len_app, len_app]; show nm.length + 1 + _ ≤ _; omega⟩)))
      · exact e2 d hd
    have hlen : vs.length = 10 := by rw [← hvs]; simp [e1]
    have hdep : Dep 4 (.lst vs) := .lst (by omega) fun d hd => (hval d hd).dep
    walk_at "go"
    refine use_copy q7 hdep fun cp W8 m8 q8 => ?_
    have s8 := s7.up m8 (by simp)
    have q7 := q7.up m8
    walk_at "go"
    refine any_l ?_
    walk_at "go"
    refine slRL q7 fun p9 W9 es m9 n9 q9 he9 hl9 => ?_
    obtain ⟨ys7, h7, nM7, r7⟩ := (q7.up m9).lstH
    obtain ⟨ys9, h9, nM9, r9⟩ := q9.lstH
    refine catRL h7 h9 r7 r9 (by rw [r7.length, r9.length]; omega) fun p10 W10 m10 n10 q10 => ?_
    obtain ⟨xs10, h10, nM10, r10⟩ := q10.lstH
    have hval2 : ∀ d ∈ vs ++ es, Val d := fun d hd => (List.mem_append.mp hd).elim (hval d) fun h => hval d (he9 d h)
    refine ⟨_, rfl, ⟨_, .inl (.inl h10)⟩, ?_⟩
    have s10 := (s8.up m9 (by simp)).up m10 (by simp)
    refine forL (P := fun i σ W11 => ∃ o1 o2 o3 o4, σ = [some (.ref a), some (.ref st), some (.str nm), some (.str lt), some (.ref p7), o4, some cp, o1, o2, o3, none, none, none] ∧ Mod [] W10 W11) ⟨_, _, _, _, rfl, Mod.refl _⟩ (fun i σ W11 _ ⟨_, _, _, _, _, m⟩ => .inl (.inl (m.keep _ _ (by simp) h10))) ?_ ?_
    · rintro i z _ W11 ez ⟨o1, o2, o3, o4, rfl, m11⟩
      obtain ⟨d, ed, hz⟩ := r10.get ez
      have hd := hval2 d (List.mem_of_getElem? ed)
      have hz := hz.up m11
      walk_at "go"
      refine ⟨by omega, by omega, ?_⟩
      refine forR (fun i σ W12 => ∃ o, σ = [some (.ref a), some (.ref st), some (.str nm), some (.str lt), some (.ref p7), o4, some cp, some z, o, o3, none, none, none] ∧ Mod [] W11 W12) ⟨_, rfl, Mod.refl _⟩ ?_ ?_
      · rintro i2 _ W12 hi2 ⟨o, rfl, m12⟩
        walk_at "go"
        refine use_due (hz.up m12) hd.sz fun r1 W13 m13 q13 => ?_
        walk_at "go"
        refine use_due ((hz.up m12).up m13) hd.sz fun r2 W14 m14 q14 => ?_
        walk_at "go"
        refine use_same (q13.up m14) q14 (dep_due _ _) fun W15 m15 => ?_
        walk_at "go"
        exact ⟨W15, rfl, _, rfl, ((m12.tr0 m13).tr0 m14).tr0 m15⟩
      rintro _ W12 ⟨o, rfl, m12⟩
      have hz2 := hz.up m12
      walk_at "go"
      refine use_B1 hz2 hd.sz fun W13 m13 => ?_
      walk_at "go"
      cases hl : isLet d with
      | false =>
        walk_at "go"
        exact ⟨W13, rfl, _, _, _, _, rfl, (m11.tr0 m12).tr0 m13⟩
      | true =>
        obtain ⟨y, rfl, hy2⟩ := isLet_str hl
        have hz3 := hz2.up m13
        walk_at "go"
        refine ⟨W13, _, _, rfl, rfl, hz3, hd.sz, fun h => absurd h (by rw [hl]; decide), fun _ p14 W14 m14 q14 => ?_⟩
        rw [splD_let hy2] at q14
        obtain ⟨nm2, ob, e5, en, ej⟩ := spl_join_back hy2
        rw [e5] at q14
        walk_at "go"
        refine ixRT q14 (by decide) (d := .str nm2) rfl fun v hv => ?_
        cases hv
        walk_at "go"
        refine ixRT q14 (by decide) (d := ob) rfl fun u hu => ?_
        walk_at "go"
        refine ⟨by walk_at "nat", mk_lst (K := Z.K) (.cons .str (.cons hu .nil)) fun p15 W15 m15 n15 q15 => ?_⟩
        walk_at "go"
        have hnm2 := (nm_of en).2.2
        refine use_jdue q15 (by simp) (fun x e => by cases e; omega) fun r W16 m16 q16 => ?_
        rw [show joinD (.str nm2) ([ob].headD .non) = .str y from ej] at q16
        walk_at "go"
        refine use_same (((hz3.up m14).up m15).up m16) q16 .str fun W17 m17 => ?_
        walk_at "go"
        exact ⟨W17, rfl, _, _, _, _, rfl, (((((m11.tr0 m12).tr0 m13).tr0 m14).tr0 m15).tr0 m16).tr0 m17⟩
    · rintro _ W11 ⟨o1, o2, o3, o4, rfl, m11⟩
      have s11 := s10.up m11 (by simp)
      have q11 := ((q7.up m9).up m10).up m11
      have c11 := ((q8.up m9).up m10).up m11
      walk_at "go"
      refine use_number s11 (by omega) fun nn W12 m12 s12 g0 g9 => ?_
      have q12 := q11.up m12
      have c12 := c11.up m12
      walk_at "go"
      refine ⟨by walk_at "nat", mk_lst (K := Z.K) (ds := [.str nm]) (by walk_at "rpl") fun t1 W13 m13 n13 t1q => ?_⟩
      walk_at "go"
      refine ⟨by walk_at "nat", mk_lst (K := Z.K) (ds := [.str nm, .non]) (by walk_at "rpl") fun t2 W14 m14 n14 t2q => ?_⟩
      walk_at "go"
      refine ⟨by walk_at "nat", mk_lst (K := Z.K) (ds := [.str nm, .int nn]) (by walk_at "rpl") fun t3 W15 m15 n15 t3q => ?_⟩
      walk_at "go"
      refine ⟨by walk_at "nat", mk_lst (K := Z.K) (ds := [.str nm, .int 1]) (by walk_at "rpl") fun t4 W16 m16 n16 t4q => ?_⟩
      walk_at "go"
      refine ⟨by walk_at "nat", mk_lst (K := Z.K) (ds := [.str nm, .bl true]) (by walk_at "rpl") fun t5 W17 m17 n17 t5q => ?_⟩
      walk_at "go"
      refine ⟨by walk_at "nat", mk_lst (K := Z.K) (ds := [.str nm, .int 1]) (by walk_at "rpl") fun t6 W18 m18 n18 t6q => ?_⟩
      walk_at "go"
      refine ⟨by walk_at "nat", mk_lst (K := Z.K) (ds := [.str nm, .int 99]) (by walk_at "rpl") fun t7 W19 m19 n19 t7q => ?_⟩
      walk_at "go"
      refine ⟨by walk_at "nat", mk_lst (K := Z.K) (ds := [.str nm, .int 100]) (by walk_at "rpl") fun t8 W20 m20 n20 t8q => ?_⟩
      walk_at "go"
      refine ⟨by walk_at "nat", mk_own fun pp W21 m21 n21 o21 => ?_⟩
      have M8 := ((((((m13.tr0 m14).tr0 m15).tr0 m16).tr0 m17).tr0 m18).tr0 m19).tr0 m20
      have s20 := s12.up M8 (by simp)
      have npp : pp ≠ st := fun e => s20.ne n21 e.symm
      have hnmS : Sz (.str nm) := fun x e => by cases e; omega
      have PO : ∀ es, es.length ≤ 1 → PairOk (.lst (.str nm :: es)) := fun es h => ⟨_, es, rfl, h, hnmS⟩
      have L0 : LawI Z.K st pp p7 cp vs W21 [.ref t1, .ref t2, .ref t3, .ref t4, .ref t5, .ref t6, .ref t7, .ref t8] [.lst [.str nm], .lst [.str nm, .non], .lst [.str nm, .int nn], .lst [.str nm, .int 1], .lst [.str nm, .bl true], .lst [.str nm, .int 1], .lst [.str nm, .int 99], .lst [.str nm, .int 100]] := by
        refine ⟨s20.up m21 (by simp), (q12.up M8).up m21, (c12.up M8).up m21, o21, ?_, ?_⟩
        · have r8 : RpL Z.K W20 [.ref t8] [.lst [.str nm, .int 100]] := .cons t8q .nil
          have r7 : RpL Z.K W20 [.ref t7, .ref t8] [.lst [.str nm, .int 99], .lst [.str nm, .int 100]] := .cons (t7q.up m20) r8
          have r6 := RpL.cons ((t6q.up m19).up m20) r7
          have r5 := RpL.cons (((t5q.up m18).up m19).up m20) r6
          have r4 := RpL.cons ((((t4q.up m17).up m18).up m19).up m20) r5
          have r3 := RpL.cons (((((t3q.up m16).up m17).up m18).up m19).up m20) r4
          have r2 := RpL.cons ((((((t2q.up m15).up m16).up m17).up m18).up m19).up m20) r3
          exact (RpL.cons (((((((t1q.up m14).up m15).up m16).up m17).up m18).up m19).up m20) r2).up m21
        · intro d hd
          simp only [List.mem_cons, List.not_mem_nil, or_false] at hd
          rcases hd with rfl | rfl | rfl | rfl | rfl | rfl | rfl | rfl <;> exact PO _ (by simp)
      walk_at "go"
      refine ⟨by omega, by omega, ?_⟩
      refine forR (fun i σ W22 => ∃ o5 o6 xs pd, σ = [some (.ref a), some (.ref st), some (.str nm), some (.str lt), some (.ref p7), o5, some cp, o1, o2, o3, some (.int nn), some (.ref pp), o6] ∧ LawI Z.K st pp p7 cp vs W22 xs pd ∧ xs.length = 8 + 2 * i) ⟨_, _, _, _, rfl, L0, rfl⟩ ?_ ?_
      · rintro i _ W22 hi ⟨o5, o6, xs, pd, rfl, L, hxl⟩
        have hi : i < 4 := hi
        walk_at "go"
        refine use_draw L.s fun v d W23 m23 s23 hv hd => ?_
        have L := L.upS m23 s23 npp
        walk_at "go"
        refine ⟨by walk_at "nat", mk_lst (K := Z.K) (.cons .non (.cons .int (.cons .int (.cons .int (.cons .bl (.cons .str (.cons hv .nil))))))) fun p24 W24 m24 n24 q24 => ?_⟩
        have L := L.up0 m24
        walk_at "go"
        refine use_pick L.s q24 (by simp) (by simp) fun ot dt W25 m25 s25 hdt hot => ?_
        have L := L.upS m25 s25 npp
        walk_at "go"
        refine ⟨tyO L.o, ?_⟩
        walk_at "go"
        refine use_pick L.s L.v (by rw [← List.length_pos_iff, hlen]; decide) (by rw [hlen]; decide) fun v1 d1 W26 m26 s26 hd1 hv1 => ?_
        have L := L.upS m26 s26 npp
        walk_at "go"
        refine ⟨by walk_at "nat", mk_lst (K := Z.K) (.cons hv1 (.cons (hot.up m26) .nil)) fun p27 W27 m27 n27 q27 => ?_⟩
        have L := L.up0 m27
        walk_at "go"
        refine appO L.o (by rw [hxl]; exact szl (by omega)) fun W28 m28 o28 => ?_
        have L := L.app m28 o28 npp q27 ⟨_, _, rfl, by simp, (hval _ hd1).sz⟩
        walk_at "go"
        refine ⟨tyO L.o, ?_⟩
        walk_at "go"
        refine use_pick L.s L.v (by rw [← List.length_pos_iff, hlen]; decide) (by rw [hlen]; decide) fun v2 d2 W29 m29 s29 hd2 hv2 => ?_
        have L := L.upS m29 s29 npp
        walk_at "go"
        refine ⟨by walk_at "nat", mk_lst (K := Z.K) (.cons hv2 .nil) fun p30 W30 m30 n30 q30 => ?_⟩
        have L := L.up0 m30
        walk_at "go"
        refine appO L.o (by rw [List.length_append, hxl]; exact szl (by simp; omega)) fun W31 m31 o31 => ?_
        have L := L.app m31 o31 npp q30 ⟨_, [], rfl, by simp, (hval _ hd2).sz⟩
        walk_at "go"
        exact ⟨W31, rfl, _, _, _, _, rfl, L, by simp [hxl]; omega⟩
      rintro _ W22 ⟨o5, o6, xs, pd, rfl, L, hxl⟩
      walk_at "go"
      refine any_l ?_
      walk_at "go"
      refine ⟨⟨_, L.o.sq⟩, ?_⟩
      refine forL (zs := xs) (P := fun i σ W23 => ∃ o5 o6 o7, σ = [some (.ref a), some (.ref st), some (.str nm), some (.str lt), some (.ref p7), o5, some cp, o1, o2, o7, some (.int nn), some (.ref pp), o6] ∧ LawI Z.K st pp p7 cp vs W23 xs pd) ⟨_, _, _, rfl, L⟩ (fun i σ W23 _ ⟨_, _, _, _, l⟩ => l.o.sq) ?_ ?_
      · rintro i z _ W23 ez ⟨o5, o6, o7, rfl, L⟩
        obtain ⟨d, ed, hz⟩ := L.r.get ez
        obtain ⟨x, es2, rfl, hle, hsx⟩ := L.p d (List.mem_of_getElem? ed)
        obtain ⟨pz, rfl⟩ : ∃ p, z = .ref p := by cases hz; exact ⟨_, rfl⟩
        walk_at "go"
        refine use_jdue hz hle hsx fun r1 W24 m24 q24 => ?_
        walk_at "go"
        refine use_jdue (hz.up m24) hle hsx fun r2 W25 m25 q25 => ?_
        walk_at "go"
        refine use_same (q24.up m25) q25 (dep_join _ _) fun W26 m26 => ?_
        walk_at "go"
        exact ⟨W26, rfl, _, _, _, rfl, ((L.up0 m24).up0 m25).up0 m26⟩
      · rintro _ W23 ⟨o5, o6, o7, rfl, L⟩
        walk_at "go"
        refine use_right L.s fun W24 m24 s24 => ?_
        have L := L.upS m24 s24 npp
        walk_at "go"
        exact use_same L.c L.v hdep fun W25 m25 => k _

def fn : List He.DefD := [
  ⟨("is_whole", none), "is_whole", "is_whole", defArgs s_is_whole, defBody s_is_whole, defScope s_is_whole, [], []⟩,
  ⟨("good_name", none), "good_name", "good_name", defArgs s_good_name, defBody s_good_name, defScope s_good_name, [], []⟩,
  ⟨("free_name", none), "free_name", "free_name", defArgs s_free_name, defBody s_free_name, defScope s_free_name, [], []⟩,
  ⟨("short_number", none), "short_number", "short_number", defArgs s_short_number, defBody s_short_number, defScope s_short_number, [], []⟩,
  ⟨("good_letter", none), "good_letter", "good_letter", defArgs s_good_letter, defBody s_good_letter, defScope s_good_letter, [], []⟩,
  ⟨("split_letter", none), "split_letter", "split_letter", defArgs s_split_letter, defBody s_split_letter, defScope s_split_letter, [], []⟩,
  ⟨("join_letter", none), "join_letter", "join_letter", defArgs s_join_letter, defBody s_join_letter, defScope s_join_letter, [.non], []⟩,
  ⟨("_law_store", none), "_law_store", "_law_store", defArgs s_law_store, defBody s_law_store, defScope s_law_store, [], []⟩,
  ⟨("_law_load", none), "_law_load", "_law_load", defArgs s_law_load, defBody s_law_load, defScope s_law_load, [], []⟩,
  ⟨("_law_take", none), "_law_take", "_law_take", defArgs s_law_take, defBody s_law_take, defScope s_law_take, [], []⟩,
  ⟨("_law_number", none), "_law_number", "_law_number", defArgs s_law_number, defBody s_law_number, defScope s_law_number, [], []⟩,
  ⟨("_law_pick", none), "_law_pick", "_law_pick", defArgs s_law_pick, defBody s_law_pick, defScope s_law_pick, [], []⟩,
  ⟨("_law_big", none), "_law_big", "_law_big", defArgs s_law_big, defBody s_law_big, defScope s_law_big, [], []⟩,
  ⟨("_law_odd", none), "_law_odd", "_law_odd", defArgs s_law_odd, defBody s_law_odd, defScope s_law_odd, [], []⟩,
  ⟨("_law_spell", none), "_law_spell", "_law_spell", defArgs s_law_spell, defBody s_law_spell, defScope s_law_spell, [], []⟩,
  ⟨("_law_reserved", none), "_law_reserved", "_law_reserved", defArgs s_law_reserved, defBody s_law_reserved, defScope s_law_reserved, [], []⟩,
  ⟨("_law_name", none), "_law_name", "_law_name", defArgs s_law_name, defBody s_law_name, defScope s_law_name, [], []⟩,
  ⟨("_law_letter", none), "_law_letter", "_law_letter", defArgs s_law_letter, defBody s_law_letter, defScope s_law_letter, [], []⟩,
  ⟨("_law_near", none), "_law_near", "_law_near", defArgs s_law_near, defBody s_law_near, defScope s_law_near, [], []⟩,
  ⟨("_law_is_name", none), "_law_is_name", "_law_is_name", defArgs s_law_is_name, defBody s_law_is_name, defScope s_law_is_name, [], []⟩,
  ⟨("_law_is_free", none), "_law_is_free", "_law_is_free", defArgs s_law_is_free, defBody s_law_is_free, defScope s_law_is_free, [], []⟩,
  ⟨("_law_is_letter", none), "_law_is_letter", "_law_is_letter", defArgs s_law_is_letter, defBody s_law_is_letter, defScope s_law_is_letter, [], []⟩,
  ⟨("_law_integer", none), "_law_integer", "_law_integer", defArgs s_law_integer, defBody s_law_integer, defScope s_law_integer, [], []⟩,
  ⟨("_law_same", none), "_law_same", "_law_same", defArgs s_law_same, defBody s_law_same, defScope s_law_same, [], []⟩,
  ⟨("_law_copy", none), "_law_copy", "_law_copy", defArgs s_law_copy, defBody s_law_copy, defScope s_law_copy, [], []⟩,
  ⟨("_law_error", none), "_law_error", "_law_error", defArgs s_law_error, defBody s_law_error, defScope s_law_error, [], []⟩,
  ⟨("_law_value", none), "_law_value", "_law_value", defArgs s_law_value, defBody s_law_value, defScope s_law_value, [], []⟩,
  ⟨("_law_told", none), "_law_told", "_law_told", defArgs s_law_told, defBody s_law_told, defScope s_law_told, [], []⟩,
  ⟨("_law_due", none), "_law_due", "_law_due", defArgs s_law_due, defBody s_law_due, defScope s_law_due, [], []⟩,
  ⟨("_law_joined", none), "_law_joined", "_law_joined", defArgs s_law_joined, defBody s_law_joined, defScope s_law_joined, [], []⟩,
  ⟨("_law_join_due", none), "_law_join_due", "_law_join_due", defArgs s_law_join_due, defBody s_law_join_due, defScope s_law_join_due, [], []⟩,
  ⟨("_law_numbers_right", none), "_law_numbers_right", "_law_numbers_right", defArgs s_law_numbers_right, defBody s_law_numbers_right, defScope s_law_numbers_right, [], []⟩,
  ⟨("law", none), "law", "law", defArgs s_law, defBody s_law, defScope s_law, [], []⟩]
def fa : List He.Fa := [.glo "is_whole", .glo "good_name", .glo "free_name", .glo "short_number", .glo "good_letter", .glo "split_letter",
  .glo "join_letter", .glo "_law_store", .glo "_law_load", .glo "_law_take", .glo "_law_number", .glo "_law_pick",
  .glo "_law_big", .glo "_law_odd", .glo "_law_spell", .glo "_law_reserved", .glo "_law_name", .glo "_law_letter",
  .glo "_law_near", .glo "_law_is_name", .glo "_law_is_free", .glo "_law_is_letter", .glo "_law_integer", .glo "_law_same",
  .glo "_law_copy", .glo "_law_error", .glo "_law_value", .glo "_law_told", .glo "_law_due", .glo "_law_joined",
  .glo "_law_join_due", .glo "_law_numbers_right", .glo "law", .glo "BadMachine", .glo "BadNet", .glo "BadStanding",
  .glo "BadWord", .glo "BadText", .glo "BadWish", .glo "BadPaper", .glo "Cannot", .glo "Loud",
  .glo "NotCalm", .glo "NotThere", .glo "NoJoin", .glo "TooMany", .glo "Reserved", .glo "Nothing",
  .glo "OneError", .free "len", .free "range", .free "isinstance", .free "int", .free "str",
  .free "bool", .free "list", .free "tuple", .free "dict", .free "all", .free "any",
  .free "abs", .free "sum", .free "sorted", .free "min", .free "max", .free "set",
  .free "enumerate", .free "zip", .free "reversed", .free "ValueError", .exc "BadWord", .exm "BadWord" "OneError" true,
  .str "DIGITS" (Str.ofString "0123456789"), .int "GREATEST_NUMBER" 99, .int "LONGEST_NAME" 8, .str "SMALL_LETTERS" (Str.ofString "abcdefghijklmnopqrstuvwxyz"), .glo "TAKEN_NAMES"]
def ex (K : PySem.W.Frag) : Bool := (He.tupB K "TAKEN_NAMES" [.str (Str.ofString "line"), .str (Str.ofString "not"), .str (Str.ofString "and"), .str (Str.ofString "or"), .str (Str.ofString "by"), .str (Str.ofString "quiet"), .str (Str.ofString "stuck"), .str (Str.ofString "done"), .str (Str.ofString "own")] && (errB K "BadWord" errNs && true))
theorem chain {Z : Env} {h : Heap} {f : Addr} {fd : FuncData} (X : Z.K.In h) (G : h.Ns mainGlobals Z.mg) (c : He.SaysD fa fn Z.K) (cx : ex Z.K = true) (F : FunD Z.K "law" "law" (defArgs s_law) (defBody s_law) (defScope s_law) [] [] f fd) :
    FnOk Z.P Z.w Z.K Z.mg Z.base CX0 10 f fd ["script"] (spLaw Z.K) := by
  obtain ⟨x_TAKEN_NAMES, cx⟩ := He.ba cx
  obtain ⟨x_row_BadWord, cx⟩ := He.ba cx
  have B : Std Z := ⟨He.free_ok X G (c.fact 49 rfl), He.free_ok X G (c.fact 50 rfl), He.free_ok X G (c.fact 51 rfl), He.free_ok X G (c.fact 52 rfl), He.free_ok X G (c.fact 53 rfl), He.free_ok X G (c.fact 54 rfl), He.free_ok X G (c.fact 55 rfl), He.free_ok X G (c.fact 56 rfl), He.free_ok X G (c.fact 57 rfl), He.free_ok X G (c.fact 58 rfl), He.free_ok X G (c.fact 59 rfl), He.free_ok X G (c.fact 60 rfl), He.free_ok X G (c.fact 61 rfl), He.free_ok X G (c.fact 62 rfl), He.free_ok X G (c.fact 63 rfl), He.free_ok X G (c.fact 64 rfl), He.free_ok X G (c.fact 65 rfl), He.free_ok X G (c.fact 66 rfl), He.free_ok X G (c.fact 67 rfl), He.free_ok X G (c.fact 68 rfl), He.free_ok X G (c.fact 69 rfl)⟩
  have g_DIGITS : Gv Z "DIGITS" (.str (Str.ofString "0123456789")) := gvS (He.str_ok X G (c.fact 72 rfl))
  have g_GREATEST_NUMBER : Gv Z "GREATEST_NUMBER" (.int 99) := gvI (He.int_ok X G (c.fact 73 rfl))
  have g_LONGEST_NAME : Gv Z "LONGEST_NAME" (.int 8) := gvI (He.int_ok X G (c.fact 74 rfl))
  have g_SMALL_LETTERS : Gv Z "SMALL_LETTERS" (.str (Str.ofString "abcdefghijklmnopqrstuvwxyz")) := gvS (He.str_ok X G (c.fact 75 rfl))
  have g_TAKEN_NAMES : GTup Z "TAKEN_NAMES" resVs := gtup_ok (He.glo_ok X G (c.fact 76 rfl)) x_TAKEN_NAMES rfl
  have k_BadMachine : Z.mg "BadMachine" = some (.ref (He.ga Z.K "BadMachine")) := He.glo_ok X G (c.fact 33 rfl)
  have k_BadNet : Z.mg "BadNet" = some (.ref (He.ga Z.K "BadNet")) := He.glo_ok X G (c.fact 34 rfl)
  have k_BadStanding : Z.mg "BadStanding" = some (.ref (He.ga Z.K "BadStanding")) := He.glo_ok X G (c.fact 35 rfl)
  have k_BadWord : Z.mg "BadWord" = some (.ref (He.ga Z.K "BadWord")) := He.glo_ok X G (c.fact 36 rfl)
  have k_BadText : Z.mg "BadText" = some (.ref (He.ga Z.K "BadText")) := He.glo_ok X G (c.fact 37 rfl)
  have k_BadWish : Z.mg "BadWish" = some (.ref (He.ga Z.K "BadWish")) := He.glo_ok X G (c.fact 38 rfl)
  have k_BadPaper : Z.mg "BadPaper" = some (.ref (He.ga Z.K "BadPaper")) := He.glo_ok X G (c.fact 39 rfl)
  have k_Cannot : Z.mg "Cannot" = some (.ref (He.ga Z.K "Cannot")) := He.glo_ok X G (c.fact 40 rfl)
  have k_Loud : Z.mg "Loud" = some (.ref (He.ga Z.K "Loud")) := He.glo_ok X G (c.fact 41 rfl)
  have k_NotCalm : Z.mg "NotCalm" = some (.ref (He.ga Z.K "NotCalm")) := He.glo_ok X G (c.fact 42 rfl)
  have k_NotThere : Z.mg "NotThere" = some (.ref (He.ga Z.K "NotThere")) := He.glo_ok X G (c.fact 43 rfl)
  have k_NoJoin : Z.mg "NoJoin" = some (.ref (He.ga Z.K "NoJoin")) := He.glo_ok X G (c.fact 44 rfl)
  have k_TooMany : Z.mg "TooMany" = some (.ref (He.ga Z.K "TooMany")) := He.glo_ok X G (c.fact 45 rfl)
  have k_Reserved : Z.mg "Reserved" = some (.ref (He.ga Z.K "Reserved")) := He.glo_ok X G (c.fact 46 rfl)
  have k_Nothing : Z.mg "Nothing" = some (.ref (He.ga Z.K "Nothing")) := He.glo_ok X G (c.fact 47 rfl)
  have k_OneError : Z.mg "OneError" = some (.ref (He.ga Z.K "OneError")) := He.glo_ok X G (c.fact 48 rfl)
  have e_BadWord : ErrC Z "BadWord" (He.ga Z.K "BadWord") := errC_ok k_BadWord (c.fact 70 rfl)
  have m_BadWord := He.exm_ok (c.fact 71 rfl)
  have r_BadWord : ErrRow Z (He.ga Z.K "BadWord") "BadWord" errNs := errB_ok x_row_BadWord (by
    intro y hy
    simp only [errNs, List.mem_cons, List.not_mem_nil, or_false] at hy
    rcases hy with rfl | rfl | rfl | rfl | rfl | rfl | rfl | rfl | rfl | rfl | rfl | rfl | rfl | rfl | rfl
    · exact k_BadMachine
    · exact k_BadNet
    · exact k_BadStanding
    · exact k_BadWord
    · exact k_BadText
    · exact k_BadWish
    · exact k_BadPaper
    · exact k_Cannot
    · exact k_Loud
    · exact k_NotCalm
    · exact k_NotThere
    · exact k_NoJoin
    · exact k_TooMany
    · exact k_Reserved
    · exact k_Nothing
    ) k_OneError
  have t_OneError : CatC Z "OneError" (He.ga Z.K "OneError") := ⟨k_OneError⟩
  have D_is_whole : DefAt Z "is_whole" s_is_whole [] := defAt_ok (He.glo_ok X G (c.fact 0 rfl)) (c.def_ 0 rfl)
  have D_good_name : DefAt Z "good_name" s_good_name [] := defAt_ok (He.glo_ok X G (c.fact 1 rfl)) (c.def_ 1 rfl)
  have D_free_name : DefAt Z "free_name" s_free_name [] := defAt_ok (He.glo_ok X G (c.fact 2 rfl)) (c.def_ 2 rfl)
  have D_short_number : DefAt Z "short_number" s_short_number [] := defAt_ok (He.glo_ok X G (c.fact 3 rfl)) (c.def_ 3 rfl)
  have D_good_letter : DefAt Z "good_letter" s_good_letter [] := defAt_ok (He.glo_ok X G (c.fact 4 rfl)) (c.def_ 4 rfl)
  have D_split_letter : DefAt Z "split_letter" s_split_letter [] := defAt_ok (He.glo_ok X G (c.fact 5 rfl)) (c.def_ 5 rfl)
  have D_join_letter : DefAt Z "join_letter" s_join_letter [.non] := defAt_ok (He.glo_ok X G (c.fact 6 rfl)) (c.def_ 6 rfl)
  have D__law_store : DefAt Z "_law_store" s_law_store [] := defAt_ok (He.glo_ok X G (c.fact 7 rfl)) (c.def_ 7 rfl)
  have D__law_load : DefAt Z "_law_load" s_law_load [] := defAt_ok (He.glo_ok X G (c.fact 8 rfl)) (c.def_ 8 rfl)
  have D__law_take : DefAt Z "_law_take" s_law_take [] := defAt_ok (He.glo_ok X G (c.fact 9 rfl)) (c.def_ 9 rfl)
  have D__law_number : DefAt Z "_law_number" s_law_number [] := defAt_ok (He.glo_ok X G (c.fact 10 rfl)) (c.def_ 10 rfl)
  have D__law_pick : DefAt Z "_law_pick" s_law_pick [] := defAt_ok (He.glo_ok X G (c.fact 11 rfl)) (c.def_ 11 rfl)
  have D__law_big : DefAt Z "_law_big" s_law_big [] := defAt_ok (He.glo_ok X G (c.fact 12 rfl)) (c.def_ 12 rfl)
  have D__law_odd : DefAt Z "_law_odd" s_law_odd [] := defAt_ok (He.glo_ok X G (c.fact 13 rfl)) (c.def_ 13 rfl)
  have D__law_spell : DefAt Z "_law_spell" s_law_spell [] := defAt_ok (He.glo_ok X G (c.fact 14 rfl)) (c.def_ 14 rfl)
  have D__law_reserved : DefAt Z "_law_reserved" s_law_reserved [] := defAt_ok (He.glo_ok X G (c.fact 15 rfl)) (c.def_ 15 rfl)
  have D__law_name : DefAt Z "_law_name" s_law_name [] := defAt_ok (He.glo_ok X G (c.fact 16 rfl)) (c.def_ 16 rfl)
  have D__law_letter : DefAt Z "_law_letter" s_law_letter [] := defAt_ok (He.glo_ok X G (c.fact 17 rfl)) (c.def_ 17 rfl)
  have D__law_near : DefAt Z "_law_near" s_law_near [] := defAt_ok (He.glo_ok X G (c.fact 18 rfl)) (c.def_ 18 rfl)
  have D__law_is_name : DefAt Z "_law_is_name" s_law_is_name [] := defAt_ok (He.glo_ok X G (c.fact 19 rfl)) (c.def_ 19 rfl)
  have D__law_is_free : DefAt Z "_law_is_free" s_law_is_free [] := defAt_ok (He.glo_ok X G (c.fact 20 rfl)) (c.def_ 20 rfl)
  have D__law_is_letter : DefAt Z "_law_is_letter" s_law_is_letter [] := defAt_ok (He.glo_ok X G (c.fact 21 rfl)) (c.def_ 21 rfl)
  have D__law_integer : DefAt Z "_law_integer" s_law_integer [] := defAt_ok (He.glo_ok X G (c.fact 22 rfl)) (c.def_ 22 rfl)
  have D__law_same : DefAt Z "_law_same" s_law_same [] := defAt_ok (He.glo_ok X G (c.fact 23 rfl)) (c.def_ 23 rfl)
  have D__law_copy : DefAt Z "_law_copy" s_law_copy [] := defAt_ok (He.glo_ok X G (c.fact 24 rfl)) (c.def_ 24 rfl)
  have D__law_error : DefAt Z "_law_error" s_law_error [] := defAt_ok (He.glo_ok X G (c.fact 25 rfl)) (c.def_ 25 rfl)
  have D__law_value : DefAt Z "_law_value" s_law_value [] := defAt_ok (He.glo_ok X G (c.fact 26 rfl)) (c.def_ 26 rfl)
  have D__law_told : DefAt Z "_law_told" s_law_told [] := defAt_ok (He.glo_ok X G (c.fact 27 rfl)) (c.def_ 27 rfl)
  have D__law_due : DefAt Z "_law_due" s_law_due [] := defAt_ok (He.glo_ok X G (c.fact 28 rfl)) (c.def_ 28 rfl)
  have D__law_joined : DefAt Z "_law_joined" s_law_joined [] := defAt_ok (He.glo_ok X G (c.fact 29 rfl)) (c.def_ 29 rfl)
  have D__law_join_due : DefAt Z "_law_join_due" s_law_join_due [] := defAt_ok (He.glo_ok X G (c.fact 30 rfl)) (c.def_ 30 rfl)
  have D__law_numbers_right : DefAt Z "_law_numbers_right" s_law_numbers_right [] := defAt_ok (He.glo_ok X G (c.fact 31 rfl)) (c.def_ 31 rfl)
  have h__law_copy0 : Can Z CX0 0 "_law_copy" ["thing"] [] (spCopy Z.K 0) := can_zero D__law_copy sc_law_copy (fun vs H Q E ⟨_, h⟩ => by
    obtain ⟨_, _, h⟩ := h
    first | (obtain ⟨_, _, _, _, _, h, _⟩ := h; cases h; done) | (obtain ⟨_, _, _, h, _⟩ := h; cases h; done)) (fun _ _ _ _ _ _ us hl => match us, hl with | [_], _ => rfl)
  have h__law_copy1 := can_law_copy (Z := Z) (n := 0) B D__law_copy (c__law_copy := h__law_copy0)
  have h__law_copy2 := can_law_copy (Z := Z) (n := 1) B D__law_copy (c__law_copy := h__law_copy1)
  have h__law_copy3 := can_law_copy (Z := Z) (n := 2) B D__law_copy (c__law_copy := h__law_copy2)
  have h__law_copy4 := can_law_copy (Z := Z) (n := 3) B D__law_copy (c__law_copy := h__law_copy3)
  have h__law_same0 : Can Z CX0 0 "_law_same" ["due", "seen"] [] (spSame Z.K 0) := can_zero D__law_same sc_law_same (fun vs H Q E ⟨_, h⟩ => by
    obtain ⟨_, _, h⟩ := h
    first | (obtain ⟨_, _, _, _, _, h, _⟩ := h; cases h; done) | (obtain ⟨_, _, _, h, _⟩ := h; cases h; done)) (fun _ _ _ _ _ _ us hl => match us, hl with | [_, _], _ => rfl)
  have h__law_same1 := can_law_same (Z := Z) (n := 0) B D__law_same (c__law_same := h__law_same0)
  have h__law_same2 := can_law_same (Z := Z) (n := 1) B D__law_same (c__law_same := h__law_same1)
  have h__law_same3 := can_law_same (Z := Z) (n := 2) B D__law_same (c__law_same := h__law_same2)
  have h__law_same4 := can_law_same (Z := Z) (n := 3) B D__law_same (c__law_same := h__law_same3)
  have h__law_integer := can_law_integer (Z := Z) B D__law_integer
  have h__law_is_name := can_law_is_name (Z := Z) B D__law_is_name
  have h__law_load := can_law_load (Z := Z) B D__law_load
  have h__law_reserved := can_law_reserved (Z := Z) B D__law_reserved
  have h__law_store := can_law_store (Z := Z) B D__law_store
  have h_good_name := can_good_name (Z := Z) B D_good_name (g_LONGEST_NAME := g_LONGEST_NAME) (g_SMALL_LETTERS := g_SMALL_LETTERS)
  have h_is_whole := can_is_whole (Z := Z) B D_is_whole
  have h_short_number := can_short_number (Z := Z) B D_short_number (g_DIGITS := g_DIGITS)
  have h__law_is_free := can_law_is_free (Z := Z) B D__law_is_free (c__law_is_name := h__law_is_name.mono (by decide)) (c__law_reserved := h__law_reserved.mono (by decide))
  have h__law_is_letter := can_law_is_letter (Z := Z) B D__law_is_letter (c__law_is_name := h__law_is_name.mono (by decide))
  have h__law_join_due := can_law_join_due (Z := Z) B D__law_join_due (c__law_integer := h__law_integer.mono (by decide)) (c__law_is_name := h__law_is_name.mono (by decide))
  have h__law_take := can_law_take (Z := Z) B D__law_take (c__law_load := h__law_load.mono (by decide))
  have h_free_name := can_free_name (Z := Z) B D_free_name (c_good_name := h_good_name.mono (by decide)) (g_TAKEN_NAMES := g_TAKEN_NAMES)
  have h_good_letter := can_good_letter (Z := Z) B D_good_letter (c_good_name := h_good_name.mono (by decide)) (c_short_number := h_short_number.mono (by decide))
  have h_join_letter_1 := can_join_letter_1 (Z := Z) B D_join_letter (e_BadWord := e_BadWord) (c_good_name := h_good_name.mono (by decide)) (c_is_whole := h_is_whole.mono (by decide)) (g_GREATEST_NUMBER := g_GREATEST_NUMBER)
  have h_join_letter_2 := can_join_letter_2 (Z := Z) B D_join_letter (e_BadWord := e_BadWord) (c_good_name := h_good_name.mono (by decide)) (c_is_whole := h_is_whole.mono (by decide)) (g_GREATEST_NUMBER := g_GREATEST_NUMBER)
  have h__law_big := can_law_big (Z := Z) B D__law_big (c__law_take := h__law_take.mono (by decide))
  have h__law_due := can_law_due (Z := Z) B D__law_due (c__law_is_free := h__law_is_free.mono (by decide)) (c__law_is_letter := h__law_is_letter.mono (by decide)) (c__law_is_name := h__law_is_name.mono (by decide))
  have h__law_number := can_law_number (Z := Z) B D__law_number (c__law_take := h__law_take.mono (by decide))
  have h__law_pick := can_law_pick (Z := Z) B D__law_pick (c__law_take := h__law_take.mono (by decide))
  have h__law_spell := can_law_spell (Z := Z) B D__law_spell (c__law_take := h__law_take.mono (by decide))
  have h_split_letter := can_split_letter (Z := Z) B D_split_letter (e_BadWord := e_BadWord) (c_good_letter := h_good_letter.mono (by decide))
  have h__law_joined := can_law_joined (Z := Z) B D__law_joined (k_OneError := t_OneError) (c__law_error := can_law_error B D__law_error) (c_join_letter_1 := h_join_letter_1.mono (by decide)) (c_join_letter_2 := h_join_letter_2.mono (by decide)) (m_BadWord := m_BadWord) (r_BadWord := r_BadWord)
  have h__law_name := can_law_name (Z := Z) B D__law_name (c__law_number := h__law_number.mono (by decide)) (c__law_pick := h__law_pick.mono (by decide)) (c__law_reserved := h__law_reserved.mono (by decide)) (c__law_spell := h__law_spell.mono (by decide)) (c__law_take := h__law_take.mono (by decide))
  have h__law_letter := can_law_letter (Z := Z) B D__law_letter (c__law_name := h__law_name.mono (by decide)) (c__law_number := h__law_number.mono (by decide)) (c__law_take := h__law_take.mono (by decide))
  have h__law_told := can_law_told (Z := Z) B D__law_told (k_OneError := t_OneError) (c__law_error := can_law_error B D__law_error) (c_free_name := h_free_name.mono (by decide)) (c_good_letter := h_good_letter.mono (by decide)) (c_good_name := h_good_name.mono (by decide)) (c_split_letter := h_split_letter.mono (by decide)) (m_BadWord := m_BadWord) (r_BadWord := r_BadWord)
  have h__law_near := can_law_near (Z := Z) B D__law_near (c__law_letter := h__law_letter.mono (by decide)) (c__law_pick := h__law_pick.mono (by decide)) (c__law_spell := h__law_spell.mono (by decide)) (c__law_take := h__law_take.mono (by decide))
  have h__law_odd := can_law_odd (Z := Z) B D__law_odd (c__law_big := h__law_big.mono (by decide)) (c__law_near := h__law_near.mono (by decide)) (c__law_take := h__law_take.mono (by decide))
  have h__law_value := can_law_value (Z := Z) B D__law_value (c__law_letter := h__law_letter.mono (by decide)) (c__law_name := h__law_name.mono (by decide)) (c__law_near := h__law_near.mono (by decide)) (c__law_number := h__law_number.mono (by decide)) (c__law_odd := h__law_odd.mono (by decide)) (c__law_pick := h__law_pick.mono (by decide)) (c__law_take := h__law_take.mono (by decide))
  have h__law_numbers_right := can_law_numbers_right (Z := Z) B D__law_numbers_right (c__law_big := h__law_big.mono (by decide)) (c__law_integer := h__law_integer.mono (by decide)) (c__law_odd := h__law_odd.mono (by decide)) (c__law_pick := h__law_pick.mono (by decide)) (c__law_same := h__law_same4.mono (by decide)) (c__law_take := h__law_take.mono (by decide)) (c_is_whole := h_is_whole.mono (by decide))
  exact ok_law (Z := Z) B F (c__law_copy := h__law_copy4.mono (by decide)) (c__law_due := h__law_due.mono (by decide)) (c__law_is_letter := h__law_is_letter.mono (by decide)) (c__law_join_due := h__law_join_due.mono (by decide)) (c__law_joined := h__law_joined.mono (by decide)) (c__law_letter := h__law_letter.mono (by decide)) (c__law_name := h__law_name.mono (by decide)) (c__law_number := h__law_number.mono (by decide)) (c__law_numbers_right := h__law_numbers_right.mono (by decide)) (c__law_odd := h__law_odd.mono (by decide)) (c__law_pick := h__law_pick.mono (by decide)) (c__law_same := h__law_same4.mono (by decide)) (c__law_store := h__law_store.mono (by decide)) (c__law_told := h__law_told.mono (by decide)) (c__law_value := h__law_value.mono (by decide)) (c_split_letter := h_split_letter.mono (by decide))
abbrev R : PySem.W.OpenRow := PySem.W.OpenLaw.row PySem.Challenge.rw_onelineatatime_k01_names_and_letters
abbrev hk : PySem.W.Hook := hookQ 5 fa fn ex
def ob (s : PySem.W.SharedT) : He.AlD × Bool := obQ 5 fa fn ex (HandSHeadRun.getT s)
theorem ob_eq (s : PySem.W.SharedT) : ob s = hk.obs s.abs := obQ_eq (HandSHeadRun.getT_eq s)
def loose : List PySem.Str := ([PySem.Str.ofString "OneError", PySem.Str.ofString "BadMachine", PySem.Str.ofString "BadNet", PySem.Str.ofString "BadStanding", PySem.Str.ofString "BadWord", PySem.Str.ofString "BadText", PySem.Str.ofString "BadWish", PySem.Str.ofString "BadPaper", PySem.Str.ofString "Cannot", PySem.Str.ofString "Loud", PySem.Str.ofString "NotCalm", PySem.Str.ofString "NotThere", PySem.Str.ofString "NoJoin", PySem.Str.ofString "TooMany", PySem.Str.ofString "Reserved", PySem.Str.ofString "Nothing", PySem.Str.ofString "SMALL_LETTERS", PySem.Str.ofString "DIGITS", PySem.Str.ofString "LONGEST_NAME", PySem.Str.ofString "GREATEST_NUMBER", PySem.Str.ofString "TAKEN_NAMES", PySem.Str.ofString "is_whole", PySem.Str.ofString "good_name", PySem.Str.ofString "free_name", PySem.Str.ofString "short_number"] : List PySem.Str) ++ ([PySem.Str.ofString "good_letter", PySem.Str.ofString "split_letter", PySem.Str.ofString "join_letter", PySem.Str.ofString "_law_store", PySem.Str.ofString "_law_load", PySem.Str.ofString "_law_take", PySem.Str.ofString "_law_number", PySem.Str.ofString "_law_pick", PySem.Str.ofString "_law_big", PySem.Str.ofString "_law_odd", PySem.Str.ofString "_law_spell", PySem.Str.ofString "_law_reserved", PySem.Str.ofString "_law_name", PySem.Str.ofString "_law_letter", PySem.Str.ofString "_law_near", PySem.Str.ofString "_law_is_name", PySem.Str.ofString "_law_is_free", PySem.Str.ofString "_law_is_letter", PySem.Str.ofString "_law_integer", PySem.Str.ofString "_law_same", PySem.Str.ofString "_law_copy", PySem.Str.ofString "_law_error", PySem.Str.ofString "_law_value", PySem.Str.ofString "_law_told", PySem.Str.ofString "_law_due"] : List PySem.Str) ++ ([PySem.Str.ofString "_law_joined", PySem.Str.ofString "_law_join_due", PySem.Str.ofString "_law_numbers_right"] : List PySem.Str)
set_option maxHeartbeats 0 in
theorem run (w : World) : HandSHeadRun.RunEq R (PySem.W.view R.prog [56]) hk ob 30000 loose w := by
  intro os
  kernel_rfl
theorem facts {P : Program} {w : World} {K : PySem.W.Frag} {h : Heap} {mg : Str → Option Value} {f : Addr} (X : K.In h) (G : h.Ns mainGlobals mg) (hfa : mg ("law" : Str) = some (.ref f)) (c : He.SaysD fa fn K) (cx : ex K = true) :
    ∃ fd : FuncData, (∀ (s : Shared) (v : Value), BindsTo s fd ⟨[v], []⟩ [("script", v)]) ∧ ∀ base : Heap, K.In base → base.Ns mainGlobals mg → FnOk P w K mg base CX0 10 f fd ["script"] (spLaw K) := by
  obtain ⟨fd, F⟩ := c.def_ 32 rfl
  have e := hfa.symm.trans (He.glo_ok X G (c.fact 32 rfl))
  cases e
  have b := FunD.bindsA (ps := ["script"]) F fun _ _ _ _ _ _ us hl => match us, hl with | [_], _ => rfl
  exact ⟨fd, fun s v => b s [v] rfl, fun base _ _ => chain (Z := ⟨P, w, K, mg, base⟩) X G c cx F⟩
end Q
open PySem PySem.W PySem.Calls PyProof.Rows
set_option maxHeartbeats 0 in
theorem PySem.Challenge.cw_onelineatatime_k01_names_and_letters_holds : PySem.Challenge.rw_onelineatatime_k01_names_and_letters.Holds := by
  w_on; o_law
  refine HandSHeadRun.head_any (r := Q.R) (q := view Q.R.prog [56]) (H := Q.hk) (ob := Q.ob) (M := 30000) (loose := Q.loose) (d := HandSHeadRun.topDef Q.R.prog 56) (kwd := []) Q.ob_eq (by kernel_rfl) (fun s => by kernel_rfl) Q.run (by kernel_rfl) (by kernel_rfl) (by kernel_rfl)
    (by rfl) (by first | assumption | decide +kernel) (by decide +kernel) ⟨rfl, rfl, rfl, rfl, rfl, by decide +kernel⟩ ?hw ?hc
  case hw => w_witness2
  case hc =>
    refine L2.walk_ofE (l := PySem.Challenge.rw_onelineatatime_k01_names_and_letters) (n := 63) (k := 10) (x := "script") (CX := L2.CX0) rfl (by decide) (by kernel_rfl) ⟨rfl, by decide, by decide⟩ ?F (fun _ _ _ _ z => z)
    intro w mg fa h Y G hmg0
    obtain ⟨K, KX, c, cx⟩ := Y
    have hmg : mg ("law" : PySem.Str) = some (.ref fa) := by
      have e : (HandSHeadRun.topDef Q.R.prog 56).name = ("law" : PySem.Str) := by kernel_rfl
      rw [← e]
      exact hmg0
    obtain ⟨fd, hb, hF⟩ := Q.facts (P := (PySem.Challenge.rw_onelineatatime_k01_names_and_letters).prog) (w := w) KX G hmg c cx
    exact ⟨K, fd, Q.spLaw K, KX, hb, fun H a ns hl hO hS => Q.start_law H a ns hl hO hS, hF⟩
