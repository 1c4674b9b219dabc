import PyProof.Rows.All
import Wide.All
import OpenK.AllK
import Wide.FinOn
import PySem.Challenge.RW_sj0071_01
open PySem PySem.W PySem.Spec PySem.Calls PyProof.Rows
set_option Elab.async false
set_option linter.all false

namespace Mine
set_option maxRecDepth 100000 in
set_option maxHeartbeats 8000000 in
open_top hd for PySem.Challenge.rw_sj0071_01
end Mine

namespace Mine

abbrev PR : Program := PySem.Challenge.rw_sj0071_01.row.prog
def Ext (h h' : Heap) : Prop := ∀ b o, h.get? b = some o → h'.get? b = some o
theorem Ext.rfl {h : Heap} : Ext h h := fun _ _ e => e
theorem Ext.trans {h h' h'' : Heap} (x : Ext h h') (y : Ext h' h'') : Ext h h'' := fun b o e => y b o (x b o e)
theorem Ext.push (h : Heap) (o : Obj) : Ext h (h.push o) := fun _ _ e => Heap.get?_push_of_some _ e

abbrev St (s : Shared) (h : Heap) (tk : Nat) : Shared := { s with heap := h, toks := tk }

/-- the tree ends without a raise, its tokens hidden -/
def Ev {α : Type} (w : World) (A : Around) (s : Shared) (h : Heap) (t : Sem α) (P : α → Heap → Prop) : Prop :=
  ∀ tk, wpAny (model PR w) A t (fun v s' => ∃ h' tk', s' = St s h' tk' ∧ P v h') (fun _ _ => False) (St s h tk)

section
variable {α β : Type} {w : World} {A : Around} {s : Shared} {h : Heap}
theorem Ev.mono {t : Sem α} {P P' : α → Heap → Prop} (H : Ev w A s h t P) (k : ∀ v h', P v h' → P' v h') : Ev w A s h t P' :=
  fun tk => wpAny_mono (H tk) (fun _ _ ⟨h', tk', e, p⟩ => ⟨h', tk', e, k _ _ p⟩) fun _ _ x => x
theorem Ev.use {t : Sem α} {P : α → Heap → Prop} {Q : α → Shared → Prop} {E : Value → Shared → Prop} {tk : Nat} (H : Ev w A s h t P) (k : ∀ v h' tk', P v h' → Q v (St s h' tk')) :
    wpAny (model PR w) A t Q E (St s h tk) :=
  wpAny_mono (H tk) (fun v s' ⟨h', tk', e, p⟩ => by subst e; exact k v h' tk' p) fun _ _ x => x.elim

/-- an expression, at any heap above h -/
def E1 (w : World) (A : Around) (s : Shared) (env : Env) (h : Heap) (e : Expr) (P : Heap → Value → Heap → Prop) : Prop :=
  ∀ h1, Ext h h1 → Ev w A s h1 (eval e env) (fun v h' => Ext h1 h' ∧ P h1 v h')
abbrev EI (w : World) (A : Around) (s : Shared) (env : Env) (h : Heap) (e : Expr) (k : Int) : Prop := E1 w A s env h e (fun _ v _ => ∃ t, v = .int k t)
abbrev EV (w : World) (A : Around) (s : Shared) (env : Env) (h : Heap) (e : Expr) (v : Value) : Prop := E1 w A s env h e (fun _ v' _ => v' = v)
/-- a test -/
def ET (w : World) (A : Around) (s : Shared) (env : Env) (h : Heap) (e : Expr) (b : Bool) : Prop :=
  ∀ h1, Ext h h1 → Ev w A s h1 (isTrue e env (eval e env)) (fun b' h' => Ext h1 h' ∧ b' = b)
theorem E1.up {env : Env} {e : Expr} {P : Heap → Value → Heap → Prop} {h' : Heap} (H : E1 w A s env h e P) (x : Ext h h') : E1 w A s env h' e P := fun h1 y => H h1 (x.trans y)
theorem ET.up {env : Env} {e : Expr} {b : Bool} {h' : Heap} (H : ET w A s env h e b) (x : Ext h h') : ET w A s env h' e b := fun h1 y => H h1 (x.trans y)

variable {env : Env} {l r : Expr} {a b : Int} {pos : Pos}
theorem EI.const {i : Int} {k : Nat} : EI w A s env h (.Constant (.int i) k pos) i := fun h1 _ tk => wpAny_Constant_int ⟨h1, _, rfl, .rfl, _, rfl⟩
theorem EI.bin {op : Operator} {c : Int} (L : EI w A s env h l a) (R : EI w A s env h r b)
    (O : ∀ h1 t u, Ev w A s h1 (binaryOp op (.int a t) (.int b u)) (fun v h' => h' = h1 ∧ ∃ t, v = .int c t)) : EI w A s env h (.BinOp l op r pos) c := fun h1 x tk =>
  wpAny_BinOp (Ev.use (L h1 x) fun v h2 tk2 ⟨x2, t, e⟩ => by
    subst e
    exact Ev.use (R h2 (x.trans x2)) fun v h3 tk3 ⟨x3, u, e⟩ => by
      subst e
      exact Ev.use (O h3 t u) fun v h4 tk4 ⟨e4, q⟩ => by
        subst e4
        exact ⟨_, _, rfl, x2.trans x3, q⟩)
theorem EI.add (L : EI w A s env h l a) (R : EI w A s env h r b) : EI w A s env h (.BinOp l .Add r pos) (a + b) :=
  L.bin R fun h1 _ _ tk => add_int ⟨h1, _, rfl, rfl, _, rfl⟩
theorem EI.sub (L : EI w A s env h l a) (R : EI w A s env h r b) : EI w A s env h (.BinOp l .Sub r pos) (a - b) :=
  L.bin R fun h1 _ _ tk => sub_int ⟨h1, _, rfl, rfl, _, rfl⟩
theorem EI.mul (L : EI w A s env h l a) (R : EI w A s env h r b) (hm : IntMulOk a b) : EI w A s env h (.BinOp l .Mult r pos) (a * b) :=
  L.bin R fun h1 _ _ tk => mul_int ⟨h1, _, rfl, rfl, _, rfl⟩ hm
theorem EI.mod (L : EI w A s env h l a) (R : EI w A s env h r b) (hb : 0 < b) : EI w A s env h (.BinOp l .Mod r pos) (a % b) :=
  L.bin R fun h1 _ _ tk => mod_int' (Int.ne_of_gt hb) ⟨h1, _, rfl, rfl, _, by rw [Int.fmod_eq_emod_of_nonneg _ (Int.le_of_lt hb)]⟩
theorem EI.fdiv (L : EI w A s env h l a) (R : EI w A s env h r b) (hb : 0 < b) (hs : Builtin.divisionGoesByPylong a b = false) : EI w A s env h (.BinOp l .FloorDiv r pos) (a / b) :=
  L.bin R fun h1 _ _ tk => floordiv_int (Int.ne_of_gt hb) ⟨h1, _, rfl, rfl, _, by rw [Int.fdiv_eq_ediv_of_nonneg _ (Int.le_of_lt hb)]⟩ (.inl hs)
theorem EI.pow (L : EI w A s env h l a) (R : EI w A s env h r b) (h0 : 0 ≤ b) (h1 : b ≤ 1000000) (h2 : a.natAbs < 2 ^ 64) : EI w A s env h (.BinOp l .Pow r pos) (a ^ b.toNat) :=
  L.bin R fun h1' _ _ tk => pow_int_small h0 h1 h2 ⟨h1', _, rfl, rfl, _, rfl⟩
theorem EI.cast {e : Expr} (H : EI w A s env h e a) (q : a = b) : EI w A s env h e b := q ▸ H

theorem cmpI (L : EI w A s env h l a) (R : EI w A s env h r b) {op : CmpOp} {c : Bool} (O : ∀ h1 t u, Ev w A s h1 (compareOp op (.int a t) (.int b u)) (fun v h' => h' = h1 ∧ v = .bool c))
    (hm : behindInMarks op r = false) : ET w A s env h (.Compare l [op] [r] pos) c := fun h1 x tk =>
  wpAny_isTrue_Compare1 (Ev.use (L h1 x) fun v h2 tk2 ⟨x2, t, e⟩ => by
    subst e
    exact Ev.use (R h2 (x.trans x2)) fun v h3 tk3 ⟨x3, u, e⟩ => by
      subst e
      exact Ev.use (O h3 t u) fun v h4 tk4 ⟨e4, q⟩ => by
        subst e4 q
        exact wpAny_truthy_bool ⟨_, _, rfl, x2.trans x3, rfl⟩) hm
theorem ET.eq (L : EI w A s env h l a) (R : EI w A s env h r b) (hm : behindInMarks .Eq r = false := by rfl) : ET w A s env h (.Compare l [.Eq] [r] pos) (decide (a = b)) :=
  cmpI L R (fun h1 _ _ tk => eq_int ⟨h1, _, rfl, rfl, congrArg Value.bool (by rw [Bool.eq_iff_iff]; simp)⟩) hm
theorem ET.ne (L : EI w A s env h l a) (R : EI w A s env h r b) (hm : behindInMarks .NotEq r = false := by rfl) : ET w A s env h (.Compare l [.NotEq] [r] pos) (decide (a ≠ b)) :=
  cmpI L R (fun h1 _ _ tk => ne_int ⟨h1, _, rfl, rfl, congrArg Value.bool (by rw [Bool.eq_iff_iff]; simp)⟩) hm
theorem ET.lt (L : EI w A s env h l a) (R : EI w A s env h r b) (hm : behindInMarks .Lt r = false := by rfl) : ET w A s env h (.Compare l [.Lt] [r] pos) (decide (a < b)) :=
  cmpI L R (fun h1 _ _ tk => lt_int ⟨h1, _, rfl, rfl, rfl⟩) hm
theorem ET.le (L : EI w A s env h l a) (R : EI w A s env h r b) (hm : behindInMarks .LtE r = false := by rfl) : ET w A s env h (.Compare l [.LtE] [r] pos) (decide (a ≤ b)) :=
  cmpI L R (fun h1 _ _ tk => le_int ⟨h1, _, rfl, rfl, by simp⟩) hm
theorem ET.gt (L : EI w A s env h l a) (R : EI w A s env h r b) (hm : behindInMarks .Gt r = false := by rfl) : ET w A s env h (.Compare l [.Gt] [r] pos) (decide (b < a)) :=
  cmpI L R (fun h1 _ _ tk => gt_int ⟨h1, _, rfl, rfl, rfl⟩) hm
end

end Mine

namespace Mine

/-- what an object of the function's own is -/
inductive Kd where
  | ints (ns : List Int)
  | vals (vs : List Value)
  | cell (v : Value)
  | cellI (k : Int)
  | cellU
  | obj (o : Obj)
  | pints (ns : List Int)
  | pvals (vs : List Value)
def Kd.holds : Kd → Obj → Prop
  | .ints ns, o => o.cls = .type "list" ∧ ∃ (vs : List Value) (n : Nat), o.data = .seq vs.toArray n ∧ IntsAre vs ns
  | .vals vs, o => o.cls = .type "list" ∧ ∃ n, o.data = .seq vs.toArray n
  | .cell v, o => o.data = .cell (some v)
  | .cellI k, o => ∃ t, o.data = .cell (some (.int k t))
  | .cellU, o => ∃ v, o.data = .cell v
  | .obj o', o => o = o'
  | .pints ns, o => ∃ (vs : List Value) (n : Nat), o = { cls := .type "list", data := .seq vs.toArray n } ∧ IntsAre vs ns
  | .pvals vs, o => ∃ n, o = { cls := .type "list", data := .seq vs.toArray n }
def At (h : Heap) (a : Addr) (k : Kd) : Prop := ∃ o, h.get? a = some o ∧ k.holds o
theorem At.up {h h' : Heap} {a : Addr} {k : Kd} (H : At h a k) (x : Ext h h') : At h' a k := let ⟨o, e, p⟩ := H; ⟨o, x _ _ e, p⟩
theorem At.but {h h' : Heap} {a b : Addr} {k : Kd} (H : At h a k) (x : Heap.SameBut b h h') (n : a ≠ b) : At h' a k := let ⟨o, e, p⟩ := H; ⟨o, (x.2 _ n).trans e, p⟩
theorem At.lt {h : Heap} {a : Addr} {k : Kd} (H : At h a k) : a < h.objs.size := let ⟨_, e, _⟩ := H; Heap.lt_size e
theorem At.list {h : Heap} {a : Addr} {ns : List Int} (H : At h a (.ints ns)) : ∃ vs : List Value, h.IsList a vs.toArray ∧ IntsAre vs ns :=
  let ⟨o, e, c, vs, n, d, i⟩ := H; ⟨vs, ⟨o, e, c, n, d⟩, i⟩
theorem At.of_list {h : Heap} {a : Addr} {ns : List Int} {vs : List Value} (H : h.IsList a vs.toArray) (i : IntsAre vs ns) : At h a (.ints ns) :=
  let ⟨o, e, c, n, d⟩ := H; ⟨o, e, c, vs, n, d, i⟩
theorem At.vals {h : Heap} {a : Addr} {vs : List Value} (H : At h a (.vals vs)) : h.IsList a vs.toArray := let ⟨o, e, c, n, d⟩ := H; ⟨o, e, c, n, d⟩
theorem At.of_vals {h : Heap} {a : Addr} {vs : List Value} (H : h.IsList a vs.toArray) : At h a (.vals vs) := let ⟨o, e, c, n, d⟩ := H; ⟨o, e, c, n, d⟩

theorem At.unp {h : Heap} {a : Addr} {ns : List Int} (H : At h a (.pints ns)) : At h a (.ints ns) := let ⟨o, e, vs, n, q, i⟩ := H; ⟨o, e, by rw [q], vs, n, by rw [q], i⟩
theorem At.unv {h : Heap} {a : Addr} {vs : List Value} (H : At h a (.pvals vs)) : At h a (.vals vs) := let ⟨o, e, n, q⟩ := H; ⟨o, e, by rw [q], n, by rw [q]⟩
theorem At.plain {h : Heap} {a : Addr} {ns : List Int} (H : At h a (.pints ns)) : ∃ vs : List Value, h.PlainList a vs.toArray ∧ IntsAre vs ns := let ⟨o, e, vs, n, q, i⟩ := H; ⟨vs, ⟨n, q ▸ e⟩, i⟩
theorem At.plainv {h : Heap} {a : Addr} {vs : List Value} (H : At h a (.pvals vs)) : h.PlainList a vs.toArray := let ⟨o, e, n, q⟩ := H; ⟨n, q ▸ e⟩
theorem At.of_plain {h : Heap} {a : Addr} {ns : List Int} {vs : List Value} (H : h.PlainList a vs.toArray) (i : IntsAre vs ns) : At h a (.pints ns) := let ⟨n, e⟩ := H; ⟨_, e, vs, n, rfl, i⟩
theorem At.of_plainv {h : Heap} {a : Addr} {vs : List Value} (H : h.PlainList a vs.toArray) : At h a (.pvals vs) := let ⟨n, e⟩ := H; ⟨_, e, n, rfl⟩

abbrev up (m : Str → Option Value) (x : Str) (v : Value) : Str → Option Value := fun y => if y = x then some v else m y

/-- a function's state: its ground g (never changed), its frame L with the locals m, its own objects -/
structure SS (g : Heap) (L : Addr) (h : Heap) (m : Str → Option Value) (own : List (Addr × Kd)) : Prop where
  ns : h.Ns L m
  keep : Ext g h
  above : g.get? L = none
  at' : ∀ p ∈ own, At h p.1 p.2
  fresh : ∀ p ∈ own, g.get? p.1 = none ∧ p.1 ≠ L
  dis : (own.map (·.1)).Nodup

section
variable {g h h' : Heap} {L a : Addr} {m m' : Str → Option Value} {own own' : List (Addr × Kd)} {k k' : Kd}
theorem ext_of_but {b : Addr} (x : Heap.SameBut b h h') (hb : h.get? b = none) : Ext h h' := fun c o e => (x.2 c (fun q => by rw [q, hb] at e; cases e)).trans e
theorem get_none {a : Addr} (ha : g.objs.size ≤ a) : g.get? a = none := Heap.get?_none_of_le ha
theorem keep_but {b : Addr} (k : Ext g h) (x : Heap.SameBut b h h') (hb : g.get? b = none) : Ext g h' := fun c o e => (x.2 c (fun q => by rw [q, hb] at e; cases e)).trans (k c o e)
theorem Ext.none (x : Ext g h) {a : Addr} (e : h.get? a = none) : g.get? a = none := by
  cases q : g.get? a with
  | none => rfl
  | some o => rw [x _ _ q] at e; cases e
theorem SS.up (S : SS g L h m own) (x : Ext h h') : SS g L h' m own :=
  ⟨S.ns.keeps x, S.keep.trans x, S.above, fun p hp => (S.at' p hp).up x, S.fresh, S.dis⟩
theorem SS.lt (S : SS g L h m own) (hp : (a, k) ∈ own) : a < h.objs.size := (S.at' _ hp).lt
/-- fewer, or in another order -/
theorem SS.sub (S : SS g L h m own) (hs : ∀ p ∈ own', p ∈ own) (hd : (own'.map (·.1)).Nodup) : SS g L h m own' :=
  ⟨S.ns, S.keep, S.above, fun p hp => S.at' p (hs p hp), fun p hp => S.fresh p (hs p hp), hd⟩
theorem SS.perm (S : SS g L h m own) (hp : own.Perm own') : SS g L h m own' :=
  S.sub (fun p q => hp.mem_iff.mpr q) ((hp.map _).nodup_iff.mp S.dis)
theorem SS.pull (pre : List (Addr × Kd)) {q : Addr × Kd} {post : List (Addr × Kd)} (S : SS g L h m (pre ++ q :: post)) : SS g L h m (q :: (pre ++ post)) := S.perm List.perm_middle
theorem SS.push' (pre : List (Addr × Kd)) {q : Addr × Kd} {post : List (Addr × Kd)} (S : SS g L h m (q :: (pre ++ post))) : SS g L h m (pre ++ q :: post) := S.perm List.perm_middle.symm
theorem SS.drop {q : Addr × Kd} (S : SS g L h m (q :: own)) : SS g L h m own := S.sub (fun p hp => .tail _ hp) (List.nodup_cons.mp S.dis).2
theorem SS.keepOnly {post : List (Addr × Kd)} (S : SS g L h m (own ++ post)) : SS g L h m own :=
  S.sub (fun p hp => List.mem_append_left _ hp) (by have := S.dis; rw [List.map_append] at this; exact (List.nodup_append.mp this).1)
/-- a new object -/
theorem SS.new (S : SS g L h m own) (x : Ext h h') (hA : At h' a k) (hn : h.get? a = none) : SS g L h' m ((a, k) :: own) where
  ns := S.ns.keeps x
  keep := S.keep.trans x
  above := S.above
  at' := fun p hp => by rcases List.mem_cons.mp hp with rfl | hp; exact hA; exact (S.at' p hp).up x
  fresh := fun p hp => by
    rcases List.mem_cons.mp hp with rfl | hp
    · refine ⟨S.keep.none hn, fun q => ?_⟩
      obtain ⟨o, _, _, e, _⟩ := S.ns
      rw [show L = a from q.symm, hn] at e
      cases e
    · exact S.fresh p hp
  dis := by
    rw [List.map_cons, List.nodup_cons]
    refine ⟨fun q => ?_, S.dis⟩
    obtain ⟨p, hp, e⟩ := List.mem_map.mp q
    obtain ⟨o, h1, _⟩ := S.at' p hp
    rw [e, hn] at h1
    cases h1
/-- a local is stored -/
theorem SS.store (S : SS g L h m own) (hn : h'.Ns L m') (x : Heap.SameBut L h h') : SS g L h' m' own :=
  ⟨hn, keep_but S.keep x S.above, S.above, fun p hp => (S.at' p hp).but x (S.fresh p hp).2, S.fresh, S.dis⟩
/-- the first object is changed -/
theorem SS.put (S : SS g L h m ((a, k) :: own)) (x : Heap.SameBut a h h') (hA : At h' a k') : SS g L h' m ((a, k') :: own) where
  ns := S.ns.sameBut x (Ne.symm (S.fresh _ (.head _)).2)
  keep := keep_but S.keep x (S.fresh _ (.head _)).1
  above := S.above
  at' := fun p hp => by
    rcases List.mem_cons.mp hp with rfl | hp
    · exact hA
    · refine (S.at' p (.tail _ hp)).but x fun q => ?_
      have := (List.nodup_cons.mp S.dis).1
      exact this (List.mem_map.mpr ⟨p, hp, q⟩)
  fresh := fun p hp => by
    rcases List.mem_cons.mp hp with rfl | hp
    · exact S.fresh (a, k) (.head _)
    · exact S.fresh p (.tail _ hp)
  dis := S.dis
end

section
variable {w : World} {A : Around} {s : Shared} {g h : Heap} {L : Addr} {m : Str → Option Value} {own : List (Addr × Kd)} {env : Env} {x : Str} {pos : Pos} {v : Value} {k : Int} {c : Addr}
/-! names -/
theorem EV.ns (hn : h.Ns env.locals m) (hv : m x = some v) (hk : env.scope.kind = .function) (hx : env.kindOf x = some .local)
    (hd : (x == ("__debug__" : Str)) = false) : EV w A s env h (.Name x pos) v :=
  fun h1 y tk => wpAny_Name (wpAny_loadName_local hk hx (hn.keeps y) hv ⟨h1, _, rfl, .rfl, rfl⟩) hd
theorem EV.cel (hA : At h c (.cell v)) (hc : env.cells.lookup x = some c) (hk : env.scope.kind = .function) (hx : env.kindOf x = some .cell)
    (hd : (x == ("__debug__" : Str)) = false) : EV w A s env h (.Name x pos) v :=
  fun h1 y tk => wpAny_Name (wpAny_loadName_cell hk hx hc (let ⟨o, e, p⟩ := hA.up y; ⟨o, e, p⟩) ⟨h1, _, rfl, .rfl, rfl⟩) hd
theorem EI.cel (hA : At h c (.cellI k)) (hc : env.cells.lookup x = some c) (hk : env.scope.kind = .function) (hx : env.kindOf x = some .cell)
    (hd : (x == ("__debug__" : Str)) = false) : EI w A s env h (.Name x pos) k :=
  fun h1 y tk => let ⟨o, e, t, p⟩ := hA.up y; wpAny_Name (wpAny_loadName_cell hk hx hc ⟨o, e, p⟩ ⟨h1, _, rfl, .rfl, t, rfl⟩) hd
theorem EI.of {e : Expr} {t : Tok} (H : EV w A s env h e (.int k t)) : EI w A s env h e k := fun h1 y => (H h1 y).mono fun _ _ ⟨a, b⟩ => ⟨a, t, b⟩
/-- a local, in a function's frame -/
theorem EV.loc (S : SS g L h m own) (hv : m x = some v) (hL : env.locals = L) (hk : env.scope.kind = .function) (hx : env.kindOf x = some .local)
    (hd : (x == ("__debug__" : Str)) = false) : EV w A s env h (.Name x pos) v := .ns (hL ▸ S.ns) hv hk hx hd
theorem EI.loc {t : Tok} (S : SS g L h m own) (hv : m x = some (.int k t)) (hL : env.locals = L) (hk : env.scope.kind = .function) (hx : env.kindOf x = some .local)
    (hd : (x == ("__debug__" : Str)) = false) : EI w A s env h (.Name x pos) k := .of (.loc S hv hL hk hx hd)

/-! lists -/
abbrev EL (w : World) (A : Around) (s : Shared) (env : Env) (h : Heap) (e : Expr) (ns : List Int) : Prop := E1 w A s env h e (fun _ v h' => ∃ l, v = .ref l ∧ At h' l (.ints ns))
abbrev ELn (w : World) (A : Around) (s : Shared) (env : Env) (h : Heap) (e : Expr) (ns : List Int) : Prop := E1 w A s env h e (fun h1 v h' => ∃ l, v = .ref l ∧ At h' l (.ints ns) ∧ h1.get? l = none)
theorem EL.of {e : Expr} {l : Addr} {ns : List Int} (H : EV w A s env h e (.ref l)) (hA : At h l (.ints ns)) : EL w A s env h e ns := fun h1 y => (H h1 y).mono fun _ _ ⟨a, b⟩ => ⟨a, l, b, hA.up (y.trans a)⟩
abbrev ELp (w : World) (A : Around) (s : Shared) (env : Env) (h : Heap) (e : Expr) (ns : List Int) : Prop := E1 w A s env h e (fun h1 v h' => ∃ l, v = .ref l ∧ At h' l (.pints ns) ∧ h1.get? l = none)
theorem ELp.eln {e : Expr} {ns : List Int} (H : ELp w A s env h e ns) : ELn w A s env h e ns := fun h1 y => (H h1 y).mono fun _ _ ⟨a, l, b, c, d⟩ => ⟨a, l, b, c.unp, d⟩
theorem ELn.el {e : Expr} {ns : List Int} (H : ELn w A s env h e ns) : EL w A s env h e ns := fun h1 y => (H h1 y).mono fun _ _ ⟨a, l, b, c, _⟩ => ⟨a, l, b, c⟩

theorem ints_get {vs : List Value} {ns : List Int} (H : IntsAre vs ns) : ∀ {i : Nat} {k : Int}, ns[i]? = some k → ∃ t, vs[i]? = some (.int k t) := by
  induction H with
  | nil => intro i k h; simp at h
  | cons n t _ ih =>
    intro i k h
    cases i with
    | zero => simp at h; subst h; exact ⟨t, by simp⟩
    | succ i => simpa using ih (by simpa using h)
/-- an item at a place in bounds -/
theorem EI.item {e i : Expr} {ns : List Int} {j k : Int} (L : EL w A s env h e ns) (I : EI w A s env h i j) (h0 : 0 ≤ j) (h1 : j < 2 ^ 63) (hk : ns[j.toNat]? = some k)
    (hs : ∀ l t, subscripted i false (.ref l) (.int j t) = operate [.ref l, .int j t] (getItem (.ref l) (.int j t)) := by intros; rfl) :
    EI w A s env h (.Subscript e i pos) k := fun h1' x tk =>
  Subscript_ (Ev.use (L h1' x) fun v h2 tk2 ⟨x2, l, e, hA⟩ => by
    subst e
    exact Ev.use (I h2 (x.trans x2)) fun v h3 tk3 ⟨x3, t, e⟩ => by
      subst e
      obtain ⟨vs, hl, hi⟩ := (hA.up x3).list
      obtain ⟨u, hu⟩ := ints_get hi hk
      exact tail_any (Heap.IsList.typeIs (s := St s h3 tk3) hl) slot_list_getitem.lookup (wpAny_getItem_list hl h0 h1 (by simpa using hu) ⟨_, _, rfl, x2.trans x3, u, rfl⟩) (hs l t))
/-- an item that is no int -/
theorem EV.item {e i : Expr} {l : Addr} {vs : List Value} {j : Int} (L : EV w A s env h e (.ref l)) (hA : At h l (.vals vs)) (I : EI w A s env h i j) (h0 : 0 ≤ j) (h1 : j < 2 ^ 63) (hk : vs[j.toNat]? = some v)
    (hs : ∀ l t, subscripted i false (.ref l) (.int j t) = operate [.ref l, .int j t] (getItem (.ref l) (.int j t)) := by intros; rfl) :
    EV w A s env h (.Subscript e i pos) v := fun h1' x tk =>
  Subscript_ (Ev.use (L h1' x) fun v' h2 tk2 ⟨x2, e⟩ => by
    subst e
    exact Ev.use (I h2 (x.trans x2)) fun v' h3 tk3 ⟨x3, t, e⟩ => by
      subst e
      have hl := ((hA.up (x.trans (x2.trans x3))).vals)
      exact tail_any (Heap.IsList.typeIs (s := St s h3 tk3) hl) slot_list_getitem.lookup (wpAny_getItem_list hl h0 h1 (by simpa using hk) ⟨_, _, rfl, x2.trans x3, rfl⟩) (hs l t))
end

/-! statements -/
section
variable {w : World} {A : Around} {s : Shared} {g h : Heap} {L : Addr} {m : Str → Option Value} {own : List (Addr × Kd)} {env : Env} {x : Str} {pos px : Pos} {v : Value} {k : Int} {c : Addr} {e : Expr} {rest body : List Stmt} {P : Flow → Heap → Prop}
abbrev X (w : World) (A : Around) (s : Shared) (env : Env) (h : Heap) (body : List Stmt) (P : Flow → Heap → Prop) : Prop := Ev w A s h (execs body env) P
theorem X.nil (H : P .next h) : X w A s env h [] P := fun tk => wpAny_execs_nil ⟨h, tk, rfl, H⟩
theorem X.cons {st : Stmt} (H : Ev w A s h (exec st env) (fun f h' => match f with | .next => X w A s env h' rest P | f => P f h')) : X w A s env h (st :: rest) P :=
  fun tk => wpAny_execs_cons (Ev.use H fun f h' tk' p => by
    cases f with
    | next => exact p tk'
    | brk => exact ⟨h', tk', rfl, p⟩
    | cont => exact ⟨h', tk', rfl, p⟩
    | ret v => exact ⟨h', tk', rfl, p⟩)
theorem X.retI (H : EI w A s env h e k) (K : ∀ h' t, Ext h h' → P (.ret (.int k t)) h') : X w A s env h (.Return (some e) pos :: rest) P :=
  X.cons fun tk => wpAny_Return_some (Ev.use (H h .rfl) fun v h' tk' ⟨y, t, q⟩ => ⟨h', tk', rfl, by subst q; exact K h' t y⟩)
theorem X.ret {R : Heap → Value → Heap → Prop} (H : E1 w A s env h e R) (K : ∀ v h', Ext h h' → R h v h' → P (.ret v) h') : X w A s env h (.Return (some e) pos :: rest) P :=
  X.cons fun tk => wpAny_Return_some (Ev.use (H h .rfl) fun v h' tk' ⟨y, q⟩ => ⟨h', tk', rfl, K v h' y q⟩)
theorem X.if {t : Expr} {b o : List Stmt} {c : Bool} (H : ET w A s env h t c) (K : ∀ h', Ext h h' → X w A s env h' (if c then b else o) (fun f h'' => match f with | .next => X w A s env h'' rest P | f => P f h'')) :
    X w A s env h (.If t b o pos :: rest) P :=
  X.cons fun tk => wpAny_If (Ev.use (H h .rfl) fun c' h' tk' ⟨y, q⟩ => by
    subst q
    have := K h' y tk'
    cases c' <;> exact this)
theorem store_loc (S : SS g L h m own) (hL : env.locals = L) (hk : env.scope.kind = .function) (hx : env.kindOf x = some .local) {Q : Unit → Heap → Prop} (K : ∀ h', SS g L h' (up m x v) own → Q () h') :
    Ev w A s h (storeName env x v) Q := fun tk =>
  wpAny_storeName_local hx (hL ▸ S.ns) (fun h' hn hb => ⟨h', _, rfl, K h' (S.store (hL ▸ hn) (hL ▸ hb))⟩) (by rw [hk]; rfl)
/-- x = e -/
theorem X.asg {R : Heap → Value → Heap → Prop} (hL : env.locals = L) (hk : env.scope.kind = .function) (hx : env.kindOf x = some .local)
    (H : E1 w A s env h e R) (K : ∀ v h1, Ext h h1 → R h v h1 → ∃ own1, SS g L h1 m own1 ∧ ∀ h', SS g L h' (up m x v) own1 → X w A s env h' rest P)
    (hsw : swapsWith e (some (.Name x px)) pos.line env = pure false := by rfl) : X w A s env h (.Assign [.Name x px] e pos :: rest) P :=
  X.cons fun tk => wpAny_Assign_Name (Ev.use (H h .rfl) fun v h1 tk1 ⟨y, r⟩ => by
    obtain ⟨own1, S1, K1⟩ := K v h1 y r
    exact store_loc (Q := fun _ h' => X w A s env h' rest P) S1 hL hk hx K1 tk1) hsw
theorem X.asgI (S : SS g L h m own) (H : EI w A s env h e k) (K : ∀ h' t, SS g L h' (up m x (.int k t)) own → X w A s env h' rest P) (hL : env.locals = L := by rfl) (hk : env.scope.kind = .function := by rfl) (hx : env.kindOf x = some .local := by rfl)
    (hsw : swapsWith e (some (.Name x px)) pos.line env = pure false := by rfl) : X w A s env h (.Assign [.Name x px] e pos :: rest) P :=
  X.asg hL hk hx H (fun v h1 y ⟨t, q⟩ => ⟨own, S.up y, fun h' S' => K h' t (q ▸ S')⟩) hsw
theorem X.asgN {ns : List Int} (S : SS g L h m own) (H : ELn w A s env h e ns) (K : ∀ h' l, SS g L h' (up m x (.ref l)) ((l, .ints ns) :: own) → X w A s env h' rest P) (hL : env.locals = L := by rfl) (hk : env.scope.kind = .function := by rfl) (hx : env.kindOf x = some .local := by rfl)
    (hsw : swapsWith e (some (.Name x px)) pos.line env = pure false := by rfl) : X w A s env h (.Assign [.Name x px] e pos :: rest) P :=
  X.asg hL hk hx H (fun v h1 y ⟨l, q, hA, hn⟩ => ⟨(l, .ints ns) :: own, S.new y hA hn, fun h' S' => K h' l (q ▸ S')⟩) hsw
/-- x op= e -/
theorem X.aug {op : Operator} {a b r : Int} {t : Tok} (S : SS g L h m own) (hv : m x = some (.int a t)) (H : EI w A s env h e b) (O : ∀ h1 t u, Ev w A s h1 (inplaceOp op (.int a t) (.int b u)) (fun v h' => h' = h1 ∧ ∃ t, v = .int r t))
    (K : ∀ h' t, SS g L h' (up m x (.int r t)) own → X w A s env h' rest P) (hL : env.locals = L := by rfl) (hk : env.scope.kind = .function := by rfl) (hx : env.kindOf x = some .local := by rfl) : X w A s env h (.AugAssign (.Name x px) op e pos :: rest) P :=
  X.cons fun tk => wpAny_AugAssign_Name (wpAny_loadName_local hk hx (hL ▸ S.ns) hv (Ev.use (tk := tk) (H h .rfl) fun v h1 tk1 ⟨y, u, q⟩ => by
    subst q
    exact Ev.use (O h1 t u) fun v h2 tk2 ⟨e2, u2, q2⟩ => by
      subst e2 q2
      exact store_loc (Q := fun _ h' => X w A s env h' rest P) (S.up y) hL hk hx (fun h' S' => K h' _ S') tk2))
theorem op_fdiv {a b : Int} (hb : 0 < b) (hs : Builtin.divisionGoesByPylong a b = false) (h1 : Heap) (t u : Tok) : Ev w A s h1 (inplaceOp .FloorDiv (.int a t) (.int b u)) (fun v h' => h' = h1 ∧ ∃ t, v = .int (a / b) t) :=
  fun tk => ifloordiv_int (Int.ne_of_gt hb) ⟨h1, _, rfl, rfl, _, by rw [Int.fdiv_eq_ediv_of_nonneg _ (Int.le_of_lt hb)]⟩ (.inl hs)
theorem op_add {a b : Int} (h1 : Heap) (t u : Tok) : Ev w A s h1 (inplaceOp .Add (.int a t) (.int b u)) (fun v h' => h' = h1 ∧ ∃ t, v = .int (a + b) t) :=
  fun tk => iadd_int ⟨h1, _, rfl, rfl, _, rfl⟩
theorem op_mul {a b : Int} (hm : IntMulOk a b) (h1 : Heap) (t u : Tok) : Ev w A s h1 (inplaceOp .Mult (.int a t) (.int b u)) (fun v h' => h' = h1 ∧ ∃ t, v = .int (a * b) t) :=
  fun tk => imul_int ⟨h1, _, rfl, rfl, _, rfl⟩ hm

/-- while, by an invariant over the locals and the own objects, and a measure -/
theorem X.while {t : Expr} (J : Nat → (Str → Option Value) → List (Addr × Kd) → Prop) (n : Nat) (S : SS g L h m own) (h0 : J n m own)
    (turn : ∀ n h m own, SS g L h m own → J n m own → ∃ b, ET w A s env h t b ∧ (b = false → ∀ h', SS g L h' m own → X w A s env h' rest P) ∧
      (b = true → ∀ h', SS g L h' m own → X w A s env h' body (fun f h'' => match f with
        | .next | .cont => ∃ m' own' k, k < n ∧ SS g L h'' m' own' ∧ J k m' own'
        | .brk => X w A s env h'' rest P
        | .ret v => P (.ret v) h''))) : X w A s env h (.While t body [] pos :: rest) P :=
  X.cons fun tk => wpAny_While (codeAny_whileLoop (fun n s' => ∃ h1 tk1 m1 own1, s' = St s h1 tk1 ∧ SS g L h1 m1 own1 ∧ J n m1 own1)
    (fun n s' ⟨h1, tk1, m1, own1, q, S1, J1⟩ => by
      subst q
      obtain ⟨b, T, Kf, Kt⟩ := turn n h1 m1 own1 S1 J1
      exact Ev.use (T h1 .rfl) fun b' h2 tk2 ⟨y, q⟩ => by
        subst q
        cases b' with
        | false =>
          simp only [Bool.false_eq_true, if_false]
          exact wpAny_execs_nil ⟨h2, tk2, rfl, Kf rfl h2 (S1.up y)⟩
        | true =>
          simp only [if_true]
          exact Ev.use (Kt rfl h2 (S1.up y)) fun f h3 tk3 p => by
            cases f with
            | next => obtain ⟨m', own', k, hk, S', J'⟩ := p; exact ⟨k, hk, h3, tk3, m', own', rfl, S', J'⟩
            | cont => obtain ⟨m', own', k, hk, S', J'⟩ := p; exact ⟨k, hk, h3, tk3, m', own', rfl, S', J'⟩
            | brk => exact ⟨h3, tk3, rfl, p⟩
            | ret v => exact ⟨h3, tk3, rfl, p⟩) n ⟨h, tk, m, own, rfl, S, h0⟩)
end
end Mine

namespace Mine
theorem fill_now (w : World) : (hd.heap_39 w.params, PySem.Challenge.rw_sj0071_01.name) = (hd.heap_39 w.params, PySem.Challenge.rw_sj0071_01.name) := by
  k_fill
  rfl


/-- the top's facts at a heap -/
structure Rd (w : World) (h : Heap) : Prop where
  kin : (hd.heap_39 w.params).In h
  top : ∃ p loose mean mg mb, Top p loose mean mg mb h
theorem Rd.up {w : World} {h h' : Heap} (R : Rd w h) (x : Ext h h') : Rd w h' := ⟨R.kin.keeps x, let ⟨p, l, me, mg, mb, T⟩ := R.top; ⟨p, l, me, mg, mb, T.keeps x⟩⟩

/-- room for n calls within calls -/
structure Ok (A : Around) (n : Nat) : Prop where
  hh : A.handled = none
  dp : A.depth + n ≤ 500
  un : A.units + 8 * n ≤ 5000
theorem Ok.less {A : Around} {n k : Nat} (O : Ok A n) (h : k ≤ n) : Ok A k := ⟨O.hh, by have := O.dp; omega, by have := O.un; omega⟩
theorem Ok.deeper {A : Around} {n : Nat} (O : Ok A (n + 1)) (env : Env) : Ok (A.deeper env) n :=
  ⟨O.hh, by have := O.dp; show A.depth + 1 + n ≤ 500; omega, by have := O.un; show A.units + 3 + 8 * n ≤ 5000; omega⟩
theorem Ok.room {A : Around} {n : Nat} (O : Ok A n) : A.depth < recursionLimit := by have := O.dp; show A.depth < 1000; omega

section
variable {w : World} {A : Around} {s : Shared} {g h : Heap} {L : Addr} {m : Str → Option Value} {own : List (Addr × Kd)} {env : Env} {x : Str} {pos px : Pos} {v : Value} {k : Int} {c f : Addr} {e : Expr} {es : List Expr}

theorem EV.glob (R : Rd w h) (q : nsIn (hd.heap_39 w.params) mainGlobals x = some (some v)) (hg : env.globals = mainGlobals) (hk : env.scope.kind = .function) (hx : env.kindOf x = some .globalImplicit)
    (hd : (x == ("__debug__" : Str)) = false) : EV w A s env h (.Name x pos) v := fun h1 y tk => by
  obtain ⟨p, l, me, mg, mb, T⟩ := (R.up y).top
  exact Name_function_global hk hx (loadGlobal_global (s := St s h1 tk) (by rw [hg]; exact T.g) (mg_of (R.up y).kin T.g q) ⟨h1, _, rfl, .rfl, rfl⟩) hd
theorem EV.bui (R : Rd w h) (q : nsIn (hd.heap_39 w.params) mainGlobals x = some none) (hv : bootBuiltins x = some v) (hn : x ≠ "__name__") (hg : env.globals = mainGlobals) (hb : env.builtins = builtinsNs) (hk : env.scope.kind = .function) (hx : env.kindOf x = some .globalImplicit)
    (hd : (x == ("__debug__" : Str)) = false) : EV w A s env h (.Name x pos) v := fun h1 y tk => by
  obtain ⟨p, l, me, mg, mb, T⟩ := (R.up y).top
  exact Name_function_global hk hx (loadGlobal_builtin (s := St s h1 tk) (by rw [hg]; exact T.g) (mg_none_of (R.up y).kin T.g q) (by rw [hb]; exact T.b) ((T.builtins x hn).trans hv) ⟨h1, _, rfl, .rfl, rfl⟩) hd

/-! calls -/
def EAs (w : World) (A : Around) (s : Shared) (env : Env) (h : Heap) (es : List Expr) (R : Heap → List Value → Heap → Prop) : Prop :=
  ∀ h1, Ext h h1 → Ev w A s h1 (spliced (es.map fun e => (false, eval e env))) (fun vs h' => Ext h1 h' ∧ R h1 vs h')
theorem EAs.nil : EAs w A s env h [] (fun _ vs _ => vs = []) := fun h1 y tk => spliced_nil ⟨h1, tk, rfl, .rfl, rfl⟩
theorem EAs.cons {P : Heap → Value → Heap → Prop} {R : Heap → List Value → Heap → Prop} (H : E1 w A s env h e P) (T : EAs w A s env h es R) :
    EAs w A s env h (e :: es) (fun h1 vs h' => ∃ v h2 vs', vs = v :: vs' ∧ Ext h1 h2 ∧ P h1 v h2 ∧ Ext h2 h' ∧ R h2 vs' h') := fun h1 y tk =>
  spliced_cons (Ev.use (H h1 y) fun v h2 tk2 ⟨y2, p⟩ => Ev.use (T h2 (y.trans y2)) fun vs h3 tk3 ⟨y3, r⟩ => ⟨h3, tk3, rfl, y2.trans y3, v, h2, vs, rfl, y2, p, y3, r⟩)
theorem EAs.plain {P : Heap → List Value → Heap → Prop} (T : EAs w A s env h (e :: es) P) (hs : backTo pos (starEach (e :: es) env) = (e :: es).map fun e => (false, eval e env)) {f : Value} {h1 : Heap} (y : Ext h h1) :
    Ev w A s h1 (evalArgs f true (backTo pos (starEach (e :: es) env)) []) (fun a h' => Ext h1 h' ∧ a.kw = [] ∧ P h1 a.pos h') := fun tk => by
  rw [hs]
  exact evalArgs_plain (Ev.use (T h1 y) fun vs h2 tk2 ⟨y2, p⟩ => ⟨h2, tk2, rfl, y2, rfl, p⟩)
/-- a def of the text is called -/
theorem E1.call {P : Heap → List Value → Heap → Prop} {Q : Heap → Value → Heap → Prop} {o : Obj} {fd : FuncData} (R : Rd w h) (F : EV w A s env h (.Name x px) (.ref f)) (ho : (hd.heap_39 w.params).lookup f = some o) (hf : o.data = .func fd)
    (T : EAs w A s env h (e :: es) P) (C : ∀ h1 h2 vs h3, Ext h h1 → Ext h1 h2 → Ext h2 h3 → P h2 vs h3 → Ev w A s h3 (call (.ref f) vs) (fun v h' => Ext h3 h' ∧ Q h1 v h'))
    (hs : backTo pos (starEach (e :: es) env) = (e :: es).map fun e => (false, eval e env)) : E1 w A s env h (.Call (.Name x px) (e :: es) [] pos) Q := fun h1 y tk =>
  Call_Name rfl (Ev.use (F h1 y) fun v h2 tk2 ⟨y2, q⟩ => by
    subst q
    refine callWith_function (o := o) (fd := fd) (Ev.use (T.plain hs (y.trans y2)) fun a h3 tk3 ⟨y3, kw, p⟩ => ⟨⟨(R.up (y.trans (y2.trans y3))).kin _ _ ho, hf⟩, ?_⟩)
    obtain ⟨pos', kw'⟩ := a
    simp only at kw p
    subst kw
    exact Ev.use (C h1 h2 pos' h3 y y2 y3 p) fun v h4 tk4 ⟨y4, r⟩ => ⟨h4, tk4, rfl, y2.trans (y3.trans y4), r⟩)

theorem enter {P : Value → Heap → Prop} {n : Nat} {name qual : Str} {params : Arguments} {body : List Stmt} {scope : Scope} {dV kV doc pm cdv ct oc : Value} {an od : Option Addr} {osl : Array (Option Value)} {args : List Value} {binds : List (Str × Value)}
    (R : Rd w h) (O : Ok A (n + 1)) (ho : (hd.heap_39 w.params).lookup f = some ⟨oc, od, .func (fnOf name qual params body scope dV kV doc pm an cdv ct), osl⟩) (hcd : codeIn (hd.heap_39 w.params) cdv qual = true)
    (hbind : bindArgs (fnOf name qual params body scope dV kV doc pm an cdv ct) ⟨args, []⟩ = pure binds) (hloc : ∀ y ∈ binds, scope.names.lookup y.1 = some .local)
    (hcell : ∀ x ∈ scope.names, x.2 ≠ .cell) (hco : scope.isCoroutine = false) (hgen : scope.isGenerator = false) (hk : scope.kind = .function)
    (H : ∀ L h1, SS h L h1 (fun y => binds.reverse.lookup y) [] → Ok (A.deeper (envOf qual scope L f cdv)) n → Rd w h1 →
      X w (A.deeper (envOf qual scope L f cdv)) s (envOf qual scope L f cdv) h1 body (fun fl h' => Ext h h' ∧ P (match fl with | .ret v => v | _ => .none) h')) :
    Ev w A s h (call (.ref f) args) (fun v h' => Ext h h' ∧ P v h') := fun tk => by
  obtain ⟨p, l, me, mg, mb, T⟩ := R.top
  refine wpAny_call (codeAny_call_def (s := St s h tk) (fd := fnOf name qual params body scope dV kV doc pm an cdv ct) (body := body) (binds := binds) O.room (R.kin _ _ ho) rfl T.nolimit (codeRec_of R.kin hcd) rfl (.of_eq hbind) hcell hloc (fun h₁ hns hk₁ => ?_) hco hgen hk)
  have x : Ext h h₁ := hk₁
  have S : SS h h.objs.size h₁ (fun y => binds.reverse.lookup y) [] := ⟨hns, x, get_none (Nat.le_refl _), (fun p hp => (nomatch hp)), (fun p hp => (nomatch hp)), List.Pairwise.nil⟩
  exact Ev.use (H h.objs.size h₁ S (O.deeper _) (R.up x)) fun fl h' tk' q => ⟨h', tk', rfl, q⟩

def cellKd : Option Value → Kd
  | none => .cellU
  | some (.int k _) => .cellI k
  | some v => .cell v
theorem at_cellKd {h : Heap} {c : Addr} {v : Option Value} (H : h.IsCell c v) : At h c (cellKd v) := by
  obtain ⟨o, e, d⟩ := H
  refine ⟨o, e, ?_⟩
  cases v with
  | none => exact ⟨_, d⟩
  | some v => cases v <;> first | exact d | exact ⟨_, d⟩

theorem enterC {P : Value → Heap → Prop} {n : Nat} {name qual : Str} {params : Arguments} {body : List Stmt} {scope : Scope} {dV kV doc pm cdv ct oc : Value} {an od : Option Addr} {osl : Array (Option Value)} {args : List Value} {binds : List (Str × Value)}
    (R : Rd w h) (O : Ok A (n + 1)) (ho : (hd.heap_39 w.params).lookup f = some ⟨oc, od, .func (fnOf name qual params body scope dV kV doc pm an cdv ct), osl⟩) (hcd : codeIn (hd.heap_39 w.params) cdv qual = true)
    (hbind : bindArgs (fnOf name qual params body scope dV kV doc pm an cdv ct) ⟨args, []⟩ = pure binds) (hkind : (binds.all fun y => scope.names.lookup y.1 == some .local || scope.names.lookup y.1 == some .cell) = true)
    (hnd : ((cellsFrom 0 scope.names []).map (·.1)).Nodup) (hco : scope.isCoroutine = false) (hgen : scope.isGenerator = false) (hk : scope.kind = .function)
    (H : ∀ L h1, SS h L h1 (bindL (envOfC qual scope L f cdv).kindOf binds fun _ => none) ((cellsFrom (L + 1) scope.names []).map fun y => (y.2, cellKd (bindC (envOfC qual scope L f cdv).kindOf binds (fun _ => none) y.1))) →
      Ok (A.deeper (envOfC qual scope L f cdv)) n → Rd w h1 →
      X w (A.deeper (envOfC qual scope L f cdv)) s (envOfC qual scope L f cdv) h1 body (fun fl h' => Ext h h' ∧ P (match fl with | .ret v => v | _ => .none) h')) :
    Ev w A s h (call (.ref f) args) (fun v h' => Ext h h' ∧ P v h') := fun tk => by
  obtain ⟨p, l, me, mg, mb, T⟩ := R.top
  refine wpAny_call (codeAny_call_function (s := St s h tk) (fd := fnOf name qual params body scope dV kV doc pm an cdv ct) (body := body) O.room (R.kin _ _ ho) rfl hco hgen rfl (codeRec_of R.kin hcd) ((BindsTo.of_eq hbind) _ _ _ _ ?_))
  refine wpAny_newFunctionEnv_cells hk (kindsX hkind _) fun env' he s' x => ?_
  subst he
  have kp : Ext h s'.heap := x.toInCall.keep
  refine ⟨T.nolimit.keeps kp, codeAny_func ?_⟩
  obtain ⟨h₁, tk₁, rfl, _⟩ := x.done
  have S : SS h h.objs.size h₁ (bindL (envOfC qual scope h.objs.size f cdv).kindOf binds fun _ => none) ((cellsFrom (h.objs.size + 1) scope.names []).map fun y => (y.2, cellKd (bindC (envOfC qual scope h.objs.size f cdv).kindOf binds (fun _ => none) y.1))) := by
    refine ⟨x.toInCall.ns, kp, get_none (Nat.le_refl _), ?_, ?_, ?_⟩
    · intro p hp
      obtain ⟨y, hy, rfl⟩ := List.mem_map.mp hp
      exact at_cellKd (x.cell y.1 y.2 (lookup_of_mem_nodup (cellsFrom_names scope.names 0 (h.objs.size + 1) [] [] rfl ▸ hnd) hy))
    · intro p hp
      obtain ⟨y, hy, rfl⟩ := List.mem_map.mp hp
      have hlt : h.objs.size < y.2 := x.above y.1 y.2 hy
      exact ⟨get_none (Nat.le_of_lt hlt), Nat.ne_of_gt hlt⟩
    · rw [List.map_map]
      have := x.apart
      exact List.Pairwise.map _ (fun a b hab => hab) this
  exact Ev.use (H h.objs.size h₁ S (O.deeper _) (R.up kp)) fun fl h' tk' q => ⟨h', tk', rfl, q⟩
end
end Mine

namespace Mine

/-- what stood stands, but at X -/
def Kb (X : List Addr) (h h' : Heap) : Prop := ∀ b o, b ∉ X → h.get? b = some o → h'.get? b = some o
theorem Kb.refl {X : List Addr} {h : Heap} : Kb X h h := fun _ _ _ e => e
theorem Kb.of {X : List Addr} {h h' : Heap} (x : Ext h h') : Kb X h h' := fun b o _ e => x b o e
theorem Kb.but {a : Addr} {h h' : Heap} (x : Heap.SameBut a h h') : Kb [a] h h' := fun b o n e => (x.2 b (fun q => n (by rw [q]; exact .head _))).trans e
theorem Kb.mono {X Y : List Addr} {h h' : Heap} (x : Kb X h h') (s : ∀ b ∈ X, b ∈ Y) : Kb Y h h' := fun b o n e => x b o (fun q => n (s b q)) e
theorem Kb.trans {X : List Addr} {h h' h'' : Heap} (x : Kb X h h') (y : Kb X h' h'') : Kb X h h'' := fun b o n e => y b o n (x b o n e)
theorem Kb.ns {X : List Addr} {h h' : Heap} {a : Addr} {m : Str → Option Value} (x : Kb X h h') (n : a ∉ X) (H : h.Ns a m) : h'.Ns a m := H.at' fun o e => x a o n e

theorem SS.kb {g h h' : Heap} {L : Addr} {m : Str → Option Value} {own : List (Addr × Kd)} {X : List Addr} (S : SS g L h m own) (x : Kb X h h') (hX : ∀ b ∈ X, g.get? b = none) (hL : L ∉ X) (ho : ∀ p ∈ own, p.1 ∉ X) : SS g L h' m own :=
  ⟨x.ns hL S.ns, fun b o e => x b o (fun q => by rw [hX b q] at e; cases e) (S.keep b o e), S.above, fun p hp => let ⟨o, e, q⟩ := S.at' p hp; ⟨o, x _ _ (ho p hp) e, q⟩, S.fresh, S.dis⟩

/-- the turns of an iterator, its target assigned -/
structure Turns (w : World) (A : Around) (s : Shared) (tenv : Env) (target : Expr) (I : Addr) (fp wr : List Addr) (n : Nat) (Sa : Nat → Heap → Prop) (X : List Addr) (Base : Heap → Prop) (G : Nat → Heap → Prop) : Prop where
  sub : ∀ b ∈ wr, b ∈ fp
  frame : ∀ i h h', Sa i h → (∀ b ∈ fp, ∀ o, h.get? b = some o → h'.get? b = some o) → Sa i h'
  turn : ∀ i h, i < n → Sa i h → Base h → Ev w A s h (pyNext (.ref I)) (fun r h1 => ∃ v, r = some v ∧ Ev w A s h1 (letOwnedTupleGo target (.ref I) v) (fun _ h2 =>
    Ev w A s h2 (assign target tenv v) (fun _ h3 => G i h3 ∧ Base h3 ∧ Sa (i + 1) h3 ∧ Kb (X ++ wr) h h3)))
  fin : ∀ h, Sa n h → Ev w A s h (pyNext (.ref I)) (fun r h1 => r = none ∧ Kb wr h h1)

section
variable {w : World} {A : Around} {s : Shared} {tenv : Env} {I : Addr} {fp wr : List Addr} {n : Nat} {Sa : Nat → Heap → Prop} {P Md : Nat → Value → Heap → Prop}
abbrev nsAt (tenv : Env) (h : Heap) : Prop := ∃ m, h.Ns tenv.locals m
/-- a name for its target -/
theorem Turns.name {x : Str} {px : Pos} (W : KTurns PR w A (.Name x px) I fp wr n P Md Sa) (hx : tenv.kindOf x = some .local) (hk : tenv.scope.kind = .function) (hC : tenv.locals ∉ fp) :
    Turns w A s tenv (.Name x px) I fp wr n Sa [tenv.locals] (nsAt tenv) (fun i h => ∃ m v h', h.Ns tenv.locals m ∧ m x = some v ∧ P i v h' ∧ Kb (tenv.locals :: wr) h' h) where
  sub := W.sub
  frame := W.frame
  turn := fun i h hi st ⟨m, hn⟩ tk => by
    have hCw : tenv.locals ∉ wr := fun q => hC (W.sub _ q)
    refine W.item i (St s h tk) _ _ hi st fun v h1 tk1 hm hk1 => ⟨h1, tk1, rfl, v, rfl, fun tk2 => ?_⟩
    refine W.go i v (St s h1 tk2) _ _ hm fun h2 hP st2 hk2 => ⟨h2, tk2, rfl, fun tk3 => ?_⟩
    have hn2 : h2.Ns tenv.locals m := (hn.at' fun o e => hk1 _ o hCw e).at' fun o e => hk2 _ o hCw e
    refine wpAny_assign_Name (wpAny_storeName_local hx hn2 (fun h3 hn3 hb => ⟨h3, _, rfl, ⟨_, v, h2, hn3, by simp, hP, ?_⟩, ⟨_, hn3⟩, ?_, ?_⟩) (by rw [hk]; rfl))
    · exact (Kb.but hb).mono fun b q => by rw [List.mem_singleton.mp q]; exact .head _
    · exact W.frame _ _ _ st2 fun b hb' o e => (hb.2 b (fun q => hC (by rw [← show b = tenv.locals from q]; exact hb'))).trans e
    · intro b o hb' e
      have n1 : b ≠ tenv.locals := fun q => hb' (List.mem_append_left _ (by rw [q]; exact .head _))
      have n2 : b ∉ wr := fun q => hb' (List.mem_append_right _ q)
      exact (hb.2 b n1).trans (hk2 b o n2 (hk1 b o n2 e))
  fin := fun h st tk => W.done (St s h tk) _ _ st fun h1 tk1 hk1 => ⟨h1, tk1, rfl, rfl, hk1⟩
/-- two names for its target -/
theorem Turns.pair {x y : Str} {px py tp : Pos} {k : Nat} (W : KTurns PR w A (.Tuple [.Name x px, .Name y py] k tp) I fp wr n P Md Sa) (hh : A.handled = none) (hx : tenv.kindOf x = some .local) (hy : tenv.kindOf y = some .local) (hxy : x ≠ y) (hk : tenv.scope.kind = .function) (hC : tenv.locals ∉ fp)
    {R : Nat → Value → Value → Prop} (hP : ∀ i v h, P i v h → ∃ T a b, v = .ref T ∧ IsTup h T #[a, b] ∧ R i a b) :
    Turns w A s tenv (.Tuple [.Name x px, .Name y py] k tp) I fp wr n Sa [tenv.locals] (nsAt tenv) (fun i h => ∃ m a b, h.Ns tenv.locals m ∧ m x = some a ∧ m y = some b ∧ R i a b) where
  sub := W.sub
  frame := W.frame
  turn := fun i h hi st ⟨m, hn⟩ tk => by
    have hCw : tenv.locals ∉ wr := fun q => hC (W.sub _ q)
    refine W.item i (St s h tk) _ _ hi st fun v h1 tk1 hm hk1 => ⟨h1, tk1, rfl, v, rfl, fun tk2 => ?_⟩
    refine W.go i v (St s h1 tk2) _ _ hm fun h2 hPv st2 hk2 => ⟨h2, tk2, rfl, fun tk3 => ?_⟩
    obtain ⟨T, a, b, rfl, hT, hR⟩ := hP i v h2 hPv
    have hn2 : h2.Ns tenv.locals m := (hn.at' fun o e => hk1 _ o hCw e).at' fun o e => hk2 _ o hCw e
    refine assign_Tuple_tuple (s := St s h2 tk3) hh hT rfl rfl fun h3 he3 => ?_
    have x3 : Ext h2 h3 := fun b o e => he3 b o (Nat.ne_of_lt (Heap.lt_size e)) e
    refine assignInOrder_cons (wpAny_assign_Name (wpAny_storeName_local hx (hn2.keeps x3) (fun h4 hn4 hb4 => ?_) (by rw [hk]; rfl)))
    refine assignInOrder_cons (wpAny_assign_Name (wpAny_storeName_local hy hn4 (fun h5 hn5 hb5 => ?_) (by rw [hk]; rfl)))
    have k5 : ∀ c o, c ≠ tenv.locals → h2.get? c = some o → h5.get? c = some o := fun c o nc e => (hb5.2 c nc).trans ((hb4.2 c nc).trans (x3 c o e))
    refine assignInOrder_nil ⟨h5, _, rfl, ⟨_, a, b, hn5, by simp [hxy], by simp, hR⟩, ⟨_, hn5⟩, ?_, ?_⟩
    · exact W.frame _ _ _ st2 fun c hc o e => k5 c o (fun q => hC (by rw [← show c = tenv.locals from q]; exact hc)) e
    · intro c o hb' e
      have n1 : c ≠ tenv.locals := fun q => hb' (List.mem_append_left _ (by rw [q]; exact .head _))
      have n2 : c ∉ wr := fun q => hb' (List.mem_append_right _ q)
      exact k5 c o n1 (hk2 c o n2 (hk1 c o n2 e))
  fin := fun h st tk => W.done (St s h tk) _ _ st fun h1 tk1 hk1 => ⟨h1, tk1, rfl, rfl, hk1⟩
end

/-- a comprehension's loop, whatever its target -/
theorem compLoop_any {w : World} {A : Around} {elt iter target : Expr} {scope : Scope} {pos : Pos} {it acc : Value} {env : Env} {R : Result → Shared → Prop} (I : Nat → Shared → Prop)
    (turn : ∀ n s, I n s → wpAny (model PR w) A (pyNext it) (fun r s₁ => match r with
      | none => R (.ok .next) s₁
      | some v => wpAny (model PR w) A (letOwnedTupleGo target it v) (fun _ s₁' => wpAny (model PR w) A (assign target env v) (fun _ s₂ =>
          wpAny (model PR w) A (eval elt env) (fun x s₄ => wpAny (model PR w) A (call (.builtin "list.append") [acc, x]) (fun _ s₅ => ∃ m, m < n ∧ I m s₅) (fun _ _ => False) s₄) (fun _ _ => False) s₂) (fun _ _ => False) s₁') (fun _ _ => False) s₁) (fun _ _ => False) s)
    {s : Shared} (n : Nat) (h : I n s) : codeAny (model PR w) A (.compLoop (.ListComp elt [⟨target, iter, [], 0⟩] scope pos) 0 it acc env) R s := by
  refine codeAny_loop rfl I (fun n s hI => ?_) n h
  show wpAny _ A ((compTurn (.ListComp elt [⟨target, iter, [], 0⟩] scope pos) 0 it acc env).onRaise (fun x => do noteFrame x env; theTreesLotGoes x)) _ _ s
  refine wpAny_noted ?_
  have no : ∀ {e : Value} {s' : Shared} {E : Value → Shared → Prop}, (fun _ _ => False : Value → Shared → Prop) e s' → E e s' := fun x => x.elim
  show wpAny (model PR w) A (standAt iter.pos >>= fun _ => pyNext it >>= fun r => match r with
      | none => pure (.done .next)
      | some v => letOwnedTupleGo target it v >>= fun _ => assign target env v >>= fun _ =>
        (eval elt env >>= fun x => call (.builtin "list.append") [acc, x] >>= fun _ => pure ()) >>= fun _ =>
          again (.compLoop (.ListComp elt [⟨target, iter, [], 0⟩] scope pos) 0 it acc env)) _ _ s
  refine wpAny_bind (wpAny_standAt (wpAny_bind (wpAny_mono (turn n s hI) (fun r s₁ h₁ => ?_) fun _ _ h' => h'.elim)))
  cases r with
  | none => exact wpAny_pure h₁
  | some v =>
    refine wpAny_bind (wpAny_mono h₁ (fun _ s₁' h₁' => ?_) fun _ _ h' => h'.elim)
    refine wpAny_bind (wpAny_mono h₁' (fun _ s₂ h₂ => ?_) fun _ _ h' => h'.elim)
    exact wpAny_bind (wpAny_bind (wpAny_mono h₂ (fun x s₄ h₄ => wpAny_bind (wpAny_mono h₄ (fun _ s₅ h₅ => wpAny_pure (wpAny_pure ⟨rfl, h₅⟩)) fun _ _ h' => h'.elim)) fun _ _ h' => h'.elim))
end Mine

namespace Mine

/-- a comprehension's source: its iterator, whoever the target's names stand with -/
def Src (w : World) (A : Around) (s : Shared) (env : Env) (target : Expr) (Loc : Env → Prop) (h : Heap) (iter : Expr) (n : Nat) (G : Env → Nat → Heap → Prop) : Prop :=
  ∀ h1, Ext h h1 → Ev w A s h1 (eval iter env) (fun xv h2 => Ext h1 h2 ∧ Ev w A s h2 (pyIter xv) (fun it h3 => Ext h1 h3 ∧ ∃ I fp wr Sa, it = .ref I ∧ Sa 0 h3 ∧ (∀ b ∈ fp, b < h3.objs.size) ∧ (∀ b ∈ wr, h1.get? b = none) ∧
    (∀ h tk (Q : Value → Shared → Prop) (E : Value → Shared → Prop), Sa 0 h → Q (.ref I) (St s h tk) → wpAny (model PR w) A (pyIter (.ref I)) Q E (St s h tk)) ∧
    ∀ tenv, Loc tenv → tenv.scope.kind = .function → tenv.locals ∉ fp → Turns w A s tenv target I fp wr n Sa [tenv.locals] (nsAt tenv) (G tenv)))

section
variable {w : World} {A : Around} {s : Shared} {env : Env} {elt iter target : Expr} {scope : Scope} {cl : List (Str × Addr)} {pos : Pos} {Loc : Env → Prop} {n : Nat} {G : Env → Nat → Heap → Prop}

theorem comp_block {h1 h3 : Heap} {tk : Nat} {I : Addr} {fp wr : List Addr} {Sa : Nat → Heap → Prop} {RR : Value → Addr → Result → Shared → Prop} {E : Value → Shared → Prop} (J : Nat → Heap → Prop) (Y : Nat → Value → Prop) (Z : Addr → Prop) (hZ : ∀ b, Z b → (h1.get? b).isSome = true) (hfz : ∀ b ∈ fp, ¬ Z b)
    (hcell : ∀ y ∈ scope.names, y.2 ≠ .cell) (hkind : scope.kind = .function) (x13 : Ext h1 h3) (st : Sa 0 h3) (hfp : ∀ b ∈ fp, b < h3.objs.size) (hwr : ∀ b ∈ wr, h1.get? b = none)
    (T : ∀ tenv, Loc tenv → tenv.scope.kind = .function → tenv.locals ∉ fp → Turns w A s tenv target I fp wr n Sa [tenv.locals] (nsAt tenv) (G tenv)) (hLoc : ∀ C, Loc (compEnvC scope cl C env))
    (Jst : ∀ i h h', J i h → (∀ b o, (h1.get? b).isSome = true → h.get? b = some o → h'.get? b = some o) → J i h') (J0 : J 0 h3)
    (He : ∀ i C h, i < n → J i h → G (compEnvC scope cl C env) i h → Ev w A s h (eval elt (compEnvC scope cl C env)) (fun y h' => Y i y ∧ J (i + 1) h' ∧ ∀ b o, ¬ Z b → h.get? b = some o → h'.get? b = some o))
    (hsz : n ≤ sizeLine)
    (hself : ∀ h tk Q E, Sa 0 h → Q (.ref I) (St s h tk) → wpAny (model PR w) A (pyIter (.ref I)) Q E (St s h tk))
    (hRR : ∀ D C h tk m (ys : List Value), h.Ns C m → h.IsList D ys.toArray → ys.length = n → (∀ i y, ys[i]? = some y → Y i y) → h1.get? D = none → h1.get? C = none → D ≠ C → J n h → RR (.ref D) C (.ok .next) (St s h tk)) :
    wpAny (model PR w) A (newList []) (fun acc s₃ => wpAny (model PR w) A (newFunctionEnv scope env.globals cl [] env.qual none .none (some env)) (fun cenv s₄ =>
      codeAny (model PR w) A (.compStart (.ListComp elt [⟨target, iter, [], 0⟩] scope pos) 0 (.ref I) acc { cenv with scope := relabel scope env }) (RR acc cenv.locals) s₄) E s₃) E (St s h3 tk) := by
  refine wpAny_newObj_type (wpAny_newFunctionEnv hcell (by intro y hy; simp at hy) (fun h4 hns4 hsb4 => ?_) hkind)
  dsimp only at hns4 hsb4 ⊢
  generalize hH2 : h3.push { cls := .type "list", dict := none, data := .seq ([] : List Value).toArray } = H2 at hns4 hsb4 ⊢
  have hC : H2.objs.size = h3.objs.size + 1 := by rw [← hH2, Heap.size_push]
  have hDC : h3.objs.size ≠ H2.objs.size := by rw [hC]; exact Nat.ne_of_lt (Nat.lt_succ_self _)
  have old : Ext h3 h4 := fun b o e => hsb4.extBut b o (by rw [hC]; exact Nat.ne_of_lt (Nat.lt_succ_of_lt (Heap.lt_size e))) (Heap.get?_push_of_some _ (hH2 ▸ Heap.get?_push_of_some _ e))
  have hD4 : h4.IsList h3.objs.size ([] : List Value).toArray := by
    have e0 : H2.get? h3.objs.size = some { cls := .type "list", dict := none, data := .seq ([] : List Value).toArray } := hH2 ▸ Heap.get?_push_size _ rfl
    exact ⟨_, hsb4.extBut _ _ hDC (Heap.get?_push_of_some _ e0), rfl, 0, rfl⟩
  have hD1 : h1.get? h3.objs.size = none := x13.none (get_none (Nat.le_refl _))
  have hC1 : h1.get? H2.objs.size = none := x13.none (get_none (by rw [hC]; exact Nat.le_succ _))
  have hDf : h3.objs.size ∉ fp := fun q => Nat.lt_irrefl _ (hfp _ q)
  have hCf : H2.objs.size ∉ fp := fun q => by have := hfp _ q; rw [hC] at this; exact Nat.lt_irrefl _ (Nat.lt_of_succ_lt this)
  have T' := T (compEnvC scope cl H2.objs.size env) (hLoc _) (by simp [compEnvC, relabel, hkind]) hCf
  have hDw : h3.objs.size ∉ wr := fun q => hDf (T'.sub _ q)
  have st4 : Sa 0 h4 := T'.frame _ _ _ st fun b _ o e => old b o e
  have loop : ∀ tk, codeAny (model PR w) A (.compLoop (.ListComp elt [⟨target, iter, [], 0⟩] scope pos) 0 (.ref I) (.ref h3.objs.size) (compEnvC scope cl H2.objs.size env)) (RR (.ref h3.objs.size) H2.objs.size) (St s h4 tk) := by
    intro tk
    refine compLoop_any (fun k s' => ∃ h tk i m, ∃ ys : List Value, s' = St s h tk ∧ i ≤ n ∧ k = n + 1 - i ∧ ys.length = i ∧ Sa i h ∧ h.Ns H2.objs.size m ∧ h.IsList h3.objs.size ys.toArray ∧ (∀ i y, ys[i]? = some y → Y i y) ∧ J i h) ?_ (n + 1)
      ⟨h4, tk, 0, _, [], rfl, Nat.zero_le _, rfl, rfl, st4, hns4, hD4, (by intro i y q; simp at q), Jst _ _ _ J0 fun b o _ e => old b o e⟩
    rintro k s' ⟨h, tk, i, m, ys, rfl, hi, rfl, hl, hst, hn, hD, hY, hJ⟩
    by_cases hlt : i < n
    · refine Ev.use (T'.turn i h hlt hst ⟨m, hn⟩) fun r h5 tk5 ⟨v, e, E5⟩ => ?_
      subst e
      refine Ev.use E5 fun _ h6 tk6 E6 => Ev.use E6 fun _ h7 tk7 ⟨hG, ⟨m7, hn7⟩, hst7, kb7⟩ => ?_
      have hJ7 : J i h7 := Jst _ _ _ hJ fun b o e1 e2 => kb7 b o (fun q => by
        rcases List.mem_append.mp q with q | q
        · rw [List.mem_singleton.mp q] at e1
          rw [show h1.get? (compEnvC scope cl H2.objs.size env).locals = none from hC1] at e1; cases e1
        · rw [hwr b q] at e1; cases e1) e2
      have hD7 : h7.IsList h3.objs.size ys.toArray := hD.at fun o e => kb7 _ o (fun q => by
        rcases List.mem_append.mp q with q | q
        · exact hDC (List.mem_singleton.mp q)
        · exact hDw q) e
      refine Ev.use (He i _ h7 hlt hJ7 hG) fun y h8 tk8 ⟨hYi, hJ8, kp8⟩ => ?_
      have nz : ∀ {b}, h1.get? b = none → ¬ Z b := fun q z => by have := hZ _ z; rw [q] at this; cases this
      have hn8 : h8.Ns H2.objs.size m7 := hn7.at' fun o e => kp8 _ o (nz hC1) e
      have hD8 : h8.IsList h3.objs.size ys.toArray := hD7.at fun o e => kp8 _ o (nz hD1) e
      have hst8 : Sa (i + 1) h8 := T'.frame _ _ _ hst7 fun b hb o e => kp8 b o (hfz b hb) e
      refine wpAny_list_append (s := St s h8 tk8) (hsz := by rw [List.size_toArray, hl]; exact Nat.le_trans hi hsz) hD8 fun h9 hl9 hb9 => ?_
      rw [List.push_toArray] at hl9
      refine ⟨n + 1 - (i + 1), by omega, h9, tk8, i + 1, m7, ys ++ [y], rfl, hlt, rfl, by simp [hl], ?_, hn8.sameBut hb9 (Ne.symm hDC), hl9, ?_, ?_⟩
      · exact T'.frame _ _ _ hst8 fun b hb o e => (hb9.2 b fun q => hDf (by rw [← show b = h3.objs.size from q]; exact hb)).trans e
      · intro j z hj
        rcases Nat.lt_or_ge j ys.length with q | q
        · rw [List.getElem?_append_left q] at hj; exact hY j z hj
        · rw [List.getElem?_append_right q] at hj
          have e0 : j - ys.length = 0 := by
            rcases Nat.eq_zero_or_pos (j - ys.length) with e0 | e0
            · exact e0
            · rw [List.getElem?_eq_none (by simp; omega)] at hj; cases hj
          rw [e0] at hj
          simp at hj
          subst hj
          have : j = i := by omega
          rw [this]; exact hYi
      · exact Jst _ _ _ hJ8 fun b o e1 e2 => (hb9.2 b fun q => by rw [show b = h3.objs.size from q, hD1] at e1; cases e1).trans e2
    · have e : i = n := Nat.le_antisymm hi (Nat.not_lt.mp hlt)
      subst e
      refine Ev.use (T'.fin h hst) fun r h5 tk5 ⟨e, kb5⟩ => ?_
      subst e
      have hJ5 : J i h5 := Jst _ _ _ hJ fun b o e1 e2 => kb5 b o (fun q => by rw [hwr b q] at e1; cases e1) e2
      exact hRR _ _ h5 tk5 m ys (kb5.ns (fun q => hCf (T'.sub _ q)) hn) (hD.at fun o e => kb5 _ o hDw e) hl hY hD1 hC1 hDC hJ5
  exact codeAny_compStart_list (loop _) (hself _ _ _ _ st4 (loop _))

theorem store_loc' {g h : Heap} {L : Addr} {m : Str → Option Value} {own : List (Addr × Kd)} {x : Str} {v : Value} (S : SS g L h m own) (hL : env.locals = L) (hk : env.scope.kind = .function) (hx : env.kindOf x = some .local) {Q : Unit → Heap → Prop}
    (K : ∀ h', SS g L h' (up m x v) own → Heap.SameBut L h h' → Q () h') : Ev w A s h (storeName env x v) Q := fun tk =>
  wpAny_storeName_local hx (hL ▸ S.ns) (fun h' hn hb => ⟨h', _, rfl, K h' (S.store (hL ▸ hn) (hL ▸ hb)) (hL ▸ hb)⟩) (by rw [hk]; rfl)

theorem ints_of : ∀ {ys : List Value} {ns : List Int}, ys.length = ns.length → (∀ (i : Nat) (y : Value), ys[i]? = some y → ∃ (k : Int) (t : Tok), ns[i]? = some k ∧ y = Value.int k t) → IntsAre ys ns
  | [], [], _, _ => .nil
  | [], _ :: _, h, _ => by simp at h
  | _ :: _, [], h, _ => by simp at h
  | y :: ys, k :: ns, h, H => by
    obtain ⟨k', t, e1, e2⟩ := H 0 y rfl
    simp at e1
    subst e1 e2
    exact .cons k t (ints_of (by simpa using h) fun i z hz => by
      obtain ⟨k', t', a, b⟩ := H (i + 1) z (by simpa using hz)
      exact ⟨k', t', by simpa using a, b⟩)

/-- a comprehension of ints, in an expression -/
theorem E1.comp {h : Heap} {ns : List Int} (hsrc : Src w A s env target Loc h iter n G) (hLoc : ∀ C, Loc (compEnvC scope cl C env)) (hn : ns.length = n)
    (He : ∀ i C h' k, Ext h h' → ns[i]? = some k → G (compEnvC scope cl C env) i h' → EI w A s (compEnvC scope cl C env) h' elt k)
    (hclos : closureFor scope env = pure cl) (hcell : ∀ y ∈ scope.names, y.2 ≠ .cell) (hkind : scope.kind = .function)
    (hnames : ∀ y ∈ scope.names, y.2 = .local → scope.names.lookup y.1 = some .local) (hsz : n ≤ sizeLine)
    (hs : ∀ x, foldedSetIterable iter env x = pure x := by intro _; rfl) :
    ELn w A s env h (.ListComp elt [⟨target, iter, [], 0⟩] scope pos) ns := fun h1 x1 tk => by
  rw [eval_ListComp]
  refine wpAny_comprehension_free (use := none) rfl hs hclos hkind hnames (Ev.use (hsrc h1 x1) fun xv h2 tk2 ⟨x2, E2⟩ => ?_)
  refine Ev.use E2 fun it h3 tk3 ⟨x3, I, fp, wr, Sa, e, st, hfp, hwr, hself, T⟩ => ?_
  subst e
  refine comp_block (fun _ h' => Ext h1 h') (fun i y => ∃ k t, ns[i]? = some k ∧ y = .int k t) (fun _ => False) (fun _ z => z.elim) (fun _ _ z => z) hcell hkind x3 st hfp hwr T hLoc
    (fun i h h' J k b o e => k b o (by rw [e]; rfl) (J b o e)) x3 (fun i C h' hi J g => ?_) hsz hself fun D C h' tk' m ys hnC hD hl hY hD1 hC1 hDC J => ⟨m, hnC, fun h'' hb => ?_⟩
  · have hk : ns[i]? = some ns[i] := List.getElem?_eq_getElem (by omega)
    exact (He i C h' _ (x1.trans J) hk g h' .rfl).mono fun y h'' ⟨x, t, q⟩ => ⟨⟨_, t, hk, q⟩, J.trans x, fun b o _ e => x b o e⟩
  · refine ⟨h'', tk', rfl, fun b o e => (hb.2 b fun q => by rw [q, hC1] at e; cases e).trans (J b o e), D, rfl, ?_, hD1⟩
    exact At.of_list (hD.at fun o e => (hb.2 D hDC).trans e) (ints_of (by rw [hl, hn]) hY)

/-- x = [..]: the comprehension's own store -/
theorem X.asgC {g h : Heap} {L : Addr} {m : Str → Option Value} {own : List (Addr × Kd)} {ns : List Int} {y : Str} {py spos : Pos} {rest : List Stmt} {P : Flow → Heap → Prop} (S : SS g L h m own)
    (hsrc : Src w A s env target Loc h iter n G) (hLoc : ∀ C, Loc (compEnvC scope cl C env)) (hn : ns.length = n)
    (He : ∀ i C h' k, Ext h h' → ns[i]? = some k → G (compEnvC scope cl C env) i h' → EI w A s (compEnvC scope cl C env) h' elt k)
    (K : ∀ h' l, SS g L h' (up m y (.ref l)) ((l, .ints ns) :: own) → X w A s env h' rest P)
    (hclos : closureFor scope env = pure cl) (hcell : ∀ y ∈ scope.names, y.2 ≠ .cell) (hkind : scope.kind = .function)
    (hnames : ∀ y ∈ scope.names, y.2 = .local → scope.names.lookup y.1 = some .local) (hsz : n ≤ sizeLine)
    (hsw : swapsWith (.ListComp elt [⟨target, iter, [], 0⟩] scope pos) (some (.Name y py)) spos.line env = pure true)
    (hL : env.locals = L) (hk : env.scope.kind = .function) (hy : env.kindOf y = some .local)
    (hs : ∀ x, foldedSetIterable iter env x = pure x := by intro _; rfl) :
    X w A s env h (.Assign [.Name y py] (.ListComp elt [⟨target, iter, [], 0⟩] scope pos) spos :: rest) P := X.cons fun tk => by
  rw [exec_Assign_Name_used _ _ _ _ hsw]
  refine wpAny_bind (wpAny_standAt (wpAny_bind ?_))
  show wpAny _ A (do let _ ← comprehension (.ListComp elt [⟨target, iter, [], 0⟩] scope pos) scope env _ (newList []) false (eval iter env) (some (assign (.Name y py) env))) _ _ _
  refine wpAny_bind (wpAny_mono (wpAny_comprehension_free (use := some (assign (.Name y py) env)) (Q := fun _ s' => ∃ h' tk', s' = St s h' tk' ∧ X w A s env h' rest P) (E := fun _ _ => False) rfl hs hclos hkind hnames (Ev.use (hsrc h .rfl) fun xv h2 tk2 ⟨x2, E2⟩ => ?_))
    (fun _ s' hq => wpAny_pure (wpAny_pure hq)) fun _ _ e => e)
  refine Ev.use E2 fun it h3 tk3 ⟨x3, I, fp, wr, Sa, e, st, hfp, hwr, hself, T⟩ => ?_
  subst e
  refine comp_block (fun _ h' => Ext h h') (fun i y => ∃ k t, ns[i]? = some k ∧ y = .int k t) (fun _ => False) (fun _ z => z.elim) (fun _ _ z => z) hcell hkind x3 st hfp hwr T hLoc
    (fun i h' h'' J k b o e => k b o (by rw [e]; rfl) (J b o e)) x3 (fun i C h' hi J g' => ?_) hsz hself fun D C h' tk' m' ys hnC hD hl hY hD1 hC1 hDC J => ?_
  · have hk : ns[i]? = some ns[i] := List.getElem?_eq_getElem (by omega)
    exact (He i C h' _ J hk g' h' .rfl).mono fun y h'' ⟨x, t, q⟩ => ⟨⟨_, t, hk, q⟩, J.trans x, fun b o _ e => x b o e⟩
  · show wpAny _ A (assign (.Name y py) env (.ref D)) _ _ _
    have S1 : SS g L h' m ((D, .ints ns) :: own) := S.new J (At.of_list hD (ints_of (by rw [hl, hn]) hY)) hD1
    have hCL : C ≠ L := fun q => by obtain ⟨o, _, _, e, _⟩ := S.ns; rw [← q, hC1] at e; cases e
    refine wpAny_assign_Name (Ev.use (store_loc' (Q := fun _ h'' => SS g L h'' (up m y (.ref D)) ((D, .ints ns) :: own) ∧ h''.Ns C m') S1 hL hk hy fun h4 S4 b4 => ⟨S4, hnC.sameBut b4 hCL⟩) fun _ h4 tk4 ⟨S4, n4⟩ => ⟨m', n4, fun h5 hb => ⟨h5, tk4, rfl, K h5 D (S4.kb (Kb.but hb) ?_ ?_ ?_)⟩⟩)
    · intro b q; rw [List.mem_singleton.mp q]; exact S.keep.none hC1
    · intro q; exact hCL (List.mem_singleton.mp q).symm
    · intro p hp q
      have q := List.mem_singleton.mp q
      rcases List.mem_cons.mp hp with rfl | hp
      · exact hDC q
      · obtain ⟨o, e, _⟩ := S.at' p hp; rw [q, hC1] at e; cases e
end
end Mine

namespace Mine

section
variable {w : World} {A : Around} {s : Shared} {g h : Heap} {L : Addr} {m : Str → Option Value} {own : List (Addr × Kd)} {env : Env} {x : Str} {pos px : Pos} {v : Value} {k : Int} {c f : Addr} {e : Expr} {es : List Expr}

/-- a type is called -/
theorem E1.callT {P : Heap → List Value → Heap → Prop} {Q : Heap → Value → Heap → Prop} {T : String} (F : EV w A s env h (.Name x px) (.type T))
    (Ar : EAs w A s env h (e :: es) P) (C : ∀ h1 h2 vs h3, Ext h h1 → Ext h1 h2 → Ext h2 h3 → P h2 vs h3 → Ev w A s h3 (PySem.call (.type T) vs) (fun v h' => Ext h3 h' ∧ Q h1 v h'))
    (hs : backTo pos (starEach (e :: es) env) = (e :: es).map fun e => (false, eval e env)) : E1 w A s env h (.Call (.Name x px) (e :: es) [] pos) Q := fun h1 y tk =>
  Call_Name hs (Ev.use (F h1 y) fun v h2 tk2 ⟨y2, q⟩ => by
    subst q
    refine PyProof.Rows.callWith_type (by simp) (evalArgs_plain (Ev.use (Ar h2 (y.trans y2)) fun vs h3 tk3 ⟨y3, p⟩ => ?_))
    exact Ev.use (C h1 h2 vs h3 y y2 y3 p) fun v h4 tk4 ⟨y4, r⟩ => ⟨h4, tk4, rfl, y2.trans (y3.trans y4), r⟩)
/-- a built-in function is called -/
theorem E1.callB {P : Heap → List Value → Heap → Prop} {Q : Heap → Value → Heap → Prop} {T : String} (F : EV w A s env h (.Name x px) (.builtin T))
    (Ar : EAs w A s env h (e :: es) P) (C : ∀ h1 h2 vs h3, Ext h h1 → Ext h1 h2 → Ext h2 h3 → P h2 vs h3 → Ev w A s h3 (PySem.call (.builtin T) vs) (fun v h' => Ext h3 h' ∧ Q h1 v h'))
    (hs : backTo pos (starEach (e :: es) env) = (e :: es).map fun e => (false, eval e env)) : E1 w A s env h (.Call (.Name x px) (e :: es) [] pos) Q := fun h1 y tk =>
  Call_Name hs (Ev.use (F h1 y) fun v h2 tk2 ⟨y2, q⟩ => by
    subst q
    refine callWith_builtin (by simp) (evalArgs_plain (Ev.use (Ar h2 (y.trans y2)) fun vs h3 tk3 ⟨y3, p⟩ => ?_))
    exact Ev.use (C h1 h2 vs h3 y y2 y3 p) fun v h4 tk4 ⟨y4, r⟩ => ⟨h4, tk4, rfl, y2.trans (y3.trans y4), r⟩)
theorem EAs.one {P : Heap → Value → Heap → Prop} (H : E1 w A s env h e P) : EAs w A s env h [e] (fun h1 vs h' => ∃ v h2, vs = [v] ∧ Ext h1 h2 ∧ P h1 v h2 ∧ Ext h2 h') :=
  fun h1 y => ((EAs.cons H EAs.nil) h1 y).mono fun vs h' ⟨a, v, h2, vs', e1, b, c, d, e2⟩ => ⟨a, v, h2, by rw [e1, e2], b, c, d⟩

/-- len -/
theorem EI.len {ns : List Int} (F : EV w A s env h (.Name x px) (.builtin "len")) (H : EL w A s env h e ns) (hf : ns.length < 2 ^ 62) (hs : backTo pos (starEach [e] env) = [e].map fun e => (false, eval e env)) :
    EI w A s env h (.Call (.Name x px) [e] [] pos) (ns.length : Int) :=
  E1.callB F (.one H) (fun h1 h2 vs h3 y1 y2 y3 ⟨v, h4, e1, y4, ⟨l, e2, hA⟩, y5⟩ tk => by
    subst e1 e2
    obtain ⟨vs, hl, hi⟩ := (hA.up y5).list
    have e3 : vs.toArray.size = ns.length := by rw [List.size_toArray, hi.length]
    exact len_list hl (by rw [e3]; omega) ⟨_, _, rfl, .rfl, _, by rw [e3]⟩) hs
/-- len of a list that is no list of ints -/
theorem EI.lenv {vs : List Value} {l : Addr} (F : EV w A s env h (.Name x px) (.builtin "len")) (H : EV w A s env h e (.ref l)) (hA : At h l (.vals vs)) (hf : vs.length < 2 ^ 62) (hs : backTo pos (starEach [e] env) = [e].map fun e => (false, eval e env)) :
    EI w A s env h (.Call (.Name x px) [e] [] pos) (vs.length : Int) :=
  E1.callB F (.one H) (fun h1 h2 ws h3 y1 y2 y3 ⟨v, h4, e1, y4, e2, y5⟩ tk => by
    subst e1 e2
    have hl := (hA.up (y1.trans (y2.trans y3))).vals
    have e3 : vs.toArray.size = vs.length := List.size_toArray
    exact len_list hl (by rw [e3]; omega) ⟨_, _, rfl, .rfl, _, by rw [e3]⟩) hs
/-- sum of ints -/
theorem EI.sum {ns : List Int} (F : EV w A s env h (.Name x px) (.builtin "sum")) (hh : A.handled = none) (H : EL w A s env h e ns) (hs : backTo pos (starEach [e] env) = [e].map fun e => (false, eval e env)) :
    EI w A s env h (.Call (.Name x px) [e] [] pos) ns.sum :=
  E1.callB F (.one H) (fun h1 h2 vs h3 y1 y2 y3 ⟨v, h4, e1, y4, ⟨l, e2, hA⟩, y5⟩ tk => by
    subst e1 e2
    obtain ⟨vs, hl, hi⟩ := (hA.up y5).list
    obtain ⟨xs, hx⟩ := hi.allInts.items
    have hn : numsOf vs.toArray.toList = ns := by rw [show vs.toArray.toList = vs from rfl, hi.numsOf]
    rw [hx] at hl hn
    rw [nums_intItems] at hn
    refine sum_intListG (s := St s h3 tk) hh hl fun h' tk' t' hk => ⟨h', tk', rfl, hk, t', ?_⟩
    rw [preSum_eq, List.take_of_length_le (by simp), hn]) hs
theorem EI.abs {k : Int} (F : EV w A s env h (.Name x px) (.builtin "abs")) (H : EI w A s env h e k) (hs : backTo pos (starEach [e] env) = [e].map fun e => (false, eval e env)) :
    EI w A s env h (.Call (.Name x px) [e] [] pos) (if k < 0 then -k else k) :=
  E1.callB F (.one H) (fun h1 h2 vs h3 y1 y2 y3 ⟨v, h4, e1, y4, ⟨t, e2⟩, y5⟩ tk => by
    subst e1 e2
    exact call_abs_int fun u tk' => ⟨h3, tk', rfl, .rfl, u, rfl⟩) hs
theorem EI.int {k : Int} (F : EV w A s env h (.Name x px) (.type "int")) (H : EI w A s env h e k) (hs : backTo pos (starEach [e] env) = [e].map fun e => (false, eval e env)) :
    EI w A s env h (.Call (.Name x px) [e] [] pos) k :=
  E1.callT F (.one H) (fun h1 h2 vs h3 y1 y2 y3 ⟨v, h4, e1, y4, ⟨t, e2⟩, y5⟩ tk => by
    subst e1 e2
    exact call_int_int ⟨h3, tk, rfl, .rfl, t, rfl⟩) hs
/-- int of a bool -/
theorem EI.intB {b : Bool} (F : EV w A s env h (.Name x px) (.type "int")) (H : EV w A s env h e (.bool b)) (hs : backTo pos (starEach [e] env) = [e].map fun e => (false, eval e env)) :
    EI w A s env h (.Call (.Name x px) [e] [] pos) (if b then 1 else 0) :=
  E1.callT F (.one H) (fun h1 h2 vs h3 y1 y2 y3 ⟨v, h4, e1, y4, e2, y5⟩ tk => by
    subst e1 e2
    exact call_int_bool ⟨h3, _, rfl, .rfl, _, by cases b <;> rfl⟩) hs

/-! ranges -/
abbrev ER (w : World) (A : Around) (s : Shared) (env : Env) (h : Heap) (e : Expr) (a b c : Int) : Prop := E1 w A s env h e (fun h1 v h' => ∃ r t u v', v = .ref r ∧ IsRange h' r a b c t u v' ∧ h1.get? r = none)
theorem ER.one {k : Int} (F : EV w A s env h (.Name x px) (.type "range")) (H : EI w A s env h e k) (hs : backTo pos (starEach [e] env) = [e].map fun e => (false, eval e env)) :
    ER w A s env h (.Call (.Name x px) [e] [] pos) 0 k 1 :=
  E1.callT F (.one H) (fun h1 h2 vs h3 y1 y2 y3 ⟨v, h4, e1, y4, ⟨t, e2⟩, y5⟩ tk => by
    subst e1 e2
    exact call_range_1 ⟨_, _, rfl, Ext.push _ _, _, _, _, _, rfl, IsRange.new .., (y2.trans y3).none (get_none (Nat.le_refl _))⟩) hs
theorem ER.three {e1 e2 e3 : Expr} {a b k : Int} (F : EV w A s env h (.Name x px) (.type "range")) (H1 : EI w A s env h e1 a) (H2 : EI w A s env h e2 b) (H3 : EI w A s env h e3 k) (hk : 0 < k) (hk2 : k < 1000000) (hs : backTo pos (starEach [e1, e2, e3] env) = [e1, e2, e3].map fun e => (false, eval e env)) :
    ER w A s env h (.Call (.Name x px) [e1, e2, e3] [] pos) a b k :=
  E1.callT F (.cons H1 (.cons H2 (.one H3))) (fun h1 h2 vs h3 y1 y2 y3 p tk => by
    obtain ⟨v1, h4, vs1, q1, z1, ⟨t1, r1⟩, z2, v2, h5, vs2, q2, z3, ⟨t2, r2⟩, z4, v3, h6, q3, z5, ⟨t3, r3⟩, z6⟩ := p
    subst q1 q2 q3 r1 r2 r3
    exact call_range_3 (Int.ne_of_gt hk) ⟨_, _, rfl, Ext.push _ _, _, _, _, _, rfl, IsRange.new .., (y2.trans y3).none (get_none (Nat.le_refl _))⟩ (.inl (PyProof.noPylong_small (by omega)))) hs
end
end Mine

namespace Mine

theorem Turns.weak {w : World} {A : Around} {s : Shared} {tenv : Env} {target : Expr} {I : Addr} {fp wr : List Addr} {n : Nat} {Sa : Nat → Heap → Prop} {X : List Addr} {Base : Heap → Prop} {G G' : Nat → Heap → Prop}
    (T : Turns w A s tenv target I fp wr n Sa X Base G) (k : ∀ i h, i < n → G i h → G' i h) : Turns w A s tenv target I fp wr n Sa X Base G' where
  sub := T.sub
  frame := T.frame
  turn := fun i h hi st b => (T.turn i h hi st b).mono fun r h1 ⟨v, e, E1⟩ => ⟨v, e, E1.mono fun _ h2 E2 => E2.mono fun _ h3 ⟨a, b, c, d⟩ => ⟨k i h3 hi a, b, c, d⟩⟩
  fin := T.fin

section
variable {w : World} {A : Around} {s : Shared} {g h : Heap} {L : Addr} {m : Str → Option Value} {own : List (Addr × Kd)} {env : Env} {x y : Str} {pos px py tp : Pos} {v : Value} {k : Int} {c f : Addr} {e e1 e2 : Expr} {es : List Expr} {rest body : List Stmt} {P : Flow → Heap → Prop}

/-- a list of ints is gone through, a name for its item -/
theorem Src.list {ns : List Int} (hh : A.handled = none) (H : EL w A s env h e ns) :
    Src w A s env (.Name x px) (fun t => t.kindOf x = some .local) h e ns.length (fun tenv i h' => ∃ m k t, h'.Ns tenv.locals m ∧ ns[i]? = some k ∧ m x = some (.int k t)) := fun h1 y1 => by
  refine (H h1 y1).mono fun v h2 ⟨y2, l, e, hA⟩ => ⟨y2, ?_⟩
  subst e
  obtain ⟨vs, hl, hi⟩ := hA.list
  have hlt : l < h2.objs.size := by obtain ⟨_, e, _⟩ := hl; exact Heap.lt_size e
  have hne : l ≠ h2.objs.size := Nat.ne_of_lt hlt
  intro tk
  refine wpAny_pyIter_list (s := St s h2 tk) hl ?_
  refine ⟨_, tk, rfl, y2.trans (Ext.push _ _), h2.objs.size, [h2.objs.size, l], [h2.objs.size], fun i h => h.IsListIter h2.objs.size l i ∧ h.IsList l vs.toArray, rfl, ⟨⟨_, Heap.get?_push_size _ rfl, rfl, rfl⟩, hl.push _⟩, ?_, ?_, ?_, ?_⟩
  · intro b hb
    rw [Heap.size_push]
    rcases List.mem_cons.mp hb with rfl | hb
    · exact Nat.lt_succ_self _
    · rw [List.mem_singleton.mp hb]; exact Nat.lt_succ_of_lt hlt
  · intro b hb
    rw [List.mem_singleton.mp hb]
    exact y2.none (get_none (Nat.le_refl _))
  · exact fun h tk Q E st hQ => (Walks.list hh h2.objs.size l hne vs.toArray).self 0 (St s h tk) Q E st hQ
  · intro tenv hx hk hC
    have e3 : vs.toArray.size = ns.length := by rw [List.size_toArray, hi.length]
    have W := Walks.list (prog := PR) (w := w) hh h2.objs.size l hne vs.toArray
    rw [e3] at W
    refine (Turns.name (KTurns.ofWalks W fun i v s' Q E _ q => wpAny_pure q) hx hk hC).weak ?_
    rintro i h' hi' ⟨m, v, h'', hn, hv, hP, _⟩
    have hk : ns[i]? = some ns[i] := List.getElem?_eq_getElem hi'
    obtain ⟨t, ht⟩ := ints_get hi hk
    have : v = .int ns[i] t := by
      have q : vs[i]? = some v := by simpa using hP
      rw [ht] at q; exact (Option.some.inj q).symm
    exact ⟨m, ns[i], t, hn, hk, this ▸ hv⟩

/-- a range is gone through -/
theorem Src.range {a b c : Int} {n : Nat} (hh : A.handled = none) (H : ER w A s env h e a b c) (hsm : Builtin.Range.small a b c = true) (hn : Builtin.Range.rangeSize a b c = (n : Int)) :
    Src w A s env (.Name x px) (fun t => t.kindOf x = some .local) h e n (fun tenv i h' => ∃ m t, h'.Ns tenv.locals m ∧ m x = some (.int (a + (i : Int) * c) t)) := fun h1 y1 => by
  refine (H h1 y1).mono fun v h2 ⟨y2, r, t, u, v', e, hr, _⟩ => ⟨y2, ?_⟩
  subst e
  intro tk
  refine wpAny_pyIter_range (s := St s h2 tk) hr hsm ⟨_, tk, rfl, y2.trans (Ext.push _ _), h2.objs.size, [h2.objs.size], [h2.objs.size], fun i h => IsRangeIter h h2.objs.size (a + (i : Nat) * c) ((n : Int) - (i : Nat)) c, rfl, ?_, ?_, ?_, ?_, ?_⟩
  · show IsRangeIter _ _ _ _ _
    rw [hn]
    simpa using Heap.get?_push_size _ rfl
  · intro b hb
    rw [Heap.size_push, List.mem_singleton.mp hb]
    exact Nat.lt_succ_self _
  · intro b hb
    rw [List.mem_singleton.mp hb]
    exact y2.none (get_none (Nat.le_refl _))
  · exact fun h tk Q E st hQ => (Walks.range hh h2.objs.size a c n).self 0 (St s h tk) Q E st hQ
  · intro tenv hx hk hC
    refine (Turns.name (KTurns.ofWalks (Walks.range hh h2.objs.size a c n) fun i v s' Q E _ q => wpAny_pure q) hx hk hC).weak ?_
    rintro i h' hi' ⟨m, v, h'', hn, hv, ⟨t, hP⟩, _⟩
    exact ⟨m, t, hn, hP ▸ hv⟩

/-- enumerate of a list of ints -/
theorem Src.enum {ns : List Int} (hh : A.handled = none) (hxy : x ≠ y) {z : Str} {pz pp : Pos} (F : EV w A s env h (.Name z pz) (.type "enumerate")) (H : EL w A s env h e ns) (hs : backTo pp (starEach [e] env) = [e].map fun e => (false, eval e env)) {kk : Nat} :
    Src w A s env (.Tuple [.Name x px, .Name y py] kk tp) (fun t => t.kindOf x = some .local ∧ t.kindOf y = some .local) h (.Call (.Name z pz) [e] [] pp) ns.length
      (fun tenv i h' => ∃ m k t u, h'.Ns tenv.locals m ∧ ns[i]? = some k ∧ m x = some (.int (i : Int) t) ∧ m y = some (.int k u)) := fun h1 y1 => by
  have C : E1 w A s env h (.Call (.Name z pz) [e] [] pp) (fun h1 v h' => ∃ l it E, ∃ vs : List Value, v = .ref E ∧ h'.IsList l vs.toArray ∧ IntsAre vs ns ∧ IsEnum h' E it 0 .none ∧ h'.IsListIter it l 0 ∧ it ≠ E ∧ l ≠ E ∧ l ≠ it ∧ h1.get? E = none ∧ h1.get? it = none) :=
    E1.callT F (.one H) (fun h1 h2 vs h3 y1 y2 y3 ⟨v, h4, e1, y4, ⟨l, e2, hA⟩, y5⟩ tk => by
      subst e1 e2
      obtain ⟨vs, hl, hi⟩ := (hA.up y5).list
      have hlt : l < h3.objs.size := by obtain ⟨_, e, _⟩ := hl; exact Heap.lt_size e
      refine call_enumerate_list (s := St s h3 tk) hl fun h' hE hI hsz hk => ⟨h', tk, rfl, hk, l, h3.objs.size, h3.objs.size + 1, vs, rfl, hl.at fun o q => hk _ o q, hi, hE, hI, Nat.ne_of_lt (Nat.lt_succ_self _), Nat.ne_of_lt (Nat.lt_succ_of_lt hlt), Nat.ne_of_lt hlt, ?_, ?_⟩
      · exact (y2.trans y3).none (get_none (Nat.le_succ _))
      · exact (y2.trans y3).none (get_none (Nat.le_refl _))) hs
  refine (C h1 y1).mono fun v h2 p => ?_
  obtain ⟨y2, l, it, E, vs, e, hl, hi, hE, hI, n1, n2, n3, f1, f2⟩ := p
  refine ⟨y2, ?_⟩
  subst e
  intro tk
  have e3 : vs.toArray.size = ns.length := by rw [List.size_toArray, hi.length]
  have W := WalksT.enumerate (prog := PR) (w := w) hh E it l (Ne.symm n1) n2 n3 vs.toArray
  rw [e3] at W
  refine wpAny_pyIter_enum (s := St s h2 tk) hE ?_
  refine ⟨h2, tk, rfl, y2, E, [E, it, l], [E, it], fun i h => (∃ old, IsEnum h E it (i : Int) old) ∧ h.IsListIter it l i ∧ h.IsList l vs.toArray, rfl, ⟨⟨_, hE⟩, hI, hl⟩, ?_, ?_, ?_, ?_⟩
  · intro b hb
    rcases List.mem_cons.mp hb with rfl | hb
    · exact Heap.lt_size hE
    rcases List.mem_cons.mp hb with rfl | hb
    · obtain ⟨_, q, _⟩ := hI; exact Heap.lt_size q
    rw [List.mem_singleton.mp hb]
    obtain ⟨_, q, _⟩ := hl; exact Heap.lt_size q
  · intro b hb
    rcases List.mem_cons.mp hb with rfl | hb
    · exact f1
    rw [List.mem_singleton.mp hb]; exact f2
  · exact fun h tk Q E st hQ => W.toU.self 0 (St s h tk) Q E st hQ
  · rintro tenv ⟨hx, hy⟩ hk hC
    refine (Turns.pair (R := fun i a b => ∃ k t u, ns[i]? = some k ∧ a = .int (i : Int) t ∧ b = .int k u) (KTurns.ofWalksU W.toU.bound) hh hx hy hxy hk hC ?_).weak ?_
    · rintro i v h' ⟨T, vals, rfl, ⟨hi', t, z, hz, rfl⟩, hT⟩
      refine ⟨T, _, _, rfl, hT, ?_⟩
      have hk : ns[i]? = some ns[i] := List.getElem?_eq_getElem hi'
      obtain ⟨u, hu⟩ := ints_get hi hk
      have q : vs[i]? = some z := by simpa using hz
      rw [hu] at q
      exact ⟨ns[i], t, u, hk, rfl, (Option.some.inj q).symm⟩
    · rintro i h' hi' ⟨m, a, b, hn, ha, hb, k, t, u, hk, rfl, rfl⟩
      exact ⟨m, k, t, u, hn, hk, ha, hb⟩

/-- zip of two lists of ints -/
theorem Src.zip {ns ms : List Int} (hh : A.handled = none) (hxy : x ≠ y) {z : Str} {pz pp : Pos} (F : EV w A s env h (.Name z pz) (.type "zip")) (H : EL w A s env h e1 ns) (H2 : EL w A s env h e2 ms) (hlen : ns.length = ms.length) (hs : backTo pp (starEach [e1, e2] env) = [e1, e2].map fun e => (false, eval e env)) {kk : Nat} :
    Src w A s env (.Tuple [.Name x px, .Name y py] kk tp) (fun t => t.kindOf x = some .local ∧ t.kindOf y = some .local) h (.Call (.Name z pz) [e1, e2] [] pp) ns.length
      (fun tenv i h' => ∃ m k k' t u, h'.Ns tenv.locals m ∧ ns[i]? = some k ∧ ms[i]? = some k' ∧ m x = some (.int k t) ∧ m y = some (.int k' u)) := fun h1 y1 => by
  have C : E1 w A s env h (.Call (.Name z pz) [e1, e2] [] pp) (fun h1 v h' => ∃ l1 l2 Z TI TO i1 i2, ∃ vs us : List Value, v = .ref Z ∧ h'.IsList l1 vs.toArray ∧ IntsAre vs ns ∧ h'.IsList l2 us.toArray ∧ IntsAre us ms ∧ ZipApart Z TI TO i1 i2 l1 l2 ∧
      IsZip h' Z TI TO .none ∧ IsPair h' TI (.ref i1) (.ref i2) ∧ IsPair h' TO .none .none ∧ h'.IsListIter i1 l1 0 ∧ h'.IsListIter i2 l2 0 ∧ ∀ b, b = Z ∨ b = TO ∨ b = i1 ∨ b = i2 → h1.get? b = none) :=
    E1.callT F (.cons H (.one H2)) (fun h1 h2 vs h3 y1 y2 y3 p tk => by
      obtain ⟨v1, h4, vs1, q1, z1, ⟨l1, r1, hA1⟩, z2, v2, h5, q2, z3, ⟨l2, r2, hA2⟩, z4⟩ := p
      subst q1 q2 r1 r2
      obtain ⟨vs, hl1, hi1⟩ := (hA1.up z2).list
      obtain ⟨us, hl2, hi2⟩ := (hA2.up z4).list
      have hlt1 : l1 < h3.objs.size := by obtain ⟨_, e, _⟩ := hl1; exact Heap.lt_size e
      have hlt2 : l2 < h3.objs.size := by obtain ⟨_, e, _⟩ := hl2; exact Heap.lt_size e
      refine call_zip_2 (s := St s h3 tk) hl1 hl2 fun h' hz hTI hTO hi1' hi2' hsz hk => ⟨h', tk, rfl, hk, l1, l2, _, _, _, _, _, vs, us, rfl, hl1.at fun o q => hk _ o q, hi1, hl2.at fun o q => hk _ o q, hi2, ktu_apart _ _ _ hlt1 hlt2, hz, hTI, hTO, hi1', hi2', ?_⟩
      intro b hb
      refine (y2.trans y3).none (get_none ?_)
      rcases hb with rfl | rfl | rfl | rfl <;> simp) hs
  refine (C h1 y1).mono fun v h2 p => ?_
  obtain ⟨y2, l1, l2, Z, TI, TO, i1, i2, vs, us, e, hl1, hi1, hl2, hi2, D, hz, hTI, hTO, hI1, hI2, fr⟩ := p
  refine ⟨y2, ?_⟩
  subst e
  intro tk
  have e3 : min vs.toArray.size us.toArray.size = ns.length := by rw [List.size_toArray, List.size_toArray, hi1.length, hi2.length, ← hlen, Nat.min_self]
  have W := WalksT.zip2 (prog := PR) (w := w) hh Z TI TO i1 i2 l1 l2 D vs.toArray us.toArray
  rw [e3] at W
  refine wpAny_pyIter_zip (s := St s h2 tk) hz ?_
  refine ⟨h2, tk, rfl, y2, Z, [Z, TI, TO, i1, i2, l1, l2], [Z, TO, i1, i2], fun i h => IsZip h Z TI TO .none ∧ IsPair h TI (.ref i1) (.ref i2) ∧ (∃ a b, IsPair h TO a b) ∧ h.IsListIter i1 l1 i ∧ h.IsListIter i2 l2 i ∧ h.IsList l1 vs.toArray ∧ h.IsList l2 us.toArray, rfl, ⟨hz, hTI, ⟨_, _, hTO⟩, hI1, hI2, hl1, hl2⟩, ?_, ?_, ?_, ?_⟩
  · intro b hb
    have hb' : b = Z ∨ b = TI ∨ b = TO ∨ b = i1 ∨ b = i2 ∨ b = l1 ∨ b = l2 := by simpa using hb
    rcases hb' with rfl | rfl | rfl | rfl | rfl | rfl | rfl
    · exact Heap.lt_size hz
    · exact Heap.lt_size hTI
    · exact Heap.lt_size hTO
    · obtain ⟨_, q, _⟩ := hI1; exact Heap.lt_size q
    · obtain ⟨_, q, _⟩ := hI2; exact Heap.lt_size q
    · obtain ⟨_, q, _⟩ := hl1; exact Heap.lt_size q
    · obtain ⟨_, q, _⟩ := hl2; exact Heap.lt_size q
  · intro b hb
    exact fr b (by simpa using hb)
  · exact fun h tk Q E st hQ => W.toU.self 0 (St s h tk) Q E st hQ
  · rintro tenv ⟨hx, hy⟩ hk hC
    refine (Turns.pair (R := fun i a b => ∃ k k' t u, ns[i]? = some k ∧ ms[i]? = some k' ∧ a = .int k t ∧ b = .int k' u) (KTurns.ofWalksU W.toU.bound) hh hx hy hxy hk hC ?_).weak ?_
    · rintro i v h' ⟨T, vals, rfl, ⟨hi', a, b, ha, hb, rfl⟩, hT⟩
      refine ⟨T, _, _, rfl, hT, ?_⟩
      have hk : ns[i]? = some ns[i] := List.getElem?_eq_getElem hi'
      have hk' : ms[i]? = some (ms[i]'(by omega)) := List.getElem?_eq_getElem (by omega)
      obtain ⟨t, ht⟩ := ints_get hi1 hk
      obtain ⟨u, hu⟩ := ints_get hi2 hk'
      have q1 : vs[i]? = some a := by simpa using ha
      have q2 : us[i]? = some b := by simpa using hb
      rw [ht] at q1
      rw [hu] at q2
      exact ⟨_, _, t, u, hk, hk', (Option.some.inj q1).symm, (Option.some.inj q2).symm⟩
    · rintro i h' hi' ⟨m, a, b, hn, ha, hb, k, k', t, u, hk, hk', rfl, rfl⟩
      exact ⟨m, k, k', t, u, hn, hk, hk', ha, hb⟩
end
end Mine

namespace Mine

section
variable {w : World} {A : Around} {s : Shared} {g h : Heap} {L : Addr} {m : Str → Option Value} {own : List (Addr × Kd)} {env : Env} {x y : Str} {pos px py tp : Pos} {v : Value} {k : Int} {c f : Addr} {e e1 e2 : Expr} {es : List Expr} {rest body : List Stmt} {P : Flow → Heap → Prop}

/-! more tests and values -/
theorem EV.cst {b : Bool} {n : Nat} : EV w A s env h (.Constant (.bool b) n pos) (.bool b) := fun h1 _ tk => wpAny_Constant_bool ⟨h1, _, rfl, .rfl, rfl⟩
theorem ET.not {b : Bool} (H : ET w A s env h e b) : ET w A s env h (.UnaryOp .Not e pos) (!b) := fun h1 y tk =>
  isTrue_not (Ev.use (H h1 y) fun c h2 tk2 ⟨y2, q⟩ => ⟨h2, tk2, rfl, y2, by rw [q]⟩)
theorem ET.or {a b : Bool} (H1 : ET w A s env h e1 a) (H2 : ET w A s env h e2 b) : ET w A s env h (.BoolOp .Or [e1, e2] pos) (a || b) := fun h1 y tk =>
  isTrue_or (Ev.use (H1 h1 y) fun c h2 tk2 ⟨y2, q⟩ => by
    subst q
    cases c with
    | true => simp only [if_true]; exact ⟨h2, tk2, rfl, y2, rfl⟩
    | false =>
      simp only [Bool.false_eq_true, if_false]
      exact isTrue_or (Ev.use (H2 h2 (y.trans y2)) fun c h3 tk3 ⟨y3, q⟩ => by
        subst q
        cases c with
        | true => simp only [if_true]; exact ⟨h3, tk3, rfl, y2.trans y3, rfl⟩
        | false => simp only [Bool.false_eq_true, if_false]; exact isTrue_or_nil ⟨h3, tk3, rfl, y2.trans y3, rfl⟩))
/-- the second is reached only where the first fails -/
theorem ET.or' {a b : Bool} (H1 : ET w A s env h e1 a) (H2 : a = false → ET w A s env h e2 b) : ET w A s env h (.BoolOp .Or [e1, e2] pos) (a || b) := by
  cases a with
  | false => exact .or H1 (H2 rfl)
  | true => exact fun h1 y tk => isTrue_or (Ev.use (H1 h1 y) fun c h2 tk2 ⟨y2, q⟩ => by subst q; simp only [if_true]; exact ⟨h2, tk2, rfl, y2, rfl⟩)
/-- a value that is a bool, as a test -/
theorem ET.plain {b : Bool} (H : EV w A s env h e (.bool b)) (hp : isTrue e env (eval e env) = (do let v ← eval e env; standAt e.pos; holding [v] (truthy v))) : ET w A s env h e b := fun h1 y tk =>
  isTrue_plain (Ev.use (H h1 y) fun v h2 tk2 ⟨y2, q⟩ => by subst q; exact wpAny_truthy_bool ⟨h2, tk2, rfl, y2, rfl⟩) hp
theorem EV.eq {a b : Int} (H1 : EI w A s env h e1 a) (H2 : EI w A s env h e2 b) (hm : behindInMarks .Eq e2 = false := by rfl) : EV w A s env h (.Compare e1 [.Eq] [e2] pos) (.bool (decide (a = b))) := fun h1 y tk =>
  wpAny_Compare1 (Ev.use (H1 h1 y) fun v h2 tk2 ⟨y2, t, q⟩ => by
    subst q
    exact Ev.use (H2 h2 (y.trans y2)) fun v h3 tk3 ⟨y3, u, q⟩ => by
      subst q
      exact eq_int ⟨_, _, rfl, y2.trans y3, congrArg Value.bool (by rw [Bool.eq_iff_iff]; simp)⟩) hm
theorem EI.neg {a : Int} (H : EI w A s env h e a) : EI w A s env h (.UnaryOp .USub e pos) (-a) := fun h1 y tk =>
  wpAny_UnaryOp (Ev.use (H h1 y) fun v h2 tk2 ⟨y2, t, q⟩ => by subst q; exact neg_int ⟨h2, _, rfl, y2, _, rfl⟩)
theorem E1.ite {t : Expr} {b : Bool} {R : Heap → Value → Heap → Prop} (T : ET w A s env h t b) (H1 : b = true → E1 w A s env h e1 R) (H2 : b = false → E1 w A s env h e2 R)
    (hR : ∀ h1 h2 v h', Ext h1 h2 → R h2 v h' → R h1 v h') : E1 w A s env h (.IfExp t e1 e2 pos) R := fun h1 y tk =>
  IfExp_ (Ev.use (T h1 y) fun c h2 tk2 ⟨y2, q⟩ => by
    subst q
    cases c with
    | true => simp only [if_true]; exact Ev.use (H1 rfl h2 (y.trans y2)) fun v h3 tk3 ⟨y3, r⟩ => ⟨h3, tk3, rfl, y2.trans y3, hR _ _ _ _ y2 r⟩
    | false => simp only [Bool.false_eq_true, if_false]; exact Ev.use (H2 rfl h2 (y.trans y2)) fun v h3 tk3 ⟨y3, r⟩ => ⟨h3, tk3, rfl, y2.trans y3, hR _ _ _ _ y2 r⟩)
theorem EI.ite {t : Expr} {b : Bool} {k1 k2 : Int} (T : ET w A s env h t b) (H1 : b = true → EI w A s env h e1 k1) (H2 : b = false → EI w A s env h e2 k2) : EI w A s env h (.IfExp t e1 e2 pos) (if b then k1 else k2) :=
  E1.ite T (fun q => by subst q; exact H1 rfl) (fun q => by subst q; exact H2 rfl) fun _ _ _ _ _ r => r
/-- two lists of ints compared -/
theorem ET.lne {ns ms : List Int} (hu : A.units + 64 < cLine) (H1 : EL w A s env h e1 ns) (H2 : EL w A s env h e2 ms) (hm : behindInMarks .NotEq e2 = false := by rfl) : ET w A s env h (.Compare e1 [.NotEq] [e2] pos) (!decide (ns = ms)) := fun h1 y tk =>
  wpAny_isTrue_Compare1 (Ev.use (H1 h1 y) fun v h2 tk2 ⟨y2, l1, q1, hA1⟩ => by
    subst q1
    exact Ev.use (H2 h2 (y.trans y2)) fun v h3 tk3 ⟨y3, l2, q2, hA2⟩ => by
      subst q2
      obtain ⟨vs, hl1, hi1⟩ := (hA1.up y3).list
      obtain ⟨us, hl2, hi2⟩ := hA2.list
      exact ne_intsK (s := St s h3 tk3) hl1 hi1 hl2 hi2 hu (wpAny_truthy_bool ⟨_, _, rfl, y2.trans y3, rfl⟩)) hm

/-- an item at a negative place -/
theorem EI.itemN {e i : Expr} {ns : List Int} {j k : Int} (L : EL w A s env h e ns) (I : EI w A s env h i j) (h0 : j < 0) (h1 : -(ns.length : Int) ≤ j) (h2 : -(2 ^ 63) ≤ j) (hk : ns[(j + ns.length).toNat]? = some k)
    (hs : ∀ l t, subscripted i false (.ref l) (.int j t) = operate [.ref l, .int j t] (getItem (.ref l) (.int j t)) := by intros; rfl) :
    EI w A s env h (.Subscript e i pos) k := fun h1' x tk =>
  Subscript_ (Ev.use (L h1' x) fun v h2' tk2 ⟨x2, l, e, hA⟩ => by
    subst e
    exact Ev.use (I h2' (x.trans x2)) fun v h3 tk3 ⟨x3, t, e⟩ => by
      subst e
      obtain ⟨vs, hl, hi⟩ := (hA.up x3).list
      obtain ⟨u, hu⟩ := ints_get hi hk
      have e3 : vs.toArray.size = ns.length := by rw [List.size_toArray, hi.length]
      exact tail_any (Heap.IsList.typeIs (s := St s h3 tk3) hl) slot_list_getitem.lookup (wpAny_getItem_list_neg hl h0 (by rw [e3]; exact h1) h2 (by rw [e3]; simpa using hu) ⟨_, _, rfl, x2.trans x3, u, rfl⟩) (hs l t))
theorem EV.itemN {e i : Expr} {l : Addr} {vs : List Value} {j : Int} (L : EV w A s env h e (.ref l)) (hA : At h l (.vals vs)) (I : EI w A s env h i j) (h0 : j < 0) (h1 : -(vs.length : Int) ≤ j) (h2 : -(2 ^ 63) ≤ j) (hk : vs[(j + vs.length).toNat]? = some v)
    (hs : ∀ l t, subscripted i false (.ref l) (.int j t) = operate [.ref l, .int j t] (getItem (.ref l) (.int j t)) := by intros; rfl) :
    EV w A s env h (.Subscript e i pos) v := fun h1' x tk =>
  Subscript_ (Ev.use (L h1' x) fun v' h2' tk2 ⟨x2, e⟩ => by
    subst e
    exact Ev.use (I h2' (x.trans x2)) fun v' h3 tk3 ⟨x3, t, e⟩ => by
      subst e
      have hl := ((hA.up (x.trans (x2.trans x3))).vals)
      have e3 : vs.toArray.size = vs.length := List.size_toArray
      exact tail_any (Heap.IsList.typeIs (s := St s h3 tk3) hl) slot_list_getitem.lookup (wpAny_getItem_list_neg hl h0 (by rw [e3]; exact h1) h2 (by rw [e3]; simpa using hk) ⟨_, _, rfl, x2.trans x3, rfl⟩) (hs l t))

/-! slices, sums, displays -/
theorem IntsAre_take : ∀ {vs : List Value} {ns : List Int} (n : Nat), IntsAre vs ns → IntsAre (vs.take n) (ns.take n)
  | _, _, 0, _ => by simpa using IntsAre.nil
  | _, _, _ + 1, .nil => by simpa using IntsAre.nil
  | _, _, n + 1, .cons k t r => by simpa using IntsAre.cons k t (IntsAre_take n r)
theorem push2 {h : Heap} {o o' : Obj} (hf : o'.isFreed = false) : ((h.push o).push o').get? (h.objs.size + 1) = some o' := by
  have := Heap.get?_push_size (h.push o) (o := o') hf
  rwa [Heap.size_push] at this
theorem ELp.upto {ns : List Int} {j : Int} {p : Pos} (H : EL w A s env h e1 ns) (J : EI w A s env h e2 j) (h0 : 0 ≤ j) (hz : ns.length ≤ sizeLine) (hl : ∀ (o r : Value), letTemporaryGo e1 o r = pure () := by intros; rfl) :
    ELp w A s env h (.Subscript e1 (.Slice none (some e2) none p) pos) (ns.take j.toNat) := fun h1 y tk => by
  refine wpAny_Subscript_list_slice (Ev.use (H h1 y) fun v h2 tk2 ⟨y2, l, q, hA⟩ => ?_) hl
  rw [evalPart_none]
  refine wpAny_pure ?_
  rw [evalPart_some]
  refine Ev.use (J h2 (y.trans y2)) fun v' h3 tk3 ⟨y3, t, q'⟩ => ?_
  subst q q'
  obtain ⟨vs, hl, hi⟩ := (hA.up y3).list
  refine ⟨l, vs.toArray, none, some j, rfl, hl, by rw [List.size_toArray, hi.length]; exact hz, .none, .int _ _, _, tk3, rfl, (y2.trans y3).trans ((Ext.push _ _).trans (Ext.push _ _)), _, rfl, ?_, ((y2.trans y3).none (get_none (Nat.le_succ _)))⟩
  obtain ⟨n, rfl⟩ := Int.eq_ofNat_of_zero_le h0
  have e3 : slicePick vs.toArray none (some (n : Int)) none = (vs.take n).toArray := by rw [slicePick_upto']
  exact ⟨_, push2 rfl, _, _, by rw [e3], by simpa using IntsAre_take n hi⟩
theorem ELp.copy {ns : List Int} {p : Pos} (H : EL w A s env h e1 ns) (hz : ns.length ≤ sizeLine) (hl : ∀ (o r : Value), letTemporaryGo e1 o r = pure () := by intros; rfl) :
    ELp w A s env h (.Subscript e1 (.Slice none none none p) pos) ns := fun h1 y tk => by
  refine wpAny_Subscript_list_slice (Ev.use (H h1 y) fun v h2 tk2 ⟨y2, l, q, hA⟩ => ?_) hl
  rw [evalPart_none]
  refine wpAny_pure (wpAny_pure ?_)
  subst q
  obtain ⟨vs, hl, hi⟩ := hA.list
  refine ⟨l, vs.toArray, none, none, rfl, hl, by rw [List.size_toArray, hi.length]; exact hz, .none, .none, _, tk2, rfl, y2.trans ((Ext.push _ _).trans (Ext.push _ _)), _, rfl, ?_, (y2.none (get_none (Nat.le_succ _)))⟩
  exact ⟨_, push2 rfl, vs, _, by rw [slicePick_all], hi⟩
theorem ELp.add {ns ms : List Int} (H1 : EL w A s env h e1 ns) (H2 : EL w A s env h e2 ms) (hz : ns.length + ms.length ≤ sizeLine) : ELp w A s env h (.BinOp e1 .Add e2 pos) (ns ++ ms) := fun h1 y tk =>
  wpAny_BinOp (Ev.use (H1 h1 y) fun v h2 tk2 ⟨y2, l1, q1, hA1⟩ => by
    subst q1
    exact Ev.use (H2 h2 (y.trans y2)) fun v h3 tk3 ⟨y3, l2, q2, hA2⟩ => by
      subst q2
      obtain ⟨vs, hl1, hi1⟩ := (hA1.up y3).list
      obtain ⟨us, hl2, hi2⟩ := hA2.list
      obtain ⟨⟨c1, d1, dt1, sl1⟩, ho1, hc1, n1, hd1⟩ := id hl1
      obtain ⟨⟨c2, d2, dt2, sl2⟩, ho2, hc2, n2, hd2⟩ := id hl2
      simp only at hc1 hd1 hc2 hd2
      subst hc1 hd1 hc2 hd2
      refine concat_meets (s := St s h3 tk3) ⟨_, ho1, rfl⟩ ⟨_, ho2, rfl⟩ noFill_list_add seq_list_add PySem.F.slot_list_add PySem.F.entry_list_add (PySem.F.args_list_add_2 _ _) (list_addW l1 l2 vs.toArray us.toArray n1 n2 d1 d2 sl1 sl2 (by simp [hi1.length, hi2.length]; exact hz)) ⟨ho1, ho2, ?_⟩
      refine ⟨_, _, rfl, (y2.trans y3).trans (Ext.push _ _), _, rfl, ?_, (y2.trans y3).none (get_none (Nat.le_refl _))⟩
      exact ⟨_, Heap.get?_push_size _ rfl, vs ++ us, 0, by simp, hi1.append hi2⟩)
/-- a display of one -/
theorem E1.list1 {R : Heap → Value → Heap → Prop} (H : E1 w A s env h e R) (hs : backTo pos (starEach [e] env) = [(false, eval e env)]) :
    E1 w A s env h (.List [e] pos) (fun h1 v h' => ∃ l x h2, v = .ref l ∧ Ext h1 h2 ∧ R h1 x h2 ∧ Ext h2 h' ∧ At h' l (.pvals [x]) ∧ h1.get? l = none) := fun h1 y tk =>
  List_ (by
    rw [hs]
    refine spliced_cons (Ev.use (H h1 y) fun x h2 tk2 ⟨y2, r⟩ => spliced_nil ?_)
    exact wpAny_newObj_type ⟨_, tk2, rfl, y2.trans (Ext.push _ _), _, x, h2, rfl, y2, r, Ext.push _ _, ⟨_, Heap.get?_push_size _ rfl, 0, rfl⟩, y2.none (get_none (Nat.le_refl _))⟩ (by show (1 : Nat) ≤ sizeLine; rw [sizeLine_eq]; omega))
theorem ELp.one {k : Int} (H : EI w A s env h e k) (hs : backTo pos (starEach [e] env) = [(false, eval e env)]) : ELp w A s env h (.List [e] pos) [k] :=
  fun h1 y => (E1.list1 H hs h1 y).mono fun v h' ⟨a, l, x, h2, q, b, ⟨t, r⟩, c, ⟨o, eo, n, qo⟩, d⟩ => ⟨a, l, q, ⟨o, eo, [x], n, qo, by rw [r]; exact .cons k t .nil⟩, d⟩
/-- a display of one, none times -/
theorem ELp.times0 {k j : Int} {p : Pos} (H : EI w A s env h e k) (J : EI w A s env h e2 j) (h0 : j = 0) (hs : backTo p (starEach [e] env) = [(false, eval e env)]) : ELp w A s env h (.BinOp (.List [e] p) .Mult e2 pos) [] := fun h1 y tk => by
  subst h0
  refine wpAny_BinOp (Ev.use (E1.list1 H hs h1 y) fun v h2 tk2 ⟨y2, l, x, h2', q, _, _, _, ⟨o, ho, n, qo⟩, _⟩ => ?_)
  subst q
  subst qo
  refine Ev.use (J h2 (y.trans y2)) fun v h3 tk3 ⟨y3, u, q⟩ => ?_
  subst q
  have hl := y3 _ _ ho
  refine wpAny_binaryOp_repeat_ref (s := St s h3 tk3) (T := "list") (U := "int") (by decide) ⟨_, hl, rfl⟩ (fun s' => typeIs_int s' 0 u) noFill_list_mul F.fills_int_mul F.slot_int_rmul repeat_list F.slot_int_index.lookup
    (call_meets F.slot_int_rmul (typeIs_int _ 0 u) F.entry_int_rmul (F.args_int_rmul_2 _ _) (int___rmul___int_list 0 u l _ n)
      ⟨hl, rfl, ⟨_, hl, rfl⟩, call_meets F.slot_list_mul ⟨_, hl, rfl⟩ F.entry_list_mul (F.args_list_mul_2 _ _)
        (AutoListH.list___mul___list_int_3 l _ n 0 u (by simp [Builtin.List.listFitsIndex]) (by simp) (by simp [Builtin.List.listTooLong, sizeLine])) ⟨hl, ?_⟩⟩)
  exact ⟨_, _, rfl, (y2.trans y3).trans (Ext.push _ _), _, rfl, ⟨_, Heap.get?_push_size _ rfl, [], 0, by simp, .nil⟩, (y2.trans y3).none (get_none (Nat.le_refl _))⟩
end
end Mine

namespace Mine

/-- an expression that may change what h's reader does not hold -/
def EX (w : World) (A : Around) (s : Shared) (env : Env) (h : Heap) (e : Expr) (Q : Value → Heap → Prop) : Prop := ∀ h1, Ext h h1 → Ev w A s h1 (eval e env) Q
section
variable {g h h' : Heap} {L a : Addr} {m : Str → Option Value} {own : List (Addr × Kd)} {kd kd' : Kd}
theorem SS.kbput (S : SS g L h m ((a, kd) :: own)) (x : Kb [a] h h') (hA : At h' a kd') : SS g L h' m ((a, kd') :: own) := by
  have S' := S.drop.kb x (fun b hb => by rw [List.mem_singleton.mp hb]; exact (S.fresh _ (.head _)).1) (fun q => (S.fresh _ (.head _)).2 (List.mem_singleton.mp q).symm)
    (fun p hp q => (List.nodup_cons.mp S.dis).1 (List.mem_map.mpr ⟨p, hp, List.mem_singleton.mp q⟩))
  exact ⟨S'.ns, S'.keep, S'.above, fun p hp => by rcases List.mem_cons.mp hp with rfl | hp; exact hA; exact S'.at' p hp,
    fun p hp => by rcases List.mem_cons.mp hp with rfl | hp; exact S.fresh (a, kd) (.head _); exact S'.fresh p hp, S.dis⟩
end
section
variable {w : World} {A : Around} {s : Shared} {g h : Heap} {L : Addr} {m : Str → Option Value} {own : List (Addr × Kd)} {env : Env} {x y : Str} {pos px py tp : Pos} {v : Value} {k : Int} {c f : Addr} {e e1 e2 : Expr} {es : List Expr} {rest body : List Stmt} {P : Flow → Heap → Prop}

/-- for x in range(..), the range impure -/
theorem X.for_rangeX {a b c : Int} {n : Nat} (J : Nat → (Str → Option Value) → List (Addr × Kd) → Prop) (hh : A.handled = none) (H : EX w A s env h e (fun v h1 => ∃ r t u v' own, v = .ref r ∧ IsRange h1 r a b c t u v' ∧ SS g L h1 m own ∧ J 0 m own)) (hsm : Builtin.Range.small a b c = true) (hn : Builtin.Range.rangeSize a b c = (n : Int))
    (turn : ∀ i h' m' own' I o t, i < n → J i m' own' → SS g L h' (up m' x (.int (a + (i : Int) * c) t)) ((I, .obj o) :: own') → X w A s env h' body (fun f h'' => match f with
      | .next | .cont => ∃ m'' own'', SS g L h'' m'' ((I, .obj o) :: own'') ∧ J (i + 1) m'' own''
      | .brk => X w A s env h'' rest P
      | .ret v => P (.ret v) h''))
    (done : ∀ h' m' own', J n m' own' → SS g L h' m' own' → X w A s env h' rest P)
    (hL : env.locals = L := by rfl) (hk : env.scope.kind = .function := by rfl) (hx : env.kindOf x = some .local := by rfl)
    (hs : ∀ x, foldedSetIterable e env x = pure x := by intro _; rfl) : X w A s env h (.For (.Name x px) e body [] pos :: rest) P := X.cons fun tk => by
  refine wpAny_For (Ev.use (H h .rfl) fun v h1 tk1 ⟨r, t, u, v', own, q, hr, S, h0⟩ => ?_) hs
  subst q
  refine wpAny_pyIter_range (s := St s h1 tk1) hr hsm ?_
  have SI : SS g L (h1.push { cls := .type "range_iterator", data := .fields #[rawInt a, rawInt (Builtin.Range.rangeSize a b c), rawInt c] }) m ((h1.objs.size, .obj { cls := .type "range_iterator", data := .fields #[rawInt (a + (0 : Nat) * c), rawInt ((n : Int) - (0 : Nat)), rawInt c] }) :: own) := by
    refine S.new (Ext.push _ _) ⟨_, Heap.get?_push_size _ rfl, ?_⟩ (get_none (Nat.le_refl _))
    show _ = _
    rw [hn]
    simp
  refine codeAny_forLoop (fun k s' => ∃ h' tk' i m' own', s' = St s h' tk' ∧ i ≤ n ∧ k = n + 1 - i ∧ SS g L h' m' ((h1.objs.size, .obj { cls := .type "range_iterator", data := .fields #[rawInt (a + (i : Nat) * c), rawInt ((n : Int) - (i : Nat)), rawInt c] }) :: own') ∧ J i m' own') ?_ (n + 1) ⟨_, tk1, 0, m, own, rfl, Nat.zero_le _, rfl, SI, h0⟩
  rintro k s' ⟨h', tk', i, m', own', rfl, hi, rfl, S', J'⟩
  have W := Walks.range (prog := PR) (w := w) hh h1.objs.size a c n
  have st : IsRangeIter h' h1.objs.size (a + (i : Nat) * c) ((n : Int) - (i : Nat)) c := by
    obtain ⟨o, e1, e2⟩ := S'.at' _ (.head _)
    have e2 : o = _ := e2
    subst e2
    exact e1
  by_cases hlt : i < n
  · refine W.item i (St s h' tk') _ _ hlt st fun v h2 tk2 ⟨t, q⟩ st2 hk2 => ?_
    subst q
    have S2 : SS g L h2 m' ((h1.objs.size, .obj { cls := .type "range_iterator", data := .fields #[rawInt (a + ((i + 1 : Nat) : Int) * c), rawInt ((n : Int) - ((i + 1 : Nat) : Int)), rawInt c] }) :: own') :=
      S'.kbput (fun b o hb e => hk2 b o hb e) ⟨_, st2, rfl⟩
    refine wpAny_assign_Name (Ev.use (store_loc (Q := fun _ h3 => SS g L h3 (up m' x (.int (a + (i : Int) * c) t)) _) S2 hL hk hx fun h3 S3 => S3) fun _ h3 tk3 S3 => ?_)
    refine Ev.use (turn i h3 m' own' _ _ t hlt J' S3) fun f h4 tk4 p => ?_
    cases f with
    | next => obtain ⟨m'', own'', S4, J4⟩ := p; exact ⟨n + 1 - (i + 1), by omega, h4, tk4, i + 1, m'', own'', rfl, hlt, rfl, S4, J4⟩
    | cont => obtain ⟨m'', own'', S4, J4⟩ := p; exact ⟨n + 1 - (i + 1), by omega, h4, tk4, i + 1, m'', own'', rfl, hlt, rfl, S4, J4⟩
    | brk => exact ⟨h4, tk4, rfl, p⟩
    | ret v => exact ⟨h4, tk4, rfl, p⟩
  · have e : i = n := Nat.le_antisymm hi (Nat.not_lt.mp hlt)
    subst e
    refine W.done (St s h' tk') _ _ st fun h2 tk2 hk2 => wpAny_execs_nil ⟨h2, tk2, rfl, ?_⟩
    have nd := (List.nodup_cons.mp S'.dis).1
    refine done h2 m' own' J' (S'.drop.kb (fun b o hb e => hk2 b o hb e) ?_ ?_ ?_)
    · intro b hb; rw [List.mem_singleton.mp hb]; exact (S'.fresh _ (.head _)).1
    · intro q; exact (S'.fresh _ (.head _)).2 (List.mem_singleton.mp q).symm
    · intro p hp q; exact nd (List.mem_map.mpr ⟨p, hp, List.mem_singleton.mp q⟩)
/-- for x in range(..), by an invariant over the locals and the own objects -/
theorem X.for_range {a b c : Int} {n : Nat} (J : Nat → (Str → Option Value) → List (Addr × Kd) → Prop) (S : SS g L h m own) (hh : A.handled = none) (H : ER w A s env h e a b c) (hsm : Builtin.Range.small a b c = true) (hn : Builtin.Range.rangeSize a b c = (n : Int)) (h0 : J 0 m own)
    (turn : ∀ i h' m' own' I o t, i < n → J i m' own' → SS g L h' (up m' x (.int (a + (i : Int) * c) t)) ((I, .obj o) :: own') → X w A s env h' body (fun f h'' => match f with
      | .next | .cont => ∃ m'' own'', SS g L h'' m'' ((I, .obj o) :: own'') ∧ J (i + 1) m'' own''
      | .brk => X w A s env h'' rest P
      | .ret v => P (.ret v) h''))
    (done : ∀ h' m' own', J n m' own' → SS g L h' m' own' → X w A s env h' rest P)
    (hL : env.locals = L := by rfl) (hk : env.scope.kind = .function := by rfl) (hx : env.kindOf x = some .local := by rfl)
    (hs : ∀ x, foldedSetIterable e env x = pure x := by intro _; rfl) : X w A s env h (.For (.Name x px) e body [] pos :: rest) P :=
  X.for_rangeX J hh (fun h1 y => (H h1 y).mono fun v h' ⟨y', r, t, u, v', q, hr, _⟩ => ⟨r, t, u, v', own, q, hr, S.up (y.trans y'), h0⟩) hsm hn turn done hL hk hx hs

theorem IntsAre.set' : ∀ {vs : List Value} {ns : List Int} (i : Nat) (k : Int) (t : Tok), IntsAre vs ns → IntsAre (vs.set i (.int k t)) (ns.set i k)
  | _, _, _, _, _, .nil => by simpa using IntsAre.nil
  | _, _, 0, k, t, .cons _ _ r => by simpa using IntsAre.cons k t r
  | _, _, i + 1, k, t, .cons a u r => by simpa using IntsAre.cons a u (IntsAre.set' i k t r)
/-- l[i] = v, ints -/
theorem X.setI {l : Addr} {ns : List Int} {j : Int} {pi : Pos} {ei : Expr} (S : SS g L h m ((l, .ints ns) :: own)) (H : EI w A s env h e k) (Hl : EV w A s env h e1 (.ref l)) (Hi : EI w A s env h ei j) (h0 : 0 ≤ j) (h1 : j < ns.length) (h2 : j < 2 ^ 63)
    (K : ∀ h', SS g L h' m ((l, .ints (ns.set j.toNat k)) :: own) → X w A s env h' rest P)
    (hsw : swapsWith e (some (.Subscript e1 ei pi)) pos.line env = pure false := by rfl) : X w A s env h (.Assign [.Subscript e1 ei pi] e pos :: rest) P := X.cons fun tk =>
  wpAny_Assign_Subscript (Ev.use (H h .rfl) fun v h3 tk3 ⟨y3, t, q⟩ => by
    subst q
    exact Ev.use (Hl h3 y3) fun v h4 tk4 ⟨y4, q⟩ => by
      subst q
      exact Ev.use (Hi h4 (y3.trans y4)) fun v h5 tk5 ⟨y5, u, q⟩ => by
        subst q
        have S5 := S.up (y3.trans (y4.trans y5))
        obtain ⟨vs, hl, hi⟩ := (S5.at' _ (.head _)).list
        have e3 : vs.toArray.size = ns.length := by rw [List.size_toArray, hi.length]
        refine wpAny_setItem_list (s := St s h5 tk5) hl h0 h2 (by rw [e3]; exact h1) fun h6 hl6 hb6 => ⟨h6, tk5, rfl, K h6 (S5.put hb6 (At.of_list (vs := vs.set j.toNat (.int k t)) (by simpa using hl6) (IntsAre.set' _ k t hi)))⟩) hsw
/-- l[i] = v, no ints -/
theorem X.setV {l : Addr} {vs : List Value} {j : Int} {pi : Pos} {ei : Expr} {R : Value → Prop} (S : SS g L h m ((l, .vals vs) :: own)) (H : E1 w A s env h e (fun _ v _ => R v)) (Hl : EV w A s env h e1 (.ref l)) (Hi : EI w A s env h ei j) (h0 : 0 ≤ j) (h1 : j < vs.length) (h2 : j < 2 ^ 63)
    (K : ∀ h' v, R v → SS g L h' m ((l, .vals (vs.set j.toNat v)) :: own) → X w A s env h' rest P)
    (hsw : swapsWith e (some (.Subscript e1 ei pi)) pos.line env = pure false := by rfl) : X w A s env h (.Assign [.Subscript e1 ei pi] e pos :: rest) P := X.cons fun tk =>
  wpAny_Assign_Subscript (Ev.use (H h .rfl) fun v h3 tk3 ⟨y3, r⟩ =>
    Ev.use (Hl h3 y3) fun v' h4 tk4 ⟨y4, q⟩ => by
      subst q
      exact Ev.use (Hi h4 (y3.trans y4)) fun v' h5 tk5 ⟨y5, u, q⟩ => by
        subst q
        have S5 := S.up (y3.trans (y4.trans y5))
        have hl := (S5.at' _ (.head _)).vals
        have e3 : vs.toArray.size = vs.length := List.size_toArray
        refine wpAny_setItem_list (s := St s h5 tk5) hl h0 h2 (by rw [e3]; exact h1) fun h6 hl6 hb6 => ⟨h6, tk5, rfl, K h6 v r (S5.put hb6 (At.of_vals (by simpa using hl6)))⟩) hsw
/-- l.append(v) -/
theorem X.app {pl : Sem Bool} {l : Addr} {vs : List Value} {p1 p2 : Pos} {R : Heap → Value → Heap → Prop} (S : SS g L h m ((l, .pvals vs) :: own)) (Hl : EV w A s env h e1 (.ref l)) (H : E1 w A s env h e R) (hz : vs.length ≤ sizeLine)
    (K : ∀ h1 h2 h3 v, Ext h h1 → R h1 v h2 → Ext h1 h2 → SS g L h2 m ((l, .pvals vs) :: own) → SS g L h3 m ((l, .pvals (vs ++ [v])) :: own) → Kb [l] h2 h3 → X w A s env h3 rest P)
    (hs : backTo p1 (starEach [e] env) = [(false, eval e env)])
    (he : eval (.Call (.Attribute e1 (Str.ofString "append") p2) [e] [] p1) env = (do
      let ov ← eval e1 env
      standAt p2.atName
      let (f, first) ← holding [ov] (getMethod ov (Str.ofString "append") pl)
      callWith p1 f first (backTo p1 (starEach [e] env)) []) := by rfl) (hin : interactive env = false := by rfl) :
    X w A s env h (.Expr (.Call (.Attribute e1 (Str.ofString "append") p2) [e] [] p1) pos :: rest) P := X.cons fun tk =>
  wpAny_Expr (MethodCall_ (pl := pl) (Ev.use (Hl h .rfl) fun v h1 tk1 ⟨y1, q⟩ => by
    subst q
    have S1 := S.up y1
    obtain ⟨o, ho, n, qo⟩ := S1.at' _ (.head _)
    subst qo
    refine getMethod_builtin (s := St s h1 tk1) ⟨_, ho, rfl⟩ PySem.F.plainAttrs_list PySem.F.slot_list_append PySem.F.type_list_append (fun a e => by cases e; exact ⟨_, ho, rfl⟩) ?_
    rw [hs]
    refine Calls.callWith_builtin rfl (evalArgs_plain (spliced_cons (Ev.use (H h1 y1) fun v h2 tk2 ⟨y2, r⟩ => spliced_nil ?_)))
    have S2 := S1.up y2
    exact wpAny_list_append_plain (s := St s h2 tk2) (hsz := by rw [List.size_toArray]; exact hz) (S2.at' _ (.head _)).plainv fun h3 hp3 hb3 => ⟨h3, tk2, rfl, K h1 h2 h3 v y1 r y2 S2 (S2.put hb3 (At.of_plainv (by simpa using hp3))) (Kb.but hb3)⟩) he) hin
theorem X.appI {pl : Sem Bool} {l : Addr} {ns : List Int} {p1 p2 : Pos} (S : SS g L h m ((l, .pints ns) :: own)) (Hl : EV w A s env h e1 (.ref l)) (H : EI w A s env h e k) (hz : ns.length ≤ sizeLine)
    (K : ∀ h3, SS g L h3 m ((l, .pints (ns ++ [k])) :: own) → X w A s env h3 rest P)
    (hs : backTo p1 (starEach [e] env) = [(false, eval e env)])
    (he : eval (.Call (.Attribute e1 (Str.ofString "append") p2) [e] [] p1) env = (do
      let ov ← eval e1 env
      standAt p2.atName
      let (f, first) ← holding [ov] (getMethod ov (Str.ofString "append") pl)
      callWith p1 f first (backTo p1 (starEach [e] env)) []) := by rfl) (hin : interactive env = false := by rfl) :
    X w A s env h (.Expr (.Call (.Attribute e1 (Str.ofString "append") p2) [e] [] p1) pos :: rest) P := X.cons fun tk =>
  wpAny_Expr (MethodCall_ (pl := pl) (Ev.use (Hl h .rfl) fun v h1 tk1 ⟨y1, q⟩ => by
    subst q
    have S1 := S.up y1
    obtain ⟨o, ho, vs, n, qo, hi⟩ := S1.at' _ (.head _)
    subst qo
    refine getMethod_builtin (s := St s h1 tk1) ⟨_, ho, rfl⟩ PySem.F.plainAttrs_list PySem.F.slot_list_append PySem.F.type_list_append (fun a e => by cases e; exact ⟨_, ho, rfl⟩) ?_
    rw [hs]
    refine Calls.callWith_builtin rfl (evalArgs_plain (spliced_cons (Ev.use (H h1 y1) fun v h2 tk2 ⟨y2, t, r⟩ => spliced_nil ?_)))
    subst r
    have S2 := S1.up y2
    obtain ⟨vs, hp, hi⟩ := (S2.at' _ (.head _)).plain
    exact wpAny_list_append_plain (s := St s h2 tk2) (hsz := by rw [List.size_toArray, hi.length]; exact hz) hp fun h3 hp3 hb3 => ⟨h3, tk2, rfl, K h3 (S2.put hb3 (At.of_plain (vs := vs ++ [.int k t]) (by simpa using hp3) (hi.append (.cons k t .nil))))⟩) he) hin

/-- a display of two -/
theorem E1.tup2 {k2 : Nat} {pv : Pos} {R1 R2 : Heap → Value → Heap → Prop} (H1 : E1 w A s env h e1 R1) (H2 : E1 w A s env h e2 R2) (hs : backTo pv (starEach [e1, e2] env) = [e1, e2].map fun e => (false, eval e env)) :
    E1 w A s env h (.Tuple [e1, e2] k2 pv) (fun h1 v h' => ∃ T v1 v2 h2 h3, v = .ref T ∧ IsTup h' T #[v1, v2] ∧ h1.get? T = none ∧ Ext h1 h2 ∧ R1 h1 v1 h2 ∧ Ext h2 h3 ∧ R2 h2 v2 h3 ∧ Ext h3 h') := fun h1 y1 tk =>
  Tuple_ (by
    rw [hs]
    refine spliced_cons (Ev.use (H1 h1 y1) fun v1 h3 tk3 ⟨y3, r1⟩ => spliced_cons (Ev.use (H2 h3 (y1.trans y3)) fun v2 h4 tk4 ⟨y4, r2⟩ => spliced_nil ?_))
    exact wpAny_newObj_type ⟨_, tk4, rfl, (y3.trans y4).trans (Ext.push _ _), _, v1, v2, h3, h4, rfl, ⟨_, Heap.get?_push_size _ rfl, rfl, 0, rfl⟩, (y3.trans y4).none (get_none (Nat.le_refl _)), y3, r1, y4, r2, Ext.push _ _⟩ (by show (2 : Nat) ≤ sizeLine; rw [sizeLine_eq]; omega))

/-- x, y = (e1, e2), both locals -/
theorem X.asg2 {k1 k2 : Nat} {pv : Pos} {R1 R2 : Heap → Value → Heap → Prop} (hh : A.handled = none) (H1 : E1 w A s env h e1 R1) (H2 : E1 w A s env h e2 R2)
    (K : ∀ h1 h2 v1 v2, Ext h h1 → R1 h v1 h1 → Ext h1 h2 → R2 h1 v2 h2 → ∃ own', SS g L h2 m own' ∧ ∀ h', SS g L h' (up (up m y v2) x v1) own' → X w A s env h' rest P)
    (hs : backTo pv (starEach [e1, e2] env) = [e1, e2].map fun e => (false, eval e env))
    (hL : env.locals = L := by rfl) (hk : env.scope.kind = .function := by rfl) (hx : env.kindOf x = some .local := by rfl) (hy : env.kindOf y = some .local := by rfl)
    (h1 : swapsWithSole [.Tuple [.Name x px, .Name y py] k1 tp] (.Tuple [e1, e2] k2 pv) pos.line env = pure false := by rfl)
    (h2 : swappedStores [.Tuple [.Name x px, .Name y py] k1 tp] (.Tuple [e1, e2] k2 pv) env = pure (some [x, y]) := by rfl) :
    X w A s env h (.Assign [.Tuple [.Name x px, .Name y py] k1 tp] (.Tuple [e1, e2] k2 pv) pos :: rest) P := X.cons fun tk => by
  refine Assign_Tuple_swapped (names := [x, y]) (Ev.use (E1.tup2 H1 H2 hs h .rfl) fun v h5 tk5 ⟨y5, T, v1, v2, h3, h4, q, hT, _, y3, r1, y4, r2, y6⟩ => ?_) h1 h2
  subst q
  obtain ⟨own', S4, K4⟩ := K h3 h4 v1 v2 y3 r1 y4 r2
  show wpAny _ _ (unpackItems (.ref T) (#[v1, v2]).size none) _ _ _
  refine unpackItems_tuple (s := St s h5 tk5) hh hT fun h6 he6 => ?_
  have y7 : Ext h5 h6 := fun b o e => he6 b o (Nat.ne_of_lt (Heap.lt_size e)) e
  have S6 := S4.up (y6.trans y7)
  show wpAny _ _ (assignInOrder [bindName env y, bindName env x] [v2, v1]) _ _ _
  refine assignInOrder_cons (wpAny_bindName (Ev.use (tk := tk5) (store_loc (Q := fun _ h7 => SS g L h7 (up m y v2) own') S6 hL hk hy fun h7 S7 => S7) fun _ h7 tk7 S7 => ?_))
  refine assignInOrder_cons (wpAny_bindName (Ev.use (tk := tk7) (store_loc (Q := fun _ h8 => SS g L h8 (up (up m y v2) x v1) own') S7 hL hk hx fun h8 S8 => S8) fun _ h8 tk8 S8 => ?_))
  exact assignInOrder_nil ⟨h8, tk8, rfl, K4 h8 S8⟩
end
end Mine

namespace Mine
theorem up_self {m : Str → Option Value} {x : Str} {v : Value} : up m x v x = some v := if_pos rfl
theorem up_ne {m : Str → Option Value} {x y : Str} {v : Value} {r : Option Value} (n : y ≠ x) (h : m y = r) : up m x v y = r := (if_neg n).trans h
theorem mul_ok {a b : Int} (h0 : -1000000000 ≤ a) (h1 : a ≤ 1000000000) : IntMulOk a b := PySem.IntMulOk.of_left (PySem.intBits_le_64 (by omega) (by omega))

theorem mm (a b q : Int) : (a % q) * b % q = a * b % q := by rw [Int.mul_emod, Int.emod_emod, ← Int.mul_emod]
theorem mmr (a b q : Int) : a * (b % q) % q = a * b % q := by rw [Int.mul_comm, mm, Int.mul_comm]
theorem pwm (a q : Int) : ∀ n : Nat, (a % q) ^ n % q = a ^ n % q
  | 0 => by simp
  | n + 1 => by rw [Int.pow_succ, Int.pow_succ, mmr, Int.mul_comm, ← mmr, pwm a q n, mmr, Int.mul_comm]
theorem sq_pow (a : Int) (k : Nat) : (a * a) ^ k = a ^ (2 * k) := by rw [Int.pow_mul, show a ^ 2 = a * a from by rw [Int.pow_succ, Int.pow_succ, Int.pow_zero, Int.one_mul]]
theorem pp_even {f a q : Int} {n : Nat} (he : n % 2 ≠ 1) : f * (a * a % q) ^ (n / 2) % q = f * a ^ n % q := by
  rw [← mmr, pwm, mmr, sq_pow, show 2 * (n / 2) = n from by omega]
theorem pp_odd {f a q : Int} {n : Nat} (ho : n % 2 = 1) : (f * a % q) * (a * a % q) ^ (n / 2) % q = f * a ^ n % q := by
  rw [mm, ← mmr, pwm, mmr, sq_pow, Int.mul_assoc, Int.mul_comm a, ← Int.pow_succ, show (2 * (n / 2)).succ = n from by omega]

section
variable {w : World} {A : Around} {s : Shared} {h : Heap}
theorem pp_call {a n q : Int} {t1 t2 t3 : Tok} (R : Rd w h) (O : Ok A 1) (h0 : 0 ≤ n) (hq : 0 < q) (hq1 : q < 1000) (ha : 0 ≤ a) (ha1 : a < 1000) :
    Ev w A s h (call (.ref 60) [.int a t1, .int n t2, .int q t3]) (fun v h' => Ext h h' ∧ ∃ t, v = .int (a ^ n.toNat % q) t) := by
  refine' enter (f := 60) R O ?ho ?hcd ?hb ?hl ?hc ?h1 ?h2 ?h3 ?H
  case ho => k_is
  case hcd => k_is
  case hb => exact rfl
  case hl => exact locs rfl
  case hc => decide
  case h1 => rfl
  case h2 => rfl
  case h3 => rfl
  intro L h1 S O1 R1
  refine X.asgI S (EI.mod EI.const (EI.loc S (t := t3) rfl rfl rfl rfl (by decide)) hq) ?_
  intro h2 t4 S2
  refine X.while (fun k m own => own = [] ∧ ∃ f a' nn tf ta tn tq, m (Str.ofString "found") = some (.int f tf) ∧ m (Str.ofString "a") = some (.int a' ta) ∧ m (Str.ofString "n") = some (.int nn tn) ∧ m (Str.ofString "p") = some (.int q tq) ∧
    0 ≤ nn ∧ k = nn.toNat ∧ 0 ≤ f ∧ f < q ∧ 0 ≤ a' ∧ a' < 1000 ∧ f * a' ^ nn.toNat % q = a ^ n.toNat % q) n.toNat S2 ?_ ?_
  · refine ⟨rfl, 1 % q, a, n, t4, t1, t2, t3, up_self, up_ne (by decide) rfl, up_ne (by decide) rfl, up_ne (by decide) rfl, h0, rfl, Int.emod_nonneg _ (by omega), Int.emod_lt_of_pos _ hq, ha, ha1, ?_⟩
    rw [mm, Int.one_mul]
  · rintro k h3 m own S3 ⟨rfl, f, a', nn, tf, ta, tn, tq, hf, ha, hn, hp, n0, rfl, f0, f1, a0, a1, inv⟩
    refine ⟨_, ET.gt (EI.loc S3 hn rfl rfl rfl (by decide)) EI.const, fun hb h4 S4 => ?_, fun hb h4 S4 => ?_⟩
    · have e : nn = 0 := by have := of_decide_eq_false hb; omega
      subst e
      refine X.retI (EI.loc S4 hf rfl rfl rfl (by decide)) fun h5 t x5 => ⟨S4.keep.trans x5, t, ?_⟩
      rw [← inv]
      simp only [Int.toNat_zero, Int.pow_zero, Int.mul_one]
      rw [Int.emod_eq_of_lt f0 f1]
    · have hpos : 0 < nn := of_decide_eq_true hb
      refine X.if (ET.eq (EI.mod (EI.loc S4 hn rfl rfl rfl (by decide)) EI.const (by decide)) EI.const) fun h5 x5 => ?_
      have S5 := S4.up x5
      by_cases ho : nn % 2 = 1
      · rw [decide_eq_true ho, if_pos rfl]
        refine X.asgI S5 (EI.mod (EI.mul (EI.loc S5 hf rfl rfl rfl (by decide)) (EI.loc S5 ha rfl rfl rfl (by decide)) (mul_ok (by omega) (by omega))) (EI.loc S5 hp rfl rfl rfl (by decide)) hq) ?_
        intro h6 t6 S6
        refine X.nil ?_
        refine X.asgI S6 (EI.mod (EI.mul (EI.loc S6 (up_ne (by decide) ha) rfl rfl rfl (by decide)) (EI.loc S6 (up_ne (by decide) ha) rfl rfl rfl (by decide)) (mul_ok (by omega) (by omega))) (EI.loc S6 (up_ne (by decide) hp) rfl rfl rfl (by decide)) hq) ?_
        intro h7 t7 S7
        refine X.aug S7 (up_ne (by decide) (up_ne (by decide) hn)) EI.const (op_fdiv (by decide) (PyProof.noPylong_small (by decide))) ?_
        intro h8 t8 S8
        refine X.nil ⟨_, _, (nn / 2).toNat, by omega, S8, rfl, _, _, _, t6, t7, t8, tq, up_ne (by decide) (up_ne (by decide) up_self), up_ne (by decide) up_self, up_self, up_ne (by decide) (up_ne (by decide) (up_ne (by decide) hp)), by omega, rfl,
          Int.emod_nonneg _ (by omega), Int.emod_lt_of_pos _ hq, Int.emod_nonneg _ (by omega), by have := Int.emod_lt_of_pos (a' * a') hq; omega, ?_⟩
        rw [show (nn / 2).toNat = nn.toNat / 2 from by omega, pp_odd (by omega), inv]
      · rw [decide_eq_false ho, if_neg (by decide)]
        refine X.nil ?_
        refine X.asgI S5 (EI.mod (EI.mul (EI.loc S5 ha rfl rfl rfl (by decide)) (EI.loc S5 ha rfl rfl rfl (by decide)) (mul_ok (by omega) (by omega))) (EI.loc S5 hp rfl rfl rfl (by decide)) hq) ?_
        intro h7 t7 S7
        refine X.aug S7 (up_ne (by decide) hn) EI.const (op_fdiv (by decide) (PyProof.noPylong_small (by decide))) ?_
        intro h8 t8 S8
        refine X.nil ⟨_, _, (nn / 2).toNat, by omega, S8, rfl, _, _, _, tf, t7, t8, tq, up_ne (by decide) (up_ne (by decide) hf), up_ne (by decide) up_self, up_self, up_ne (by decide) (up_ne (by decide) hp), by omega, rfl,
          f0, f1, Int.emod_nonneg _ (by omega), by have := Int.emod_lt_of_pos (a' * a') hq; omega, ?_⟩
        rw [show (nn / 2).toNat = nn.toNat / 2 from by omega, pp_even (by omega), inv]
end
end Mine

namespace Mine
/-! the names of the text's defs, and of built-ins -/
section
variable {w : World}
theorem nm_isp : nsIn (hd.heap_39 w.params) mainGlobals (Str.ofString "is_small_prime") = some (some (.ref 46)) := by k_is
theorem nm_pf : nsIn (hd.heap_39 w.params) mainGlobals (Str.ofString "prime_for") = some (some (.ref 53)) := by k_is
theorem nm_pp : nsIn (hd.heap_39 w.params) mainGlobals (Str.ofString "plain_power") = some (some (.ref 60)) := by k_is
theorem nm_rt : nsIn (hd.heap_39 w.params) mainGlobals (Str.ofString "root_of_unity") = some (some (.ref 67)) := by k_is
theorem nm_po : nsIn (hd.heap_39 w.params) mainGlobals (Str.ofString "powers_of") = some (some (.ref 74)) := by k_is
theorem nm_rv : nsIn (hd.heap_39 w.params) mainGlobals (Str.ofString "reversed_places") = some (some (.ref 79)) := by k_is
theorem nm_fw : nsIn (hd.heap_39 w.params) mainGlobals (Str.ofString "forward") = some (some (.ref 84)) := by k_is
theorem nm_bw : nsIn (hd.heap_39 w.params) mainGlobals (Str.ofString "backward") = some (some (.ref 89)) := by k_is
theorem nm_fi : nsIn (hd.heap_39 w.params) mainGlobals (Str.ofString "filled") = some (some (.ref 96)) := by k_is
theorem nm_cv : nsIn (hd.heap_39 w.params) mainGlobals (Str.ofString "convolve") = some (some (.ref 101)) := by k_is
theorem nm_ru : nsIn (hd.heap_39 w.params) mainGlobals (Str.ofString "_law_rung") = some (some (.ref 108)) := by k_is
theorem nm_ch : nsIn (hd.heap_39 w.params) mainGlobals (Str.ofString "_law_changed") = some (some (.ref 113)) := by k_is
theorem nm_me : nsIn (hd.heap_39 w.params) mainGlobals (Str.ofString "_law_mended") = some (some (.ref 118)) := by k_is
theorem nm_len : nsIn (hd.heap_39 w.params) mainGlobals (Str.ofString "len") = some none := by k_is
theorem nm_range : nsIn (hd.heap_39 w.params) mainGlobals (Str.ofString "range") = some none := by k_is
theorem nm_sum : nsIn (hd.heap_39 w.params) mainGlobals (Str.ofString "sum") = some none := by k_is
theorem nm_abs : nsIn (hd.heap_39 w.params) mainGlobals (Str.ofString "abs") = some none := by k_is
theorem nm_int : nsIn (hd.heap_39 w.params) mainGlobals (Str.ofString "int") = some none := by k_is
theorem nm_sorted : nsIn (hd.heap_39 w.params) mainGlobals (Str.ofString "sorted") = some none := by k_is
theorem nm_list : nsIn (hd.heap_39 w.params) mainGlobals (Str.ofString "list") = some none := by k_is
theorem nm_zip : nsIn (hd.heap_39 w.params) mainGlobals (Str.ofString "zip") = some none := by k_is
theorem nm_enum : nsIn (hd.heap_39 w.params) mainGlobals (Str.ofString "enumerate") = some none := by k_is
theorem bo_len : bootBuiltins (Str.ofString "len") = some (.builtin "len") := by kernel_rfl
theorem bo_range : bootBuiltins (Str.ofString "range") = some (.type "range") := by kernel_rfl
theorem bo_sum : bootBuiltins (Str.ofString "sum") = some (.builtin "sum") := by kernel_rfl
theorem bo_abs : bootBuiltins (Str.ofString "abs") = some (.builtin "abs") := by kernel_rfl
theorem bo_int : bootBuiltins (Str.ofString "int") = some (.type "int") := by kernel_rfl
theorem bo_sorted : bootBuiltins (Str.ofString "sorted") = some (.builtin "sorted") := by kernel_rfl
theorem bo_list : bootBuiltins (Str.ofString "list") = some (.type "list") := by kernel_rfl
theorem bo_zip : bootBuiltins (Str.ofString "zip") = some (.type "zip") := by kernel_rfl
theorem bo_enum : bootBuiltins (Str.ofString "enumerate") = some (.type "enumerate") := by kernel_rfl
/-- a def's object is a def's -/
def isFnAt (K : Frag) (f : Addr) : Bool := match K.lookup f with
  | some o => (match o.data with | .func _ => true | _ => false)
  | none => false
theorem isFnAt_get {K : Frag} {f : Addr} (h : isFnAt K f = true) : ∃ o fd, K.lookup f = some o ∧ o.data = .func fd := by
  unfold isFnAt at h
  split at h
  · rename_i o e
    split at h
    · rename_i fd q; exact ⟨o, fd, e, q⟩
    · cases h
  · cases h
theorem fn_isp : isFnAt (hd.heap_39 w.params) 46 = true := by kernel_rfl
theorem fn_pf : isFnAt (hd.heap_39 w.params) 53 = true := by kernel_rfl
theorem fn_pp : isFnAt (hd.heap_39 w.params) 60 = true := by kernel_rfl
theorem fn_rt : isFnAt (hd.heap_39 w.params) 67 = true := by kernel_rfl
theorem fn_po : isFnAt (hd.heap_39 w.params) 74 = true := by kernel_rfl
theorem fn_rv : isFnAt (hd.heap_39 w.params) 79 = true := by kernel_rfl
theorem fn_fw : isFnAt (hd.heap_39 w.params) 84 = true := by kernel_rfl
theorem fn_bw : isFnAt (hd.heap_39 w.params) 89 = true := by kernel_rfl
theorem fn_fi : isFnAt (hd.heap_39 w.params) 96 = true := by kernel_rfl
theorem fn_cv : isFnAt (hd.heap_39 w.params) 101 = true := by kernel_rfl
theorem fn_ru : isFnAt (hd.heap_39 w.params) 108 = true := by kernel_rfl
theorem fn_ch : isFnAt (hd.heap_39 w.params) 113 = true := by kernel_rfl
theorem fn_me : isFnAt (hd.heap_39 w.params) 118 = true := by kernel_rfl
end

section
variable {w : World} {A : Around} {s : Shared} {h : Heap} {env : Env} {x : Str} {px pos : Pos} {f : Addr} {e e1 e2 e3 : Expr} {es : List Expr}
theorem E1.def {P : Heap → List Value → Heap → Prop} {Q : Heap → Value → Heap → Prop} (R : Rd w h) (F : EV w A s env h (.Name x px) (.ref f)) (hf : isFnAt (hd.heap_39 w.params) f = true)
    (T : EAs w A s env h (e :: es) P) (C : ∀ h1 h2 vs h3, Ext h h1 → Ext h1 h2 → Ext h2 h3 → P h2 vs h3 → Ev w A s h3 (PySem.call (.ref f) vs) (fun v h' => Ext h3 h' ∧ Q h1 v h'))
    (hs : backTo pos (starEach (e :: es) env) = (e :: es).map fun e => (false, eval e env)) : E1 w A s env h (.Call (.Name x px) (e :: es) [] pos) Q :=
  let ⟨_, _, a, b⟩ := isFnAt_get hf
  E1.call R F a b T C hs

/-! plain_power, called -/
theorem EI.pp {a n q : Int} (R : Rd w h) (O : Ok A 1) (F : EV w A s env h (.Name x px) (.ref 60)) (H1 : EI w A s env h e1 a) (H2 : EI w A s env h e2 n) (H3 : EI w A s env h e3 q) (h0 : 0 ≤ n) (hq : 0 < q) (hq1 : q < 1000) (ha : 0 ≤ a) (ha1 : a < 1000)
    (hs : backTo pos (starEach [e1, e2, e3] env) = [e1, e2, e3].map fun e => (false, eval e env)) : EI w A s env h (.Call (.Name x px) [e1, e2, e3] [] pos) (a ^ n.toNat % q) :=
  E1.def R F fn_pp (.cons H1 (.cons H2 (.one H3))) (fun h1 h2 vs h3 y1 y2 y3 p => by
    obtain ⟨v1, h4, vs1, q1, z1, ⟨t1, r1⟩, z2, v2, h5, vs2, q2, z3, ⟨t2, r2⟩, z4, v3, h6, q3, z5, ⟨t3, r3⟩, z6⟩ := p
    subst q1 q2 q3 r1 r2 r3
    exact pp_call (R.up (y1.trans (y2.trans y3))) O h0 hq hq1 ha ha1) hs

/-! is_small_prime -/
def spGo : Nat → Int → Int → Option Bool
  | 0, _, _ => none
  | k + 1, at', n => if at' * at' ≤ n then (if n % at' = 0 then some false else spGo k (at' + 1) n) else some true
def ispO (n : Int) : Option Bool := if n < 2 then some false else spGo 12 2 n
theorem isp_call {n : Int} {b : Bool} {t : Tok} (R : Rd w h) (O : Ok A 1) (hb : ispO n = some b) (hn : n < 100000) : Ev w A s h (call (.ref 46) [.int n t]) (fun v h' => Ext h h' ∧ v = .bool b) := by
  refine' enter (f := 46) R O ?ho ?hcd ?hb ?hl ?hc ?h1 ?h2 ?h3 ?H
  case ho => k_is
  case hcd => k_is
  case hb => exact rfl
  case hl => exact locs rfl
  case hc => decide
  case h1 => rfl
  case h2 => rfl
  case h3 => rfl
  intro L h1 S O1 R1
  refine X.if (ET.lt (EI.loc S (t := t) rfl rfl rfl rfl (by decide)) EI.const) fun h2 x2 => ?_
  have S2 := S.up x2
  unfold ispO at hb
  by_cases hlt : n < 2
  · rw [if_pos hlt] at hb
    cases hb
    rw [decide_eq_true hlt, if_pos rfl]
    exact X.ret EV.cst fun v h3 x3 r => ⟨S2.keep.trans x3, r⟩
  · rw [if_neg hlt] at hb
    rw [decide_eq_false hlt, if_neg (by decide)]
    refine X.nil ?_
    refine X.asgI S2 EI.const fun h3 t3 S3 => ?_
    refine X.while (fun k m own => own = [] ∧ ∃ a ta tn, m (Str.ofString "at") = some (.int a ta) ∧ m (Str.ofString "n") = some (.int n tn) ∧ spGo k a n = some b ∧ 2 ≤ a ∧ a < 1000 - k) 12 S3 ⟨rfl, 2, t3, t, up_self, up_ne (by decide) rfl, hb, by omega, by omega⟩ ?_
    rintro k h4 m own S4 ⟨rfl, a, ta, tn, ha, hn', inv, a2, a3⟩
    refine ⟨_, ET.le (EI.mul (EI.loc S4 ha rfl rfl rfl (by decide)) (EI.loc S4 ha rfl rfl rfl (by decide)) (mul_ok (by omega) (by omega))) (EI.loc S4 hn' rfl rfl rfl (by decide)), fun hb h5 S5 => ?_, fun hb h5 S5 => ?_⟩
    · have hb := of_decide_eq_false hb
      refine X.ret EV.cst fun v h6 x6 r => ⟨S5.keep.trans x6, r.trans ?_⟩
      cases k with
      | zero => cases inv
      | succ k => rw [spGo, if_neg hb] at inv; cases inv; rfl
    · have hb := of_decide_eq_true hb
      refine X.if (ET.eq (EI.mod (EI.loc S5 hn' rfl rfl rfl (by decide)) (EI.loc S5 ha rfl rfl rfl (by decide)) (by omega)) EI.const) fun h6 x6 => ?_
      have S6 := S5.up x6
      cases k with
      | zero => cases inv
      | succ k =>
        rw [spGo, if_pos hb] at inv
        by_cases hz : n % a = 0
        · rw [if_pos hz] at inv
          cases inv
          rw [decide_eq_true hz, if_pos rfl]
          exact X.ret EV.cst fun v h7 x7 r => ⟨S6.keep.trans x7, r⟩
        · rw [if_neg hz] at inv
          rw [decide_eq_false hz, if_neg (by decide)]
          refine X.nil (X.aug S6 ha EI.const (fun h1 t u => op_add h1 t u) fun h7 t7 S7 => ?_)
          exact X.nil ⟨_, _, k, by omega, S7, rfl, a + 1, t7, tn, up_self, up_ne (by decide) hn', inv, by omega, by omega⟩
theorem EV.isp {n : Int} {b : Bool} (R : Rd w h) (O : Ok A 1) (F : EV w A s env h (.Name x px) (.ref 46)) (H : EI w A s env h e n) (hb : ispO n = some b) (hn : n < 100000)
    (hs : backTo pos (starEach [e] env) = [e].map fun e => (false, eval e env)) : EV w A s env h (.Call (.Name x px) [e] [] pos) (.bool b) :=
  E1.def R F fn_isp (.one H) (fun h1 h2 vs h3 y1 y2 y3 ⟨v, h4, q1, y4, ⟨t, q2⟩, y5⟩ => by
    subst q1 q2
    exact isp_call (R.up (y1.trans (y2.trans y3))) O hb hn) hs

/-! prime_for -/
def pfGo : Nat → Int → Int → Int → Option Int
  | 0, _, _, _ => none
  | k + 1, size, bound, found => if found ≤ bound then pfGo k size bound (found + size) else match ispO found with
    | none => none
    | some true => some found
    | some false => pfGo k size bound (found + size)
theorem pf_call {size bound r : Int} {t1 t2 : Tok} (R : Rd w h) (O : Ok A 2) (hb : pfGo 64 size bound (bound - bound % size + 1) = some r) (s0 : 0 < size) (s1 : size < 100) (b0 : 0 ≤ bound) (b1 : bound < 1000) :
    Ev w A s h (call (.ref 53) [.int size t1, .int bound t2]) (fun v h' => Ext h h' ∧ ∃ t, v = .int r t) := by
  refine' enter (f := 53) R O ?ho ?hcd ?hb ?hl ?hc ?h1 ?h2 ?h3 ?H
  case ho => k_is
  case hcd => k_is
  case hb => exact rfl
  case hl => exact locs rfl
  case hc => decide
  case h1 => rfl
  case h2 => rfl
  case h3 => rfl
  intro L h1 S O1 R1
  have m0 := Int.emod_nonneg bound (Int.ne_of_gt s0)
  refine X.asgI S (EI.add (EI.sub (EI.loc S (t := t2) rfl rfl rfl rfl (by decide)) (EI.mod (EI.loc S (t := t2) rfl rfl rfl rfl (by decide)) (EI.loc S (t := t1) rfl rfl rfl rfl (by decide)) s0)) EI.const) fun h2 t3 S2 => ?_
  refine X.while (fun k m own => own = [] ∧ ∃ f tf ts tb, m (Str.ofString "found") = some (.int f tf) ∧ m (Str.ofString "size") = some (.int size ts) ∧ m (Str.ofString "bound") = some (.int bound tb) ∧ pfGo k size bound f = some r ∧ f < 90000 - 100 * k) 64 S2
    ⟨rfl, _, t3, t1, t2, up_self, up_ne (by decide) rfl, up_ne (by decide) rfl, hb, by omega⟩ ?_
  rintro k h3 m own S3 ⟨rfl, f, tf, ts, tb, hf, hsz, hbd, inv, f1⟩
  cases k with
  | zero => cases inv
  | succ k =>
    rw [pfGo] at inv
    have R3 : Rd w h3 := R.up S3.keep
    by_cases hle : f ≤ bound
    · rw [if_pos hle] at inv
      refine ⟨_, ET.or' (b := true) (ET.le (EI.loc S3 hf rfl rfl rfl (by decide)) (EI.loc S3 hbd rfl rfl rfl (by decide))) (fun q => absurd hle (of_decide_eq_false q)), fun hb h4 S4 => ?_, fun hb h4 S4 => ?_⟩
      · simp at hb
      · exact (X.aug S4 hf (EI.loc S4 hsz rfl rfl rfl (by decide)) (fun h1 t u => op_add h1 t u) fun h5 t5 S5 => X.nil ⟨_, _, k, Nat.lt_succ_self k, S5, rfl, f + size, t5, ts, tb, up_self, up_ne (by decide) hsz, up_ne (by decide) hbd, inv, by omega⟩)
    · rw [if_neg hle] at inv
      cases hi : ispO f with
      | none => rw [hi] at inv; cases inv
      | some b =>
        rw [hi] at inv
        refine ⟨_, ET.or' (ET.le (EI.loc S3 hf rfl rfl rfl (by decide)) (EI.loc S3 hbd rfl rfl rfl (by decide))) (fun _ => ET.not (ET.plain (EV.isp R3 O1 (EV.glob R3 nm_isp rfl rfl rfl (by decide)) (EI.loc S3 hf rfl rfl rfl (by decide)) hi (by omega) rfl) rfl)), fun hb h4 S4 => ?_, fun hb h4 S4 => ?_⟩
        · cases b with
          | true =>
            simp only [Option.some.injEq] at inv
            subst inv
            exact X.retI (EI.loc S4 hf rfl rfl rfl (by decide)) fun h5 t x5 => ⟨S4.keep.trans x5, t, rfl⟩
          | false => simp at hb
        · cases b with
          | true => simp [hle] at hb
          | false => exact (X.aug S4 hf (EI.loc S4 hsz rfl rfl rfl (by decide)) (fun h1 t u => op_add h1 t u) fun h5 t5 S5 => X.nil ⟨_, _, k, Nat.lt_succ_self k, S5, rfl, f + size, t5, ts, tb, up_self, up_ne (by decide) hsz, up_ne (by decide) hbd, inv, by omega⟩)
end
end Mine

namespace Mine
section
variable {w : World} {A : Around} {s : Shared} {g h : Heap} {L : Addr} {m : Str → Option Value} {own : List (Addr × Kd)} {env : Env} {x : Str} {px pos : Pos} {f : Addr} {e e1 e2 e3 : Expr} {es : List Expr} {rest : List Stmt} {P : Flow → Heap → Prop}

theorem X.asgP {ns : List Int} (S : SS g L h m own) (H : ELp w A s env h e ns) (K : ∀ h' l, SS g L h' (up m x (.ref l)) ((l, .pints ns) :: own) → X w A s env h' rest P) (hL : env.locals = L := by rfl) (hk : env.scope.kind = .function := by rfl) (hx : env.kindOf x = some .local := by rfl)
    (hsw : swapsWith e (some (.Name x px)) pos.line env = pure false := by rfl) : X w A s env h (.Assign [.Name x px] e pos :: rest) P :=
  X.asg hL hk hx H (fun v h1 y ⟨l, q, hA, hn⟩ => ⟨(l, .pints ns) :: own, S.new y hA hn, fun h' S' => K h' l (q ▸ S')⟩) hsw

/-! root_of_unity -/
def rtGo : Nat → Int → Int → Option Int
  | 0, _, _ => none
  | k + 1, p, b => if b ^ ((p - 1) / 2).toNat % p = p - 1 then some b else rtGo k p (b + 1)
theorem rt_call {size p b : Int} {t1 t2 : Tok} (R : Rd w h) (O : Ok A 2) (hb : rtGo 64 p 2 = some b) (hm : (p - 1) % size = 0) (s0 : 1 < size) (s1 : size < 100) (p0 : 1 < p) (p1 : p < 1000) :
    Ev w A s h (call (.ref 67) [.int size t1, .int p t2]) (fun v h' => Ext h h' ∧ ∃ t, v = .int (b ^ ((p - 1) / size).toNat % p) t) := by
  refine' enter (f := 67) R O ?ho ?hcd ?hb ?hl ?hc ?h1 ?h2 ?h3 ?H
  case ho => k_is
  case hcd => k_is
  case hb => exact rfl
  case hl => exact locs rfl
  case hc => decide
  case h1 => rfl
  case h2 => rfl
  case h3 => rfl
  intro L h1 S O1 R1
  refine X.if (ET.ne (EI.mod (EI.sub (EI.loc S (t := t2) rfl rfl rfl rfl (by decide)) EI.const) (EI.loc S (t := t1) rfl rfl rfl rfl (by decide)) (by omega)) EI.const) fun h2 x2 => ?_
  have S2 := S.up x2
  rw [decide_eq_false (by simpa using hm), if_neg (by decide)]
  refine X.nil (X.if (ET.eq (EI.loc S2 (t := t1) rfl rfl rfl rfl (by decide)) EI.const) fun h3 x3 => ?_)
  have S3 := S2.up x3
  rw [decide_eq_false (by omega), if_neg (by decide)]
  refine X.nil (X.asgI S3 EI.const fun h4 t4 S4 => ?_)
  refine X.while (fun k m own => own = [] ∧ ∃ c tc ts tp, m (Str.ofString "base") = some (.int c tc) ∧ m (Str.ofString "size") = some (.int size ts) ∧ m (Str.ofString "p") = some (.int p tp) ∧ rtGo k p c = some b ∧ 0 ≤ c ∧ c < 900 - k) 64 S4
    ⟨rfl, 2, t4, t1, t2, up_self, up_ne (by decide) rfl, up_ne (by decide) rfl, hb, by omega, by omega⟩ ?_
  rintro k h5 m own S5 ⟨rfl, c, tc, ts, tp, hc, hs, hp, inv, c0, c1⟩
  have R5 : Rd w h5 := R.up S5.keep
  cases k with
  | zero => cases inv
  | succ k =>
    rw [rtGo] at inv
    have d0 : 0 ≤ (p - 1) / 2 := by omega
    refine ⟨_, ET.ne (EI.pp R5 O1 (EV.glob R5 nm_pp rfl rfl rfl (by decide)) (EI.loc S5 hc rfl rfl rfl (by decide)) (EI.fdiv (EI.sub (EI.loc S5 hp rfl rfl rfl (by decide)) EI.const) EI.const (by decide) (PyProof.noPylong_small (by decide))) (EI.loc S5 hp rfl rfl rfl (by decide)) d0 (by omega) (by omega) (by omega) (by omega) rfl) (EI.sub (EI.loc S5 hp rfl rfl rfl (by decide)) EI.const), fun hb h6 S6 => ?_, fun hb h6 S6 => ?_⟩
    · have hb : c ^ ((p - 1) / 2).toNat % p = p - 1 := by simpa using hb
      rw [if_pos hb] at inv
      cases inv
      have R6 : Rd w h6 := R.up S6.keep
      have d1 : 0 ≤ (p - 1) / size := Int.ediv_nonneg (by omega) (by omega)
      exact X.retI (EI.pp R6 O1 (EV.glob R6 nm_pp rfl rfl rfl (by decide)) (EI.loc S6 hc rfl rfl rfl (by decide)) (EI.fdiv (EI.sub (EI.loc S6 hp rfl rfl rfl (by decide)) EI.const) (EI.loc S6 hs rfl rfl rfl (by decide)) (by omega) (PyProof.noPylong_small (by omega))) (EI.loc S6 hp rfl rfl rfl (by decide)) d1 (by omega) (by omega) (by omega) (by omega) rfl) fun h7 t x7 => ⟨S6.keep.trans x7, t, rfl⟩
    · have hb : c ^ ((p - 1) / 2).toNat % p ≠ p - 1 := by simpa using hb
      rw [if_neg hb] at inv
      refine X.aug S6 hc EI.const (fun h1 t u => op_add h1 t u) fun h7 t7 S7 => ?_
      exact X.nil ⟨_, _, k, Nat.lt_succ_self k, S7, rfl, c + 1, t7, ts, tp, up_self, up_ne (by decide) hs, up_ne (by decide) hp, inv, by omega, by omega⟩
theorem EI.rt {size p b : Int} (R : Rd w h) (O : Ok A 2) (F : EV w A s env h (.Name x px) (.ref 67)) (H1 : EI w A s env h e1 size) (H2 : EI w A s env h e2 p) (hb : rtGo 64 p 2 = some b) (hm : (p - 1) % size = 0) (s0 : 1 < size) (s1 : size < 100) (p0 : 1 < p) (p1 : p < 1000)
    (hs : backTo pos (starEach [e1, e2] env) = [e1, e2].map fun e => (false, eval e env)) : EI w A s env h (.Call (.Name x px) [e1, e2] [] pos) (b ^ ((p - 1) / size).toNat % p) :=
  E1.def R F fn_rt (.cons H1 (.one H2)) (fun h1 h2 vs h3 y1 y2 y3 p => by
    obtain ⟨v1, h4, vs1, q1, z1, ⟨t1, r1⟩, z2, v2, h5, q2, z3, ⟨t2, r2⟩, z4⟩ := p
    subst q1 q2 r1 r2
    exact rt_call (R.up (y1.trans (y2.trans y3))) O hb hm s0 s1 p0 p1) hs
/-! powers_of -/
def pws (r q : Int) (n : Nat) : List Int := (List.range n).map fun i => r ^ i % q
theorem pws_length (r q : Int) (n : Nat) : (pws r q n).length = n := by simp [pws]
theorem pws_get {r q : Int} {n i : Nat} (h : i < n) : (pws r q n)[i]? = some (r ^ i % q) := by simp [pws, h]
theorem pws_succ (r q : Int) (n : Nat) : pws r q (n + 1) = pws r q n ++ [r ^ n % q] := by simp [pws, List.range_succ]
/-- what a call hands back: a new list of ints -/
abbrev NewL (h : Heap) (ns : List Int) (v : Value) (h' : Heap) : Prop := ∃ l, v = .ref l ∧ At h' l (.ints ns) ∧ h.get? l = none
theorem po_call {r many q : Int} {t1 t2 t3 : Tok} (R : Rd w h) (O : Ok A 1) (n0 : 1 ≤ many) (n1 : many < 1000) (q0 : 0 < q) (q1 : q < 1000) :
    Ev w A s h (call (.ref 74) [.int r t1, .int many t2, .int q t3]) (fun v h' => Ext h h' ∧ NewL h (pws r q many.toNat) v h') := by
  refine' enter (f := 74) (P := NewL h (pws r q many.toNat)) R O ?ho ?hcd ?hb ?hl ?hc ?h1 ?h2 ?h3 ?H
  case ho => k_is
  case hcd => k_is
  case hb => exact rfl
  case hl => exact locs rfl
  case hc => decide
  case h1 => rfl
  case h2 => rfl
  case h3 => rfl
  intro L h1 S O1 R1
  refine X.asgP S (ELp.one (EI.mod EI.const (EI.loc S (t := t3) rfl rfl rfl rfl (by decide)) q0) rfl) fun h2 fl S2 => ?_
  refine X.while (fun k m own => ∃ fl j tr tm tq, own = [(fl, .pints (pws r q j))] ∧ m (Str.ofString "found") = some (.ref fl) ∧ m (Str.ofString "root") = some (.int r tr) ∧ m (Str.ofString "many") = some (.int many tm) ∧ m (Str.ofString "p") = some (.int q tq) ∧
    1 ≤ j ∧ j ≤ many.toNat ∧ k = many.toNat - j) (many.toNat - 1) S2 ⟨fl, 1, t1, t2, t3, by simp [pws], up_self, up_ne (by decide) rfl, up_ne (by decide) rfl, up_ne (by decide) rfl, by omega, by omega, rfl⟩ ?_
  rintro k h3 m own S3 ⟨fl, j, tr, tm, tq, rfl, hf, hr, hm, hq, j0, j1, rfl⟩
  have R3 : Rd w h3 := R.up S3.keep
  refine ⟨_, ET.lt (EI.len (EV.bui R3 nm_len bo_len (by decide) rfl rfl rfl rfl (by decide)) (EL.of (EV.loc S3 hf rfl rfl rfl (by decide)) (S3.at' _ (.head _)).unp) (by rw [pws_length]; omega) rfl) (EI.loc S3 hm rfl rfl rfl (by decide)), fun hb h4 S4 => ?_, fun hb h4 S4 => ?_⟩
  · have hb := of_decide_eq_false hb
    rw [pws_length] at hb
    have e : j = many.toNat := by omega
    subst e
    refine X.ret (ELp.upto (EL.of (EV.loc S4 hf rfl rfl rfl (by decide)) (S4.at' _ (.head _)).unp) (EI.loc S4 hm rfl rfl rfl (by decide)) (by omega) (by rw [pws_length, sizeLine_eq]; omega)) fun v h5 x5 ⟨l, q, hA, hn⟩ => ⟨S4.keep.trans x5, l, q, ?_, S4.keep.none hn⟩
    rw [List.take_of_length_le (by rw [pws_length]; omega)] at hA
    exact hA.unp
  · have hb := of_decide_eq_true hb
    rw [pws_length] at hb
    have R4 : Rd w h4 := R.up S4.keep
    have e1 : ((pws r q j).length : Int) - 1 = ((j - 1 : Nat) : Int) := by rw [pws_length]; omega
    have e2 : r ^ (j - 1) % q * r % q = r ^ j % q := by rw [mm, ← Int.pow_succ, show (j - 1).succ = j from by omega]
    have a0 := Int.emod_nonneg (r ^ (j - 1)) (Int.ne_of_gt q0)
    have a1 := Int.emod_lt_of_pos (r ^ (j - 1)) q0
    refine X.appI S4 (EV.loc S4 hf rfl rfl rfl (by decide)) (EI.mod (EI.mul (EI.item (k := r ^ (j - 1) % q) (EL.of (EV.loc S4 hf rfl rfl rfl (by decide)) (S4.at' _ (.head _)).unp) (EI.cast (EI.sub (EI.len (EV.bui R4 nm_len bo_len (by decide) rfl rfl rfl rfl (by decide)) (EL.of (EV.loc S4 hf rfl rfl rfl (by decide)) (S4.at' _ (.head _)).unp) (by rw [pws_length]; omega) rfl) EI.const) e1) (by omega) (by omega) (by rw [Int.toNat_natCast]; exact pws_get (by omega))) (EI.loc S4 hr rfl rfl rfl (by decide)) (mul_ok (by omega) (by omega))) (EI.loc S4 hq rfl rfl rfl (by decide)) q0) (by rw [pws_length, sizeLine_eq]; omega) ?_ rfl
    intro h5 S5
    rw [e2, ← pws_succ] at S5
    exact X.nil ⟨_, _, many.toNat - (j + 1), by omega, S5, fl, j + 1, tr, tm, tq, rfl, hf, hr, hm, hq, by omega, by omega, rfl⟩
theorem EL.po {r many q : Int} (R : Rd w h) (O : Ok A 1) (F : EV w A s env h (.Name x px) (.ref 74)) (H1 : EI w A s env h e1 r) (H2 : EI w A s env h e2 many) (H3 : EI w A s env h e3 q) (n0 : 1 ≤ many) (n1 : many < 1000) (q0 : 0 < q) (q1 : q < 1000)
    (hs : backTo pos (starEach [e1, e2, e3] env) = [e1, e2, e3].map fun e => (false, eval e env)) : ELn w A s env h (.Call (.Name x px) [e1, e2, e3] [] pos) (pws r q many.toNat) :=
  E1.def R F fn_po (.cons H1 (.cons H2 (.one H3))) (fun h1 h2 vs h3 y1 y2 y3 p => by
    obtain ⟨v1, h4, vs1, q1, z1, ⟨t1, r1⟩, z2, v2, h5, vs2, q2, z3, ⟨t2, r2⟩, z4, v3, h6, q3, z5, ⟨t3, r3⟩, z6⟩ := p
    subst q1 q2 q3 r1 r2 r3
    exact (po_call (R.up (y1.trans (y2.trans y3))) O n0 n1 q0 (by assumption)).mono fun v h' ⟨a, l, b, c, d⟩ => ⟨a, l, b, c, (y2.trans y3).none d⟩) hs
end
end Mine

namespace Mine
/-! reversed_places -/
def rvL : Nat → List Int
  | 0 => [0]
  | k + 1 => (rvL k).map (2 * ·) ++ (rvL k).map (2 * · + 1)
theorem rvL_length : ∀ k, (rvL k).length = 2 ^ k
  | 0 => rfl
  | k + 1 => by rw [rvL, List.length_append, List.length_map, List.length_map, rvL_length k, Nat.pow_succ]; omega
section
variable {w : World} {A : Around} {s : Shared} {g h : Heap} {L : Addr} {m : Str → Option Value} {own : List (Addr × Kd)} {env : Env} {x : Str} {px pos : Pos} {f : Addr} {e e1 e2 e3 : Expr} {es : List Expr} {rest : List Stmt} {P : Flow → Heap → Prop}
theorem map_some {ns : List Int} {f : Int → Int} {i : Nat} {k : Int} (h : (ns.map f)[i]? = some k) {k0 : Int} (h0 : ns[i]? = some k0) : f k0 = k := by
  rw [List.getElem?_map, h0] at h
  exact Option.some.inj h
theorem rv_call {K : Nat} {t1 : Tok} (R : Rd w h) (O : Ok A 1) (hK : K ≤ 5) :
    Ev w A s h (call (.ref 79) [.int (2 ^ K) t1]) (fun v h' => Ext h h' ∧ NewL h (rvL K) v h') := by
  refine' enter (f := 79) (P := NewL h (rvL K)) R O ?ho ?hcd ?hb ?hl ?hc ?h1 ?h2 ?h3 ?H
  case ho => k_is
  case hcd => k_is
  case hb => exact rfl
  case hl => exact locs rfl
  case hc => decide
  case h1 => rfl
  case h2 => rfl
  case h3 => rfl
  intro L h1 S O1 R1
  refine X.asgP S (ELp.one EI.const rfl) fun h2 fl S2 => ?_
  refine X.while (fun k m own => ∃ fl j ts, own = [(fl, .pints (rvL j))] ∧ m (Str.ofString "found") = some (.ref fl) ∧ m (Str.ofString "size") = some (.int (2 ^ K) ts) ∧ j ≤ K ∧ k = K - j) K S2 ⟨fl, 0, t1, rfl, up_self, up_ne (by decide) rfl, Nat.zero_le _, rfl⟩ ?_
  rintro k h3 m own S3 ⟨fl, j, ts, rfl, hf, hs, hj, rfl⟩
  have R3 : Rd w h3 := R.up S3.keep
  have p5 : (2 : Nat) ^ j ≤ 32 := Nat.pow_le_pow_right (by decide) (show j ≤ 5 by omega)
  refine ⟨_, ET.lt (EI.len (EV.bui R3 nm_len bo_len (by decide) rfl rfl rfl rfl (by decide)) (EL.of (EV.loc S3 hf rfl rfl rfl (by decide)) (S3.at' _ (.head _)).unp) (by rw [rvL_length]; omega) rfl) (EI.loc S3 hs rfl rfl rfl (by decide)), fun hb h4 S4 => ?_, fun hb h4 S4 => ?_⟩
  · have hb := of_decide_eq_false hb
    rw [rvL_length] at hb
    have e : j = K := by
      rcases Nat.lt_or_ge j K with q | q
      · have := Nat.pow_lt_pow_right (a := 2) (by decide) q
        exact absurd (by exact_mod_cast this) hb
      · omega
    subst e
    exact X.ret (EV.loc S4 hf rfl rfl rfl (by decide)) fun v h5 x5 q => ⟨S4.keep.trans x5, fl, q, (S4.at' _ (.head _)).unp.up x5, (S4.fresh _ (.head _)).1⟩
  · have hb := of_decide_eq_true hb
    rw [rvL_length] at hb
    have e : j < K := by
      rcases Nat.lt_or_ge j K with q | q
      · exact q
      · have := Nat.pow_le_pow_right (n := 2) (by decide) q
        exact absurd hb (by have : ((2 ^ K : Nat) : Int) ≤ ((2 ^ j : Nat) : Int) := by exact_mod_cast this
                            push_cast at this ⊢
                            omega)
    have el : At h4 fl (.ints (rvL j)) := (S4.at' _ (.head _)).unp
    refine X.asgP (ns := rvL (j + 1)) S4 (ELp.add (ns := (rvL j).map (2 * ·)) (ms := (rvL j).map (2 * · + 1)) (E1.comp (cl := []) (ns := (rvL j).map (2 * ·)) (Src.list O1.hh (EL.of (EV.loc S4 hf rfl rfl rfl (by decide)) el)) (fun C => rfl) (by simp) ?_ rfl (by decide) rfl (by decide) (by rw [rvL_length, sizeLine_eq]; omega)).el
      (E1.comp (cl := []) (ns := (rvL j).map (2 * · + 1)) (Src.list O1.hh (EL.of (EV.loc S4 hf rfl rfl rfl (by decide)) el)) (fun C => rfl) (by simp) ?_ rfl (by decide) rfl (by decide) (by rw [rvL_length, sizeLine_eq]; omega)).el (by simp only [List.length_map, rvL_length, sizeLine_eq]; omega)) ?_
    · rintro i C h' k x hk ⟨m', k0, t, hn, h0, hm⟩
      exact EI.cast (EI.mul EI.const (EI.of (EV.ns hn hm rfl rfl (by decide))) (mul_ok (by omega) (by omega))) (map_some hk h0)
    · rintro i C h' k x hk ⟨m', k0, t, hn, h0, hm⟩
      exact EI.cast (EI.add (EI.mul EI.const (EI.of (EV.ns hn hm rfl rfl (by decide))) (mul_ok (by omega) (by omega))) EI.const) (map_some hk h0)
    · intro h5 l S5
      exact X.nil ⟨_, _, K - (j + 1), by omega, SS.keepOnly (own := [_]) S5, l, j + 1, ts, rfl, up_self, up_ne (by decide) hs, e, rfl⟩
theorem EL.rv {K : Nat} {z : Int} (R : Rd w h) (O : Ok A 1) (F : EV w A s env h (.Name x px) (.ref 79)) (H1 : EI w A s env h e1 z) (hz : z = 2 ^ K) (hK : K ≤ 5)
    (hs : backTo pos (starEach [e1] env) = [e1].map fun e => (false, eval e env)) : ELn w A s env h (.Call (.Name x px) [e1] [] pos) (rvL K) := by
  subst hz
  exact E1.def R F fn_rv (.one H1) (fun h1 h2 vs h3 y1 y2 y3 ⟨v, h4, q1, z1, ⟨t, r1⟩, z2⟩ => by
    subst q1 r1
    exact (rv_call (R.up (y1.trans (y2.trans y3))) O hK).mono fun v h' ⟨a, l, b, c, d⟩ => ⟨a, l, b, c, (y2.trans y3).none d⟩) hs

/-! filled: here the row has the size -/
theorem fi_call {l : Addr} {ns : List Int} {t2 : Tok} (R : Rd w h) (O : Ok A 1) (hA : At h l (.ints ns)) (hz : ns.length ≤ 1000) :
    Ev w A s h (call (.ref 96) [.ref l, .int (ns.length : Int) t2]) (fun v h' => Ext h h' ∧ NewL h ns v h') := by
  refine' enter (f := 96) (P := NewL h ns) R O ?ho ?hcd ?hb ?hl ?hc ?h1 ?h2 ?h3 ?H
  case ho => k_is
  case hcd => k_is
  case hb => exact rfl
  case hl => exact locs rfl
  case hc => decide
  case h1 => rfl
  case h2 => rfl
  case h3 => rfl
  intro L h1 S O1 R1
  have el := hA.up S.keep
  refine X.ret (ELp.add (ns := ns) (ms := []) (EL.of (EV.loc S (v := .ref l) rfl rfl rfl rfl (by decide)) el) (ELp.times0 EI.const (EI.sub (EI.loc S (t := t2) rfl rfl rfl rfl (by decide)) (EI.len (EV.bui R1 nm_len bo_len (by decide) rfl rfl rfl rfl (by decide)) (EL.of (EV.loc S (v := .ref l) rfl rfl rfl rfl (by decide)) el) (by omega) rfl)) (by omega) rfl).eln.el (by simp [sizeLine_eq]; omega)) fun v h5 x5 ⟨l', q, hA', hn⟩ => ⟨S.keep.trans x5, l', q, ?_, S.keep.none hn⟩
  rw [List.append_nil] at hA'
  exact hA'.unp
theorem EL.fi {ns : List Int} {z : Int} (R : Rd w h) (O : Ok A 1) (F : EV w A s env h (.Name x px) (.ref 96)) (H1 : EL w A s env h e1 ns) (H2 : EI w A s env h e2 z) (hz : z = ns.length) (hl : ns.length ≤ 1000)
    (hs : backTo pos (starEach [e1, e2] env) = [e1, e2].map fun e => (false, eval e env)) : ELn w A s env h (.Call (.Name x px) [e1, e2] [] pos) ns := by
  subst hz
  exact E1.def R F fn_fi (.cons H1 (.one H2)) (fun h1 h2 vs h3 y1 y2 y3 p => by
    obtain ⟨v1, h4, vs1, q1, z1, ⟨l, r1, hA⟩, z2, v2, h5, q2, z3, ⟨t2, r2⟩, z4⟩ := p
    subst q1 q2 r1 r2
    exact (fi_call (R.up (y1.trans (y2.trans y3))) O (hA.up z2) hl).mono fun v h' ⟨a, l, b, c, d⟩ => ⟨a, l, b, c, (y2.trans y3).none d⟩) hs
end
end Mine

namespace Mine
/-! the transform, as a plain function -/
def bf (q r : Int) (half b : Nat) (fs : List Int) (t : Nat) : List Int :=
  (fs.set (b + t) ((fs.getD (b + t) 0 + fs.getD (b + t + half) 0) % q)).set (b + t + half) ((fs.getD (b + t) 0 - fs.getD (b + t + half) 0) * (r ^ t % q) % q)
def inner (q r : Int) (half b n : Nat) (fs : List Int) : List Int := (List.range n).foldl (bf q r half b) fs
def stage (q r : Int) (half n : Nat) (fs : List Int) : List Int := (List.range n).foldl (fun fs i => inner q r half (i * (2 * half)) half fs) fs
def fwGo (q : Int) (K : Nat) : Nat → Int → List Int → List Int
  | 0, _, fs => fs
  | j + 1, r, fs => fwGo q K j (r * r % q) (stage q r (2 ^ j) (2 ^ (K - (j + 1))) fs)
def fw (q r : Int) (K : Nat) (ns : List Int) : List Int := fwGo q K K r (ns.map (· % q))
theorem bf_length {q r : Int} {half b t : Nat} {fs : List Int} : (bf q r half b fs t).length = fs.length := by simp [bf]
theorem inner_succ {q r : Int} {half b n : Nat} {fs : List Int} : inner q r half b (n + 1) fs = bf q r half b (inner q r half b n fs) n := by simp [inner, List.range_succ]
theorem inner_length {q r : Int} {half b : Nat} {fs : List Int} : ∀ n, (inner q r half b n fs).length = fs.length
  | 0 => rfl
  | n + 1 => by rw [inner_succ, bf_length, inner_length n]
theorem stage_succ {q r : Int} {half n : Nat} {fs : List Int} : stage q r half (n + 1) fs = inner q r half (n * (2 * half)) half (stage q r half n fs) := by simp [stage, List.range_succ]
theorem stage_length {q r : Int} {half : Nat} {fs : List Int} : ∀ n, (stage q r half n fs).length = fs.length
  | 0 => rfl
  | n + 1 => by rw [stage_succ, inner_length, stage_length n]
theorem fwGo_length {q : Int} {K : Nat} : ∀ (j : Nat) (r : Int) (fs : List Int), (fwGo q K j r fs).length = fs.length
  | 0, _, _ => rfl
  | j + 1, r, fs => by rw [fwGo, fwGo_length j, stage_length]
theorem getD_some {fs : List Int} {i : Nat} (h : i < fs.length) : fs[i]? = some (fs.getD i 0) := by
  rw [List.getD_eq_getElem?_getD, List.getElem?_eq_getElem h]; rfl
theorem mul_okr {a b : Int} (h0 : -1000000000 ≤ b) (h1 : b ≤ 1000000000) : IntMulOk a b := PySem.IntMulOk.of_right (PySem.intBits_le_64 (by omega) (by omega))
theorem rangeSize_step {c : Int} {M : Nat} (hc : 0 < c) : Builtin.Range.rangeSize 0 ((M : Int) * c) c = (M : Int) := by
  unfold Builtin.Range.rangeSize
  rw [if_pos hc]
  cases M with
  | zero => simp
  | succ M =>
    have h1 : (0 : Int) < ((M + 1 : Nat) : Int) * c := Int.mul_pos (by omega) hc
    rw [if_pos h1]
    have e : ((M + 1 : Nat) : Int) * c - 0 - 1 = (c - 1) + (M : Int) * c := by
      rw [show ((M + 1 : Nat) : Int) = (M : Int) + 1 from by omega, Int.add_mul]; omega
    rw [e, Int.add_mul_ediv_right _ _ (by omega), Int.ediv_eq_zero_of_lt (by omega) (by omega)]
    omega
theorem small_step {b c : Int} (h0 : 0 ≤ b) (h1 : b ≤ 1000000) (hc : 0 < c) (hc1 : c ≤ 1000000) : Builtin.Range.small 0 b c = true := by
  have hs : 0 ≤ Builtin.Range.rangeSize 0 b c ∧ Builtin.Range.rangeSize 0 b c ≤ 1000001 := by
    unfold Builtin.Range.rangeSize
    rw [if_pos hc]
    split
    · have a1 : 0 ≤ (b - 0 - 1) / c := Int.ediv_nonneg (by omega) (by omega)
      have a2 : (b - 0 - 1) / c ≤ b - 0 - 1 := Int.ediv_le_self _ (by omega)
      omega
    · omega
  unfold Builtin.Range.small
  simp only [Builtin.Range.rangeFitsLong, Bool.and_eq_true, Bool.or_eq_true, decide_eq_true_eq, beq_iff_eq, show c > 0 from hc, if_true]
  omega

section
variable {w : World} {A : Around} {s : Shared} {g h : Heap} {L : Addr} {m : Str → Option Value} {own : List (Addr × Kd)} {env : Env} {x : Str} {px pos : Pos} {f : Addr} {e e1 e2 e3 : Expr} {es : List Expr} {rest : List Stmt} {P : Flow → Heap → Prop}
theorem mul_okm {a x q : Int} (q0 : 0 < q) (q1 : q < 1000) : IntMulOk a (x % q) := by
  have h0 := Int.emod_nonneg x (Int.ne_of_gt q0)
  have h1 := Int.emod_lt_of_pos x q0
  exact mul_okr (by omega) (by omega)
theorem EI.itemD {ns : List Int} {j : Nat} (H : EL w A s env h e ns) (I : EI w A s env h e1 (j : Int)) (hj : j < ns.length) (hl : ns.length ≤ 1000)
    (hs : ∀ l t, subscripted e1 false (.ref l) (.int (j : Int) t) = operate [.ref l, .int (j : Int) t] (getItem (.ref l) (.int (j : Int) t)) := by intros; rfl) : EI w A s env h (.Subscript e e1 pos) (ns.getD j 0) :=
  EI.item H I (by omega) (by omega) (by rw [Int.toNat_natCast]; exact getD_some hj) hs
theorem X.setD {l : Addr} {ns : List Int} {j : Nat} {pi : Pos} {ei : Expr} {k : Int} (S : SS g L h m ((l, .ints ns) :: own)) (H : EI w A s env h e k) (Hl : EV w A s env h e1 (.ref l)) (Hi : EI w A s env h ei (j : Int)) (hj : j < ns.length) (hl : ns.length ≤ 1000)
    (K : ∀ h', SS g L h' m ((l, .ints (ns.set j k)) :: own) → X w A s env h' rest P)
    (hsw : swapsWith e (some (.Subscript e1 ei pi)) pos.line env = pure false := by rfl) : X w A s env h (.Assign [.Subscript e1 ei pi] e pos :: rest) P :=
  X.setI S H Hl Hi (by omega) (by omega) (by omega) (fun h' S' => K h' (by rwa [Int.toNat_natCast] at S')) hsw
theorem X.asg2I {y : Str} {py tp : Pos} {k1 k2 : Nat} {pv : Pos} {a b : Int} (S : SS g L h m own) (hh : A.handled = none) (H1 : EI w A s env h e1 a) (H2 : EI w A s env h e2 b)
    (K : ∀ h' t u, SS g L h' (up (up m y (.int b u)) x (.int a t)) own → X w A s env h' rest P)
    (hs : backTo pv (starEach [e1, e2] env) = [e1, e2].map fun e => (false, eval e env))
    (hL : env.locals = L := by rfl) (hk : env.scope.kind = .function := by rfl) (hx : env.kindOf x = some .local := by rfl) (hy : env.kindOf y = some .local := by rfl)
    (h1 : swapsWithSole [.Tuple [.Name x px, .Name y py] k1 tp] (.Tuple [e1, e2] k2 pv) pos.line env = pure false := by rfl)
    (h2 : swappedStores [.Tuple [.Name x px, .Name y py] k1 tp] (.Tuple [e1, e2] k2 pv) env = pure (some [x, y]) := by rfl) :
    X w A s env h (.Assign [.Tuple [.Name x px, .Name y py] k1 tp] (.Tuple [e1, e2] k2 pv) pos :: rest) P :=
  X.asg2 hh H1 H2 (fun h1 h2 v1 v2 x1 ⟨t, p1⟩ x2 ⟨u, p2⟩ => by
    subst p1 p2
    exact ⟨own, S.up (x1.trans x2), fun h' S' => K h' t u S'⟩) hs hL hk hx hy h1 h2
set_option maxHeartbeats 1000000 in
theorem fw_call {l : Addr} {ns : List Int} {r q : Int} {K : Nat} {t2 t3 : Tok} (R : Rd w h) (O : Ok A 2) (hA : At h l (.ints ns)) (hn : ns.length = 2 ^ K) (hK : K ≤ 5) (q0 : 0 < q) (q1 : q < 1000) (r0 : 0 ≤ r) (r1 : r < 1000) :
    Ev w A s h (call (.ref 84) [.ref l, .int r t2, .int q t3]) (fun v h' => Ext h h' ∧ NewL h (fw q r K ns) v h') := by
  refine' enterC (f := 84) (P := NewL h (fw q r K ns)) R O ?ho ?hcd ?hb ?hl ?hc ?h1 ?h2 ?h3 ?H
  case ho => k_is
  case hcd => k_is
  case hb => exact rfl
  case hl => exact rfl
  case hc => decide +kernel
  case h1 => rfl
  case h2 => rfl
  case h3 => rfl
  intro L h1 S O1 R1
  have S : SS h L h1 _ [(L + 1, .cellI q)] := S
  have pK : (2 : Nat) ^ K ≤ 32 := Nat.pow_le_pow_right (by decide) (show K ≤ 5 by omega)
  have hl1 := hA.up S.keep
  refine X.asgC (ns := ns.map (· % q)) (cl := [(Str.ofString "p", L + 1)]) S (Src.list O1.hh (EL.of (EV.loc S (v := .ref l) rfl rfl rfl rfl (by decide)) hl1)) (fun C => rfl) (by simp) ?_ ?_ rfl (by decide) rfl (by decide) (by rw [hn, sizeLine_eq]; omega) rfl rfl rfl rfl
  · rintro i C h' k x hk ⟨m', k0, t, hn', h0, hm⟩
    exact EI.cast (EI.mod (EI.of (EV.ns hn' hm rfl rfl (by decide))) (EI.cel ((S.up x).at' _ (.head _)) rfl rfl rfl (by decide)) q0) (map_some hk h0)
  intro h2 fl S2
  refine X.asgI S2 (k := ((2 ^ K / 2 : Nat) : Int)) (EI.cast (EI.fdiv (EI.len (EV.bui (R.up S2.keep) nm_len bo_len (by decide) rfl rfl rfl rfl (by decide)) (EL.of (EV.loc S2 (v := .ref l) (up_ne (by decide) rfl) rfl rfl rfl (by decide)) (hA.up S2.keep)) (by omega) rfl) EI.const (by decide) (PyProof.noPylong_small (by decide))) (by rw [hn]; generalize (2 : Nat) ^ K = z; omega)) fun h3 th S3 => ?_
  refine X.while (fun k m own => ∃ fl fs r' th tr, own = [(fl, .ints fs), (L + 1, .cellI q)] ∧ m (Str.ofString "found") = some (.ref fl) ∧ m (Str.ofString "half") = some (.int ((2 ^ k / 2 : Nat) : Int) th) ∧ m (Str.ofString "root") = some (.int r' tr) ∧ m (Str.ofString "row") = some (.ref l) ∧
    k ≤ K ∧ fs.length = 2 ^ K ∧ 0 ≤ r' ∧ r' < 1000 ∧ fwGo q K k r' fs = fw q r K ns) K S3 ⟨fl, _, r, th, t2, rfl, up_ne (by decide) up_self, up_self, up_ne (by decide) (up_ne (by decide) rfl), up_ne (by decide) (up_ne (by decide) rfl), Nat.le_refl _, by simp [hn], r0, r1, rfl⟩ ?_
  rintro k h4 m own S4 ⟨fl, fs, r', th, tr, rfl, hf, hh, hr, hw, kK, fl1, r0', r1', inv⟩
  refine ⟨_, ET.gt (EI.loc S4 hh rfl rfl rfl (by decide)) EI.const, fun hb h5 S5 => ?_, fun hb h5 S5 => ?_⟩
  · have hb := of_decide_eq_false hb
    cases k with
    | zero =>
      refine X.ret (EV.loc S5 hf rfl rfl rfl (by decide)) fun v h6 x6 qv => ⟨S5.keep.trans x6, fl, qv, ?_, (S5.fresh _ (.head _)).1⟩
      rw [← inv]
      exact (S5.at' _ (.head _)).up x6
    | succ k =>
      have := Nat.two_pow_pos k
      rw [Nat.pow_succ, Nat.mul_div_cancel _ (by decide)] at hb
      omega
  · have hb := of_decide_eq_true hb
    cases k with
    | zero => exact absurd hb (by decide)
    | succ k =>
      rw [Nat.pow_succ, Nat.mul_div_cancel _ (by decide)] at hh hb
      have hKM : 2 ^ K = 2 ^ (K - (k + 1)) * (2 * 2 ^ k) := by rw [show 2 * 2 ^ k = 2 ^ (k + 1) from by rw [Nat.pow_succ, Nat.mul_comm], ← Nat.pow_add, show K - (k + 1) + (k + 1) = K from by omega]
      rw [fwGo] at inv
      generalize hH : (2 : Nat) ^ k = H at hh hb inv hKM
      generalize hM : (2 : Nat) ^ (K - (k + 1)) = M at inv hKM
      have hH32 : H ≤ 16 := by rw [← hH]; exact Nat.pow_le_pow_right (n := 2) (by decide) (show k ≤ 4 by omega)
      have R5 : Rd w h5 := R.up S5.keep
      refine X.asgN S5 (EL.po R5 (O1.less (by decide)) (EV.glob R5 nm_po rfl rfl rfl (by decide)) (EI.loc S5 hr rfl rfl rfl (by decide)) (EI.loc S5 hh rfl rfl rfl (by decide)) (EI.cel (S5.at' _ (.tail _ (.head _))) rfl rfl rfl (by decide)) (by omega) (by omega) q0 q1 rfl) fun h6 sl S6 => ?_
      have eH : (H : Int).toNat = H := Int.toNat_natCast H
      rw [eH] at S6
      refine X.for_range (n := M) (fun i m own => ∃ th tr, own = [(fl, .ints (stage q r' H i fs)), (sl, .ints (pws r' q H)), (L + 1, .cellI q)] ∧ m (Str.ofString "found") = some (.ref fl) ∧ m (Str.ofString "half") = some (.int (H : Int) th) ∧ m (Str.ofString "root") = some (.int r' tr) ∧ m (Str.ofString "row") = some (.ref l) ∧ m (Str.ofString "steps") = some (.ref sl))
        (SS.pull [_] S6) O1.hh (ER.three (EV.bui (R.up S6.keep) nm_range bo_range (by decide) rfl rfl rfl rfl (by decide)) EI.const (EI.cast (EI.len (EV.bui (R.up S6.keep) nm_len bo_len (by decide) rfl rfl rfl rfl (by decide)) (EL.of (EV.loc S6 (up_ne (by decide) hw) rfl rfl rfl (by decide)) (hA.up S6.keep)) (by omega) rfl) (show _ = (M : Int) * ((2 * H : Nat) : Int) by rw [hn, hKM]; push_cast; rfl)) (EI.cast (EI.mul EI.const (EI.loc S6 (up_ne (by decide) hh) rfl rfl rfl (by decide)) (mul_ok (by omega) (by omega))) (show _ = ((2 * H : Nat) : Int) by push_cast; rfl)) (by omega) (by omega) rfl)
        (small_step (by exact_mod_cast Nat.zero_le _) (by rw [← Int.natCast_mul, ← hKM]; omega) (by omega) (by omega)) (rangeSize_step (by omega)) ⟨th, tr, rfl, up_ne (by decide) hf, up_ne (by decide) hh, up_ne (by decide) hr, up_ne (by decide) hw, up_self⟩ ?_ ?_
      · rintro i h7 m7 own7 I1 o1 tb hi ⟨th, tr, rfl, hf, hh, hr, hw, hs⟩ S7
        have S7 := SS.pull [_] S7
        have hfit : i * (2 * H) + 2 * H ≤ 2 ^ K := by
          rw [hKM, ← Nat.succ_mul]
          exact Nat.mul_le_mul_right _ hi
        have eb : (0 : Int) + (i : Int) * ((2 * H : Nat) : Int) = ((i * (2 * H) : Nat) : Int) := by push_cast; omega
        rw [eb] at S7
        generalize hB : i * (2 * H) = B at S7 hfit
        refine X.for_range (n := H) (fun t m own => ∃ th tr tb, own = [(fl, .ints (inner q r' H B t (stage q r' H i fs))), (I1, .obj o1), (sl, .ints (pws r' q H)), (L + 1, .cellI q)] ∧ m (Str.ofString "found") = some (.ref fl) ∧ m (Str.ofString "half") = some (.int (H : Int) th) ∧ m (Str.ofString "root") = some (.int r' tr) ∧ m (Str.ofString "row") = some (.ref l) ∧ m (Str.ofString "steps") = some (.ref sl) ∧ m (Str.ofString "begin") = some (.int (B : Int) tb))
          S7 O1.hh (ER.one (EV.bui (R.up S7.keep) nm_range bo_range (by decide) rfl rfl rfl rfl (by decide)) (EI.cast (EI.loc S7 (up_ne (by decide) hh) rfl rfl rfl (by decide)) (show _ = (H : Int) * 1 by omega)) rfl)
          (small_step (by omega) (by omega) (by omega) (by omega)) (rangeSize_step (by omega)) ⟨th, tr, tb, rfl, up_ne (by decide) hf, up_ne (by decide) hh, up_ne (by decide) hr, up_ne (by decide) hw, up_ne (by decide) hs, up_self⟩ ?_ ?_
        · rintro t h8 m8 own8 I2 o2 ta ht ⟨th, tr, tb, rfl, hf, hh, hr, hw, hs, hbg⟩ S8
          have S8 := SS.pull [_] S8
          rw [show (0 : Int) + (t : Int) * 1 = (t : Int) from by omega] at S8
          generalize hF : inner q r' H B t (stage q r' H i fs) = F at S8
          have lF : F.length = 2 ^ K := by rw [← hF, inner_length, stage_length, fl1]
          have lt1 : B + t < F.length := by omega
          have lt2 : B + t + H < F.length := by omega
          have lF1000 : F.length ≤ 1000 := by omega
          have aF := S8.at' _ (.head _)
          have aP := S8.at' _ (.tail _ (.tail _ (.tail _ (.head _))))
          have cq := S8.at' _ (.tail _ (.tail _ (.tail _ (.tail _ (.head _)))))
          refine X.asg2I S8 O1.hh (EI.itemD (j := B + t) (EL.of (EV.loc S8 (up_ne (by decide) hf) rfl rfl rfl (by decide)) aF) (EI.cast (EI.add (EI.loc S8 (up_ne (by decide) hbg) rfl rfl rfl (by decide)) (EI.loc S8 up_self rfl rfl rfl (by decide))) (by push_cast; rfl)) lt1 lF1000)
            (EI.itemD (j := B + t + H) (EL.of (EV.loc S8 (up_ne (by decide) hf) rfl rfl rfl (by decide)) aF) (EI.cast (EI.add (EI.add (EI.loc S8 (up_ne (by decide) hbg) rfl rfl rfl (by decide)) (EI.loc S8 up_self rfl rfl rfl (by decide))) (EI.loc S8 (up_ne (by decide) hh) rfl rfl rfl (by decide))) (by push_cast; rfl)) lt2 lF1000) (fun h11 u1 u2 S11 => ?_) rfl
          have mat := up_ne (x := Str.ofString "one") (v := .int (F.getD (B + t) 0) u1) (y := Str.ofString "at") (by decide) (up_ne (x := Str.ofString "other") (v := .int (F.getD (B + t + H) 0) u2) (y := Str.ofString "at") (by decide) (up_self (m := m8) (x := Str.ofString "at") (v := .int (t : Int) ta)))
          refine X.setD S11 (j := B + t) (EI.mod (EI.add (EI.loc S11 up_self rfl rfl rfl (by decide)) (EI.loc S11 (up_ne (by decide) up_self) rfl rfl rfl (by decide))) (EI.cel (S11.at' _ (.tail _ (.tail _ (.tail _ (.tail _ (.head _)))))) rfl rfl rfl (by decide)) q0) (EV.loc S11 (up_ne (by decide) (up_ne (by decide) (up_ne (by decide) hf))) rfl rfl rfl (by decide)) (EI.cast (EI.add (EI.loc S11 (up_ne (by decide) (up_ne (by decide) (up_ne (by decide) hbg))) rfl rfl rfl (by decide)) (EI.loc S11 mat rfl rfl rfl (by decide))) (by push_cast; rfl)) lt1 lF1000 fun h12 S12 => ?_
          have hst := up_ne (x := Str.ofString "one") (v := .int (F.getD (B + t) 0) u1) (y := Str.ofString "steps") (by decide) (up_ne (x := Str.ofString "other") (v := .int (F.getD (B + t + H) 0) u2) (y := Str.ofString "steps") (by decide) (up_ne (x := Str.ofString "at") (v := .int (t : Int) ta) (y := Str.ofString "steps") (by decide) hs))
          have pm0 := Int.emod_nonneg (r' ^ t) (Int.ne_of_gt q0)
          have pm1 := Int.emod_lt_of_pos (r' ^ t) q0
          refine X.setD S12 (j := B + t + H) (EI.mod (EI.mul (EI.sub (EI.loc S12 up_self rfl rfl rfl (by decide)) (EI.loc S12 (up_ne (by decide) up_self) rfl rfl rfl (by decide))) (EI.item (j := (t : Int)) (k := r' ^ t % q) (EL.of (EV.loc S12 hst rfl rfl rfl (by decide)) (S12.at' _ (.tail _ (.tail _ (.tail _ (.head _)))))) (EI.loc S12 mat rfl rfl rfl (by decide)) (by omega) (by omega) (by rw [Int.toNat_natCast]; exact pws_get ht)) (mul_okm q0 q1)) (EI.cel (S12.at' _ (.tail _ (.tail _ (.tail _ (.tail _ (.head _)))))) rfl rfl rfl (by decide)) q0) (EV.loc S12 (up_ne (by decide) (up_ne (by decide) (up_ne (by decide) hf))) rfl rfl rfl (by decide)) (EI.cast (EI.add (EI.add (EI.loc S12 (up_ne (by decide) (up_ne (by decide) (up_ne (by decide) hbg))) rfl rfl rfl (by decide)) (EI.loc S12 mat rfl rfl rfl (by decide))) (EI.loc S12 (up_ne (by decide) (up_ne (by decide) (up_ne (by decide) hh))) rfl rfl rfl (by decide))) (by push_cast; rfl)) (by rw [List.length_set]; exact lt2) (by rw [List.length_set]; exact lF1000) fun h13 S13 => ?_
          refine X.nil ⟨_, _, SS.push' [_] S13, th, tr, tb, ?_, up_ne (by decide) (up_ne (by decide) (up_ne (by decide) hf)), up_ne (by decide) (up_ne (by decide) (up_ne (by decide) hh)), up_ne (by decide) (up_ne (by decide) (up_ne (by decide) hr)), up_ne (by decide) (up_ne (by decide) (up_ne (by decide) hw)), hst, up_ne (by decide) (up_ne (by decide) (up_ne (by decide) hbg))⟩
          rw [inner_succ, hF]
          simp only [Int.toNat_natCast, bf]
          rfl
        · rintro h8 m8 own8 ⟨th, tr, tb, rfl, hf, hh, hr, hw, hs, hbg⟩ S8
          refine X.nil ⟨_, _, SS.push' [_] S8, th, tr, ?_, hf, hh, hr, hw, hs⟩
          rw [stage_succ, hB]
          rfl
      · rintro h7 m7 own7 ⟨th, tr, rfl, hf, hh, hr, hw, hs⟩ S7
        have cq := S7.at' _ (.tail _ (.tail _ (.head _)))
        refine X.asgI S7 (EI.mod (EI.mul (EI.loc S7 hr rfl rfl rfl (by decide)) (EI.loc S7 hr rfl rfl rfl (by decide)) (mul_ok (by omega) (by omega))) (EI.cel cq rfl rfl rfl (by decide)) q0) fun h8 t8 S8 => ?_
        refine X.aug S8 (up_ne (by decide) hh) EI.const (op_fdiv (by decide) (PyProof.noPylong_small (by decide))) fun h9 t9 S9 => ?_
        have m0 := Int.emod_nonneg (r' * r') (Int.ne_of_gt q0)
        have m1 := Int.emod_lt_of_pos (r' * r') q0
        refine X.nil ⟨_, _, k, Nat.lt_succ_self k, (SS.pull [_] S9).drop, fl, _, r' * r' % q, t9, t8, rfl, up_ne (by decide) (up_ne (by decide) hf), ?_, up_ne (by decide) up_self, up_ne (by decide) (up_ne (by decide) hw), by omega, by rw [stage_length, fl1], m0, by omega, inv⟩
        refine up_self.trans ?_
        rw [hH]
        rfl
theorem EL.fw {ns : List Int} {r q : Int} {K : Nat} (R : Rd w h) (O : Ok A 2) (F : EV w A s env h (.Name x px) (.ref 84)) (H1 : EL w A s env h e1 ns) (H2 : EI w A s env h e2 r) (H3 : EI w A s env h e3 q) (hn : ns.length = 2 ^ K) (hK : K ≤ 5) (q0 : 0 < q) (q1 : q < 1000) (r0 : 0 ≤ r) (r1 : r < 1000)
    (hs : backTo pos (starEach [e1, e2, e3] env) = [e1, e2, e3].map fun e => (false, eval e env)) : ELn w A s env h (.Call (.Name x px) [e1, e2, e3] [] pos) (fw q r K ns) :=
  E1.def R F fn_fw (.cons H1 (.cons H2 (.one H3))) (fun h1 h2 vs h3 y1 y2 y3 p => by
    obtain ⟨v1, h4, vs1, q1, z1, ⟨l, r1, hA⟩, z2, v2, h5, vs2, q2, z3, ⟨t2, r2⟩, z4, v3, h6, q3, z5, ⟨t3, r3⟩, z6⟩ := p
    subst q1 q2 q3 r1 r2 r3
    exact (fw_call (R.up (y1.trans (y2.trans y3))) O (hA.up z2) hn hK q0 (by assumption) r0 (by assumption)).mono fun v h' ⟨a, l, b, c, d⟩ => ⟨a, l, b, c, (y2.trans y3).none d⟩) hs
end
end Mine

namespace Mine
/-! backward, as a plain function -/
def bbf (q c : Int) (half b : Nat) (fs : List Int) (t : Nat) : List Int :=
  (fs.set (b + t) ((fs.getD (b + t) 0 + fs.getD (b + t + half) 0 * (c ^ t % q) % q) % q)).set (b + t + half) ((fs.getD (b + t) 0 - fs.getD (b + t + half) 0 * (c ^ t % q) % q) % q)
def binner (q c : Int) (half b n : Nat) (fs : List Int) : List Int := (List.range n).foldl (bbf q c half b) fs
def bstage (q c : Int) (half n : Nat) (fs : List Int) : List Int := (List.range n).foldl (fun fs i => binner q c half (i * (2 * half)) half fs) fs
def bwTo (q T : Int) (K : Nat) : Nat → List Int → List Int
  | 0, fs => fs
  | j + 1, fs => bstage q (T ^ (2 ^ (K - (j + 1))) % q) (2 ^ j) (2 ^ (K - (j + 1))) (bwTo q T K j fs)
def bw (q r : Int) (K : Nat) (ns : List Int) : List Int := (bwTo q (r ^ (2 ^ K - 1) % q) K K ns).map fun x => x * ((2 ^ K) ^ (q - 2).toNat % q) % q
theorem bbf_length {q r : Int} {half b t : Nat} {fs : List Int} : (bbf q r half b fs t).length = fs.length := by simp [bbf]
theorem binner_succ {q r : Int} {half b n : Nat} {fs : List Int} : binner q r half b (n + 1) fs = bbf q r half b (binner q r half b n fs) n := by simp [binner, List.range_succ]
theorem binner_length {q r : Int} {half b : Nat} {fs : List Int} : ∀ n, (binner q r half b n fs).length = fs.length
  | 0 => rfl
  | n + 1 => by rw [binner_succ, bbf_length, binner_length n]
theorem bstage_succ {q r : Int} {half n : Nat} {fs : List Int} : bstage q r half (n + 1) fs = binner q r half (n * (2 * half)) half (bstage q r half n fs) := by simp [bstage, List.range_succ]
theorem bstage_length {q r : Int} {half : Nat} {fs : List Int} : ∀ n, (bstage q r half n fs).length = fs.length
  | 0 => rfl
  | n + 1 => by rw [bstage_succ, binner_length, bstage_length n]
theorem bwTo_length {q T : Int} {K : Nat} {fs : List Int} : ∀ (j : Nat), (bwTo q T K j fs).length = fs.length
  | 0 => rfl
  | j + 1 => by rw [bwTo, bstage_length, bwTo_length j]
section
variable {w : World} {A : Around} {s : Shared} {g h : Heap} {L c : Addr} {kd : Kd} {m : Str → Option Value} {own : List (Addr × Kd)} {env : Env} {x : Str} {px pos : Pos} {f : Addr} {e e1 e2 e3 : Expr} {es : List Expr} {rest : List Stmt} {P : Flow → Heap → Prop}

theorem cell_cellU (h : Heap) (H : At h c .cellU) : ∃ v, h.IsCell c v := let ⟨o, e, v, d⟩ := H; ⟨v, o, e, d⟩
theorem cell_cellI {k : Int} (h : Heap) (H : At h c (.cellI k)) : ∃ v, h.IsCell c v := let ⟨o, e, v, d⟩ := H; ⟨_, o, e, d⟩
theorem cell_cell {v : Value} (h : Heap) (H : At h c (.cell v)) : ∃ v, h.IsCell c v := let ⟨o, e, d⟩ := H; ⟨_, o, e, d⟩
theorem store_cel {v : Value} (S : SS g L h m ((c, kd) :: own)) (hcl : ∀ h, At h c kd → ∃ v, h.IsCell c v) (hk : env.scope.kind = .function) (hx : env.kindOf x = some .cell) (hc : env.cells.lookup x = some c) {Q : Unit → Heap → Prop}
    (K : ∀ h', (∀ kd', (∀ o : Obj, o.data = .cell (some v) → kd'.holds o) → SS g L h' m ((c, kd') :: own)) → Q () h') : Ev w A s h (storeName env x v) Q := fun tk => by
  obtain ⟨v0, hv⟩ := hcl _ (S.at' _ (.head _))
  exact wpAny_storeName_cell (s := St s h tk) hk hx hc hv fun h' hi hb => ⟨h', _, rfl, K h' fun kd' q => S.put hb (let ⟨o, e, d⟩ := hi; ⟨o, e, q o d⟩)⟩
/-- x = e, x a cell -/
theorem X.asgCel {R : Heap → Value → Heap → Prop} (hcl : ∀ h, At h c kd → ∃ v, h.IsCell c v) (hk : env.scope.kind = .function) (hx : env.kindOf x = some .cell) (hc : env.cells.lookup x = some c)
    (H : E1 w A s env h e R) (K : ∀ v h1, Ext h h1 → R h v h1 → ∃ own1, SS g L h1 m ((c, kd) :: own1) ∧ ∀ h', (∀ kd', (∀ o : Obj, o.data = .cell (some v) → kd'.holds o) → SS g L h' m ((c, kd') :: own1)) → X w A s env h' rest P)
    (hsw : swapsWith e (some (.Name x px)) pos.line env = pure false := by rfl) : X w A s env h (.Assign [.Name x px] e pos :: rest) P :=
  X.cons fun tk => wpAny_Assign_Name (Ev.use (H h .rfl) fun v h1 tk1 ⟨y, r⟩ => by
    obtain ⟨own1, S1, K1⟩ := K v h1 y r
    exact store_cel (Q := fun _ h' => X w A s env h' rest P) S1 hcl hk hx hc K1 tk1) hsw
theorem X.asgCelI {k : Int} (S : SS g L h m ((c, kd) :: own)) (hcl : ∀ h, At h c kd → ∃ v, h.IsCell c v) (H : EI w A s env h e k) (K : ∀ h', SS g L h' m ((c, .cellI k) :: own) → X w A s env h' rest P)
    (hx : env.kindOf x = some .cell := by rfl) (hc : env.cells.lookup x = some c := by rfl) (hk : env.scope.kind = .function := by rfl)
    (hsw : swapsWith e (some (.Name x px)) pos.line env = pure false := by rfl) : X w A s env h (.Assign [.Name x px] e pos :: rest) P :=
  X.asgCel hcl hk hx hc H (fun v h1 y ⟨t, q⟩ => ⟨own, S.up y, fun h' S' => K h' (S' _ fun o d => ⟨t, by rw [d, q]⟩)⟩) hsw

set_option maxHeartbeats 1000000 in
theorem bw_call {l : Addr} {ns : List Int} {r q : Int} {K : Nat} {t2 t3 : Tok} (R : Rd w h) (O : Ok A 2) (hA : At h l (.ints ns)) (hn : ns.length = 2 ^ K) (hK : K ≤ 5) (q0 : 1 < q) (q1 : q < 1000) (r0 : 0 ≤ r) (r1 : r < 1000) :
    Ev w A s h (call (.ref 89) [.ref l, .int r t2, .int q t3]) (fun v h' => Ext h h' ∧ NewL h (bw q r K ns) v h') := by
  refine' enterC (f := 89) (P := NewL h (bw q r K ns)) R O ?ho ?hcd ?hb ?hl ?hc ?h1 ?h2 ?h3 ?H
  case ho => k_is
  case hcd => k_is
  case hb => exact rfl
  case hl => exact rfl
  case hc => decide +kernel
  case h1 => rfl
  case h2 => rfl
  case h3 => rfl
  intro L h1 S O1 R1
  have S : SS h L h1 _ [(L + 1, .cellI q), (L + 2, .cellU)] := S.perm (List.Perm.swap _ _ _)
  have pK : (2 : Nat) ^ K ≤ 32 := Nat.pow_le_pow_right (by decide) (show K ≤ 5 by omega)
  have pK0 := Nat.two_pow_pos K
  have q0' : 0 < q := by omega
  refine X.asgN S (ELp.copy (EL.of (EV.loc S (v := .ref l) rfl rfl rfl rfl (by decide)) (hA.up S.keep)) (by rw [hn, sizeLine_eq]; omega)).eln fun h2 fl S2 => ?_
  refine X.asgI S2 (k := ((2 ^ K : Nat) : Int)) (EI.cast (EI.len (EV.bui (R.up S2.keep) nm_len bo_len (by decide) rfl rfl rfl rfl (by decide)) (EL.of (EV.loc S2 (v := .ref l) (up_ne (by decide) rfl) rfl rfl rfl (by decide)) (hA.up S2.keep)) (by omega) rfl) (by rw [hn])) fun h3 ts S3 => ?_
  have R3 : Rd w h3 := R.up S3.keep
  refine X.asgI S3 (k := r ^ (2 ^ K - 1) % q) (EI.cast (EI.pp R3 (O1.less (by decide)) (EV.glob R3 nm_pp rfl rfl rfl (by decide)) (EI.loc S3 (t := t2) (up_ne (by decide) (up_ne (by decide) rfl)) rfl rfl rfl (by decide)) (EI.sub (EI.loc S3 up_self rfl rfl rfl (by decide)) EI.const) (EI.cel (S3.at' _ (.tail _ (.head _))) rfl rfl rfl (by decide)) (by omega) q0' q1 r0 r1 rfl) (by rw [show (((2 ^ K : Nat) : Int) - 1).toNat = 2 ^ K - 1 from by omega])) fun h4 tt S4 => ?_
  generalize hT : r ^ (2 ^ K - 1) % q = T at S4
  have T0 : 0 ≤ T := hT ▸ Int.emod_nonneg _ (by omega)
  have T1 : T < q := hT ▸ Int.emod_lt_of_pos _ q0'
  refine X.asgI S4 EI.const fun h5 th S5 => ?_
  refine X.while (fun k m own => ∃ fl fs j th ts tt, own = [(fl, .ints fs), (L + 1, .cellI q), (L + 2, .cellU)] ∧ m (Str.ofString "found") = some (.ref fl) ∧ m (Str.ofString "half") = some (.int ((2 ^ j : Nat) : Int) th) ∧ m (Str.ofString "size") = some (.int ((2 ^ K : Nat) : Int) ts) ∧ m (Str.ofString "turned") = some (.int T tt) ∧
    j ≤ K ∧ k = K - j ∧ fs = bwTo q T K j ns) K S5 ⟨fl, ns, 0, th, ts, tt, rfl, up_ne (by decide) (up_ne (by decide) (up_ne (by decide) up_self)), up_self, up_ne (by decide) (up_ne (by decide) up_self), up_ne (by decide) up_self, Nat.zero_le _, rfl, rfl⟩ ?_
  rintro k h6 m own S6 ⟨fl, fs, j, th, ts, tt, rfl, hf, hh, hz, ht, jK, rfl, rfl⟩
  have fl1 : (bwTo q T K j ns).length = 2 ^ K := by rw [bwTo_length, hn]
  refine ⟨_, ET.lt (EI.loc S6 hh rfl rfl rfl (by decide)) (EI.loc S6 hz rfl rfl rfl (by decide)), fun hb h7 S7 => ?_, fun hb h7 S7 => ?_⟩
  · have hb := of_decide_eq_false hb
    have e : j = K := by
      rcases Nat.lt_or_ge j K with q | q
      · exact absurd (by exact_mod_cast Nat.pow_lt_pow_right (a := 2) (by decide) q) hb
      · omega
    subst e
    have R7 : Rd w h7 := R.up S7.keep
    refine X.asgCelI (SS.pull [_, _] S7) cell_cellU (EI.pp R7 (O1.less (by decide)) (EV.glob R7 nm_pp rfl rfl rfl (by decide)) (EI.loc S7 hz rfl rfl rfl (by decide)) (EI.sub (EI.cel (S7.at' _ (.tail _ (.head _))) rfl rfl rfl (by decide)) EI.const) (EI.cel (S7.at' _ (.tail _ (.head _))) rfl rfl rfl (by decide)) (by omega) q0' q1 (by omega) (by omega) rfl) fun h8 S8 => ?_
    refine X.ret (E1.comp (cl := [(Str.ofString "share", L + 2), (Str.ofString "p", L + 1)]) (ns := bw q r j ns) (Src.list O1.hh (EL.of (EV.loc S8 hf rfl rfl rfl (by decide)) (S8.at' _ (.tail _ (.head _))))) (fun C => rfl) (by simp [bw, bwTo_length]) ?_ rfl (by decide) rfl (by decide) (by rw [fl1, sizeLine_eq]; omega)) fun v h9 x9 ⟨l', qv, hA', hn'⟩ => ⟨S8.keep.trans x9, l', qv, hA', S8.keep.none hn'⟩
    rintro i C h' k x hk ⟨m', k0, t, hn', h0, hm⟩
    rw [bw, hT] at hk
    have sh0 := Int.emod_nonneg (((2 ^ j : Nat) : Int) ^ (q - 2).toNat) (Int.ne_of_gt q0')
    have sh1 := Int.emod_lt_of_pos (((2 ^ j : Nat) : Int) ^ (q - 2).toNat) q0'
    refine EI.cast (EI.mod (EI.mul (EI.of (EV.ns hn' hm rfl rfl (by decide))) (EI.cel ((S8.up x).at' _ (.head _)) rfl rfl rfl (by decide)) (mul_okr (by omega) (by omega))) (EI.cel ((S8.up x).at' _ (.tail _ (.tail _ (.head _)))) rfl rfl rfl (by decide)) q0') ?_
    have := map_some hk h0
    rw [← this]
    push_cast
    rfl
  · have hb := of_decide_eq_true hb
    have e : j < K := by
      rcases Nat.lt_or_ge j K with q | q
      · exact q
      · have : ((2 ^ K : Nat) : Int) ≤ ((2 ^ j : Nat) : Int) := by exact_mod_cast Nat.pow_le_pow_right (n := 2) (by decide) q
        omega
    have hKM : 2 ^ K = 2 ^ (K - (j + 1)) * (2 * 2 ^ j) := by rw [show 2 * 2 ^ j = 2 ^ (j + 1) from by rw [Nat.pow_succ, Nat.mul_comm], ← Nat.pow_add, show K - (j + 1) + (j + 1) = K from by omega]
    have inv : bwTo q T K (j + 1) ns = bstage q (T ^ (2 ^ (K - (j + 1))) % q) (2 ^ j) (2 ^ (K - (j + 1))) (bwTo q T K j ns) := rfl
    have pj0 := Nat.two_pow_pos j
    have hH2 : (2 : Nat) ^ (j + 1) = 2 ^ j * 2 := Nat.pow_succ ..
    generalize hfs : bwTo q T K j ns = fs at S6 S7 fl1 inv
    generalize hH : (2 : Nat) ^ j = H at hh hb inv hKM pj0 hH2
    generalize hM : (2 : Nat) ^ (K - (j + 1)) = M at inv hKM
    generalize hc : T ^ M % q = c at inv
    have c0 : 0 ≤ c := hc ▸ Int.emod_nonneg _ (by omega)
    have c1 : c < q := hc ▸ Int.emod_lt_of_pos _ q0'
    have hH32 : H ≤ 16 := by rw [← hH]; exact Nat.pow_le_pow_right (n := 2) (by decide) (show j ≤ 4 by omega)
    have R7 : Rd w h7 := R.up S7.keep
    have cq := S7.at' _ (.tail _ (.head _))
    refine X.asgN S7 (EL.po (many := (H : Int)) (r := c) R7 (O1.less (by decide)) (EV.glob R7 nm_po rfl rfl rfl (by decide)) (EI.cast (EI.pp (n := (M : Int)) R7 (O1.less (by decide)) (EV.glob R7 nm_pp rfl rfl rfl (by decide)) (EI.loc S7 ht rfl rfl rfl (by decide)) (EI.cast (EI.fdiv (EI.loc S7 hz rfl rfl rfl (by decide)) (EI.mul EI.const (EI.loc S7 hh rfl rfl rfl (by decide)) (mul_ok (by omega) (by omega))) (by omega) (PyProof.noPylong_small (by omega))) (by rw [hKM]; push_cast; exact Int.mul_ediv_cancel _ (by omega))) (EI.cel cq rfl rfl rfl (by decide)) (by omega) q0' q1 T0 (by omega) rfl) (by rw [Int.toNat_natCast, hc])) (EI.loc S7 hh rfl rfl rfl (by decide)) (EI.cel cq rfl rfl rfl (by decide)) (by omega) (by omega) q0' q1 rfl) fun h8 sl S8 => ?_
    have eH : (H : Int).toNat = H := Int.toNat_natCast H
    rw [eH] at S8
    refine X.for_range (n := M) (fun i m own => ∃ th ts tt, own = [(fl, .ints (bstage q c H i fs)), (sl, .ints (pws c q H)), (L + 1, .cellI q), (L + 2, .cellU)] ∧ m (Str.ofString "found") = some (.ref fl) ∧ m (Str.ofString "half") = some (.int (H : Int) th) ∧ m (Str.ofString "size") = some (.int ((2 ^ K : Nat) : Int) ts) ∧ m (Str.ofString "turned") = some (.int T tt) ∧ m (Str.ofString "steps") = some (.ref sl))
      (SS.pull [_] S8) O1.hh (ER.three (EV.bui (R.up S8.keep) nm_range bo_range (by decide) rfl rfl rfl rfl (by decide)) EI.const (EI.cast (EI.loc S8 (up_ne (by decide) hz) rfl rfl rfl (by decide)) (show _ = (M : Int) * ((2 * H : Nat) : Int) by rw [hKM]; push_cast; rfl)) (EI.cast (EI.mul EI.const (EI.loc S8 (up_ne (by decide) hh) rfl rfl rfl (by decide)) (mul_ok (by omega) (by omega))) (show _ = ((2 * H : Nat) : Int) by push_cast; rfl)) (by omega) (by omega) rfl)
      (small_step (by exact_mod_cast Nat.zero_le _) (by rw [← Int.natCast_mul, ← hKM]; omega) (by omega) (by omega)) (rangeSize_step (by omega)) ⟨th, ts, tt, rfl, up_ne (by decide) hf, up_ne (by decide) hh, up_ne (by decide) hz, up_ne (by decide) ht, up_self⟩ ?_ ?_
    · rintro i h7 m7 own7 I1 o1 tb hi ⟨th, ts, tt, rfl, hf, hh, hz, ht, hs⟩ S7
      have S7 := SS.pull [_] S7
      have hfit : i * (2 * H) + 2 * H ≤ 2 ^ K := by
        rw [hKM, ← Nat.succ_mul]
        exact Nat.mul_le_mul_right _ hi
      have eb : (0 : Int) + (i : Int) * ((2 * H : Nat) : Int) = ((i * (2 * H) : Nat) : Int) := by push_cast; omega
      rw [eb] at S7
      generalize hB : i * (2 * H) = B at S7 hfit
      refine X.for_range (n := H) (fun t m own => ∃ th ts tt tb, own = [(fl, .ints (binner q c H B t (bstage q c H i fs))), (I1, .obj o1), (sl, .ints (pws c q H)), (L + 1, .cellI q), (L + 2, .cellU)] ∧ m (Str.ofString "found") = some (.ref fl) ∧ m (Str.ofString "half") = some (.int (H : Int) th) ∧ m (Str.ofString "size") = some (.int ((2 ^ K : Nat) : Int) ts) ∧ m (Str.ofString "turned") = some (.int T tt) ∧ m (Str.ofString "steps") = some (.ref sl) ∧ m (Str.ofString "begin") = some (.int (B : Int) tb))
        S7 O1.hh (ER.one (EV.bui (R.up S7.keep) nm_range bo_range (by decide) rfl rfl rfl rfl (by decide)) (EI.cast (EI.loc S7 (up_ne (by decide) hh) rfl rfl rfl (by decide)) (show _ = (H : Int) * 1 by omega)) rfl)
        (small_step (by omega) (by omega) (by omega) (by omega)) (rangeSize_step (by omega)) ⟨th, ts, tt, tb, rfl, up_ne (by decide) hf, up_ne (by decide) hh, up_ne (by decide) hz, up_ne (by decide) ht, up_ne (by decide) hs, up_self⟩ ?_ ?_
      · rintro t h8 m8 own8 I2 o2 ta htt ⟨th, ts, tt, tb, rfl, hf, hh, hz, ht, hs, hbg⟩ S8
        have S8 := SS.pull [_] S8
        rw [show (0 : Int) + (t : Int) * 1 = (t : Int) from by omega] at S8
        generalize hF : binner q c H B t (bstage q c H i fs) = F at S8
        have lF : F.length = 2 ^ K := by rw [← hF, binner_length, bstage_length, fl1]
        have lt1 : B + t < F.length := by omega
        have lt2 : B + t + H < F.length := by omega
        have lF1000 : F.length ≤ 1000 := by omega
        have aF := S8.at' _ (.head _)
        have aP := S8.at' _ (.tail _ (.tail _ (.tail _ (.head _))))
        have cq := S8.at' _ (.tail _ (.tail _ (.tail _ (.tail _ (.head _)))))
        have pm0 := Int.emod_nonneg (c ^ t) (Int.ne_of_gt q0')
        have pm1 := Int.emod_lt_of_pos (c ^ t) q0'
        refine X.asg2I S8 O1.hh (EI.itemD (j := B + t) (EL.of (EV.loc S8 (up_ne (by decide) hf) rfl rfl rfl (by decide)) aF) (EI.cast (EI.add (EI.loc S8 (up_ne (by decide) hbg) rfl rfl rfl (by decide)) (EI.loc S8 up_self rfl rfl rfl (by decide))) (by push_cast; rfl)) lt1 lF1000)
          (EI.mod (EI.mul (EI.itemD (j := B + t + H) (EL.of (EV.loc S8 (up_ne (by decide) hf) rfl rfl rfl (by decide)) aF) (EI.cast (EI.add (EI.add (EI.loc S8 (up_ne (by decide) hbg) rfl rfl rfl (by decide)) (EI.loc S8 up_self rfl rfl rfl (by decide))) (EI.loc S8 (up_ne (by decide) hh) rfl rfl rfl (by decide))) (by push_cast; rfl)) lt2 lF1000)
            (EI.item (j := (t : Int)) (k := c ^ t % q) (EL.of (EV.loc S8 (up_ne (by decide) hs) rfl rfl rfl (by decide)) aP) (EI.loc S8 up_self rfl rfl rfl (by decide)) (by omega) (by omega) (by rw [Int.toNat_natCast]; exact pws_get htt)) (mul_okm q0' q1)) (EI.cel cq rfl rfl rfl (by decide)) q0') (fun h11 u1 u2 S11 => ?_) rfl
        generalize hu1 : Value.int (F.getD (B + t) 0) u1 = w1 at S11
        generalize hu2 : Value.int (F.getD (B + t + H) 0 * (c ^ t % q) % q) u2 = w2 at S11
        have ks : ∀ {y : Str} {v : Option Value}, y ≠ Str.ofString "one" → y ≠ Str.ofString "other" → y ≠ Str.ofString "at" → m8 y = v → up (up (up m8 (Str.ofString "at") (.int (t : Int) ta)) (Str.ofString "other") w2) (Str.ofString "one") w1 y = v := fun n1 n2 n3 q => up_ne n1 (up_ne n2 (up_ne n3 q))
        have mat : up (up (up m8 (Str.ofString "at") (.int (t : Int) ta)) (Str.ofString "other") w2) (Str.ofString "one") w1 (Str.ofString "at") = some (.int (t : Int) ta) := up_ne (by decide) (up_ne (by decide) up_self)
        have mone : up (up (up m8 (Str.ofString "at") (.int (t : Int) ta)) (Str.ofString "other") w2) (Str.ofString "one") w1 (Str.ofString "one") = some (.int (F.getD (B + t) 0) u1) := up_self.trans (by rw [hu1])
        have moth : up (up (up m8 (Str.ofString "at") (.int (t : Int) ta)) (Str.ofString "other") w2) (Str.ofString "one") w1 (Str.ofString "other") = some (.int (F.getD (B + t + H) 0 * (c ^ t % q) % q) u2) := (up_ne (by decide) up_self).trans (by rw [hu2])
        have mf := ks (by decide) (by decide) (by decide) hf
        have mh := ks (by decide) (by decide) (by decide) hh
        have mb := ks (by decide) (by decide) (by decide) hbg
        refine X.setD S11 (j := B + t) (EI.mod (EI.add (EI.loc S11 mone rfl rfl rfl (by decide)) (EI.loc S11 moth rfl rfl rfl (by decide))) (EI.cel (S11.at' _ (.tail _ (.tail _ (.tail _ (.tail _ (.head _)))))) rfl rfl rfl (by decide)) q0') (EV.loc S11 mf rfl rfl rfl (by decide)) (EI.cast (EI.add (EI.loc S11 mb rfl rfl rfl (by decide)) (EI.loc S11 mat rfl rfl rfl (by decide))) (by push_cast; rfl)) lt1 lF1000 fun h12 S12 => ?_
        refine X.setD S12 (j := B + t + H) (EI.mod (EI.sub (EI.loc S12 mone rfl rfl rfl (by decide)) (EI.loc S12 moth rfl rfl rfl (by decide))) (EI.cel (S12.at' _ (.tail _ (.tail _ (.tail _ (.tail _ (.head _)))))) rfl rfl rfl (by decide)) q0') (EV.loc S12 mf rfl rfl rfl (by decide)) (EI.cast (EI.add (EI.add (EI.loc S12 mb rfl rfl rfl (by decide)) (EI.loc S12 mat rfl rfl rfl (by decide))) (EI.loc S12 mh rfl rfl rfl (by decide))) (by push_cast; rfl)) (by rw [List.length_set]; exact lt2) (by rw [List.length_set]; exact lF1000) fun h13 S13 => ?_
        refine X.nil ⟨_, _, SS.push' [_] S13, th, ts, tt, tb, ?_, mf, mh, ks (by decide) (by decide) (by decide) hz, ks (by decide) (by decide) (by decide) ht, ks (by decide) (by decide) (by decide) hs, mb⟩
        rw [binner_succ, hF]
        simp only [Int.toNat_natCast, bbf]
        rfl
      · rintro h8 m8 own8 ⟨th, ts, tt, tb, rfl, hf, hh, hz, ht, hs, hbg⟩ S8
        refine X.nil ⟨_, _, SS.push' [_] S8, th, ts, tt, ?_, hf, hh, hz, ht, hs⟩
        rw [bstage_succ, hB]
        rfl
    · rintro h7 m7 own7 ⟨th, ts, tt, rfl, hf, hh, hz, ht, hs⟩ S7
      refine X.aug S7 hh EI.const (op_mul (mul_ok (by omega) (by omega))) fun h9 t9 S9 => ?_
      refine X.nil ⟨_, _, K - (j + 1), by omega, (SS.pull [_] S9).drop, fl, _, j + 1, t9, ts, tt, rfl, up_ne (by decide) hf, ?_, up_ne (by decide) hz, up_ne (by decide) ht, by omega, rfl, inv.symm⟩
      refine up_self.trans ?_
      rw [hH2]
      push_cast
      rfl
theorem EL.bw {ns : List Int} {r q : Int} {K : Nat} (R : Rd w h) (O : Ok A 2) (F : EV w A s env h (.Name x px) (.ref 89)) (H1 : EL w A s env h e1 ns) (H2 : EI w A s env h e2 r) (H3 : EI w A s env h e3 q) (hn : ns.length = 2 ^ K) (hK : K ≤ 5) (q0 : 1 < q) (q1 : q < 1000) (r0 : 0 ≤ r) (r1 : r < 1000)
    (hs : backTo pos (starEach [e1, e2, e3] env) = [e1, e2, e3].map fun e => (false, eval e env)) : ELn w A s env h (.Call (.Name x px) [e1, e2, e3] [] pos) (bw q r K ns) :=
  E1.def R F fn_bw (.cons H1 (.cons H2 (.one H3))) (fun h1 h2 vs h3 y1 y2 y3 p => by
    obtain ⟨v1, h4, vs1, q1, z1, ⟨l, r1, hA⟩, z2, v2, h5, vs2, q2, z3, ⟨t2, r2⟩, z4, v3, h6, q3, z5, ⟨t3, r3⟩, z6⟩ := p
    subst q1 q2 q3 r1 r2 r3
    exact (bw_call (R.up (y1.trans (y2.trans y3))) O (hA.up z2) hn hK q0 (by assumption) r0 (by assumption)).mono fun v h' ⟨a, l, b, c, d⟩ => ⟨a, l, b, c, (y2.trans y3).none d⟩) hs
end
end Mine

namespace Mine
theorem zw_some {f : Int → Int → Int} {as bs : List Int} {i : Nat} {a b k : Int} (h : (List.zipWith f as bs)[i]? = some k) (ha : as[i]? = some a) (hb : bs[i]? = some b) : f a b = k := by
  rw [List.getElem?_zipWith, ha, hb] at h
  exact Option.some.inj h
theorem rg_some {f : Nat → Int} {n i : Nat} {k : Int} (h : ((List.range n).map f)[i]? = some k) : i < n ∧ f i = k := by
  rw [List.getElem?_map] at h
  rcases Nat.lt_or_ge i n with q | q
  · rw [List.getElem?_range q] at h; exact ⟨q, Option.some.inj h⟩
  · rw [List.getElem?_eq_none (by simpa using q)] at h; cases h
theorem getD_of {fs : List Int} {i : Nat} {k : Int} (h : fs[i]? = some k) : fs.getD i 0 = k := by
  rw [List.getD_eq_getElem?_getD, h]; rfl
abbrev Rg (q : Int) (fs : List Int) : Prop := ∀ x ∈ fs, 0 ≤ x ∧ x < q
theorem md {q : Int} (q0 : 0 < q) (x : Int) : 0 ≤ x % q ∧ x % q < q := ⟨Int.emod_nonneg _ (by omega), Int.emod_lt_of_pos _ q0⟩
theorem rg_set {q : Int} {fs : List Int} (H : Rg q fs) (i : Nat) {k : Int} (hk : 0 ≤ k ∧ k < q) : Rg q (fs.set i k) := fun x hx => by
  rcases List.mem_or_eq_of_mem_set hx with h | h
  · exact H x h
  · rw [h]; exact hk
theorem rg_map {q : Int} (q0 : 0 < q) (f : Int → Int) (fs : List Int) : Rg q (fs.map fun x => f x % q) := fun x hx => by
  obtain ⟨y, _, rfl⟩ := List.mem_map.mp hx
  exact md q0 _
theorem inner_rg {q r : Int} (q0 : 0 < q) {half b : Nat} {fs : List Int} (H : Rg q fs) : ∀ n, Rg q (inner q r half b n fs)
  | 0 => H
  | n + 1 => by rw [inner_succ]; exact rg_set (rg_set (inner_rg q0 H n) _ (md q0 _)) _ (md q0 _)
theorem stage_rg {q r : Int} (q0 : 0 < q) {half : Nat} {fs : List Int} (H : Rg q fs) : ∀ n, Rg q (stage q r half n fs)
  | 0 => H
  | n + 1 => by rw [stage_succ]; exact inner_rg q0 (stage_rg q0 H n) _
theorem fwGo_rg {q : Int} (q0 : 0 < q) {K : Nat} : ∀ (j : Nat) (r : Int) (fs : List Int), Rg q fs → Rg q (fwGo q K j r fs)
  | 0, _, _, H => H
  | j + 1, r, fs, H => by rw [fwGo]; exact fwGo_rg q0 j _ _ (stage_rg q0 H _)
theorem fw_rg {q : Int} (q0 : 0 < q) (r : Int) (K : Nat) (ns : List Int) : Rg q (fw q r K ns) := fwGo_rg q0 K r _ (rg_map q0 (fun x => x) ns)
section
variable {w : World} {A : Around} {s : Shared} {g h : Heap} {L c : Addr} {kd : Kd} {m : Str → Option Value} {own : List (Addr × Kd)} {env : Env} {x : Str} {px pos : Pos} {f : Addr} {e e1 e2 e3 e4 : Expr} {es : List Expr} {rest : List Stmt} {P : Flow → Heap → Prop}
theorem X.asg2N {y : Str} {py tp : Pos} {k1 k2 : Nat} {pv : Pos} {as bs : List Int} (S : SS g L h m own) (hh : A.handled = none) (H1 : ELn w A s env h e1 as) (H2 : ELn w A s env h e2 bs)
    (K : ∀ h' l1 l2, SS g L h' (up (up m y (.ref l2)) x (.ref l1)) ((l2, .ints bs) :: (l1, .ints as) :: own) → X w A s env h' rest P)
    (hs : backTo pv (starEach [e1, e2] env) = [e1, e2].map fun e => (false, eval e env))
    (hL : env.locals = L := by rfl) (hk : env.scope.kind = .function := by rfl) (hx : env.kindOf x = some .local := by rfl) (hy : env.kindOf y = some .local := by rfl)
    (h1 : swapsWithSole [.Tuple [.Name x px, .Name y py] k1 tp] (.Tuple [e1, e2] k2 pv) pos.line env = pure false := by rfl)
    (h2 : swappedStores [.Tuple [.Name x px, .Name y py] k1 tp] (.Tuple [e1, e2] k2 pv) env = pure (some [x, y]) := by rfl) :
    X w A s env h (.Assign [.Tuple [.Name x px, .Name y py] k1 tp] (.Tuple [e1, e2] k2 pv) pos :: rest) P :=
  X.asg2 hh H1 H2 (fun h1 h2 v1 v2 x1 ⟨l1, p1, a1, n1⟩ x2 ⟨l2, p2, a2, n2⟩ => by
    subst p1 p2
    exact ⟨_, (S.new x1 a1 n1).new x2 a2 n2, fun h' S' => K h' l1 l2 S'⟩) hs hL hk hx hy h1 h2

/-! convolve -/
def cv (q r : Int) (K : Nat) (as bs : List Int) : List Int := bw q r K (List.zipWith (fun a b => a * b % q) (fw q r K as) (fw q r K bs))
theorem fw_length {q r : Int} {K : Nat} {ns : List Int} : (fw q r K ns).length = ns.length := by rw [fw, fwGo_length, List.length_map]
theorem bw_length {q r : Int} {K : Nat} {ns : List Int} : (bw q r K ns).length = ns.length := by rw [bw, List.length_map, bwTo_length]
theorem cv_call {la lb : Addr} {as bs : List Int} {b q : Int} {K : Nat} {t2 t3 : Tok} (R : Rd w h) (O : Ok A 3) (hA : At h la (.ints as)) (hB : At h lb (.ints bs)) (ha : as.length = 2 ^ K) (hb : bs.length = 2 ^ K) (K0 : 0 < K) (hK : K ≤ 5) (q0 : 1 < q) (q1 : q < 1000)
    (hg : rtGo 64 q 2 = some b) (hm : (q - 1) % ((2 ^ K : Nat) : Int) = 0) :
    Ev w A s h (call (.ref 101) [.ref la, .ref lb, .int ((2 ^ K : Nat) : Int) t2, .int q t3]) (fun v h' => Ext h h' ∧ NewL h (cv q (b ^ ((q - 1) / ((2 ^ K : Nat) : Int)).toNat % q) K as bs) v h') := by
  refine' enterC (f := 101) (P := NewL h (cv q (b ^ ((q - 1) / ((2 ^ K : Nat) : Int)).toNat % q) K as bs)) R O ?ho ?hcd ?hb ?hl ?hc ?h1 ?h2 ?h3 ?H
  case ho => k_is
  case hcd => k_is
  case hb => exact rfl
  case hl => exact rfl
  case hc => decide +kernel
  case h1 => rfl
  case h2 => rfl
  case h3 => rfl
  intro L h1 S O1 R1
  have S : SS h L h1 _ [(L + 1, .cellI q)] := S
  have pK : (2 : Nat) ^ K ≤ 32 := Nat.pow_le_pow_right (by decide) (show K ≤ 5 by omega)
  have pK1 : 2 ≤ (2 : Nat) ^ K := Nat.pow_le_pow_right (n := 2) (by decide) (show 1 ≤ K by omega)
  refine X.asgI S (EI.rt R1 O1 (EV.glob R1 nm_rt rfl rfl rfl (by decide)) (EI.loc S (t := t2) (k := ((2 ^ K : Nat) : Int)) rfl rfl rfl rfl (by decide)) (EI.cel (S.at' _ (.head _)) rfl rfl rfl (by decide)) hg hm (by omega) (by omega) q0 q1 rfl) fun h2 tr S2 => ?_
  generalize hr : b ^ ((q - 1) / ((2 ^ K : Nat) : Int)).toNat % q = r at S2
  have r0 : 0 ≤ r := hr ▸ Int.emod_nonneg _ (by omega)
  have r1 : r < q := hr ▸ Int.emod_lt_of_pos _ (by omega)
  have R2 : Rd w h2 := R.up S2.keep
  have cq := S2.at' _ (.head _)
  refine X.asg2N S2 O1.hh (EL.fw R2 O1 (EV.glob R2 nm_fw rfl rfl rfl (by decide)) (EL.fi R2 (O1.less (by decide)) (EV.glob R2 nm_fi rfl rfl rfl (by decide)) (EL.of (EV.loc S2 (v := .ref la) (up_ne (by decide) rfl) rfl rfl rfl (by decide)) (hA.up S2.keep)) (EI.loc S2 (t := t2) (k := ((2 ^ K : Nat) : Int)) (up_ne (by decide) rfl) rfl rfl rfl (by decide)) (by rw [ha]) (by omega) rfl).el (EI.loc S2 up_self rfl rfl rfl (by decide)) (EI.cel cq rfl rfl rfl (by decide)) ha hK (by omega) q1 r0 (by omega) rfl)
    (EL.fw R2 O1 (EV.glob R2 nm_fw rfl rfl rfl (by decide)) (EL.fi R2 (O1.less (by decide)) (EV.glob R2 nm_fi rfl rfl rfl (by decide)) (EL.of (EV.loc S2 (v := .ref lb) (up_ne (by decide) rfl) rfl rfl rfl (by decide)) (hB.up S2.keep)) (EI.loc S2 (t := t2) (k := ((2 ^ K : Nat) : Int)) (up_ne (by decide) rfl) rfl rfl rfl (by decide)) (by rw [hb]) (by omega) rfl).el (EI.loc S2 up_self rfl rfl rfl (by decide)) (EI.cel cq rfl rfl rfl (by decide)) hb hK (by omega) q1 r0 (by omega) rfl) (fun h3 l1 l2 S3 => ?_) rfl
  have R3 : Rd w h3 := R.up S3.keep
  have a2 := S3.at' _ (.head _)
  have a1 := S3.at' _ (.tail _ (.head _))
  have cq := S3.at' _ (.tail _ (.tail _ (.head _)))
  have lfa : (fw q r K as).length = 2 ^ K := by rw [fw_length, ha]
  have lfb : (fw q r K bs).length = 2 ^ K := by rw [fw_length, hb]
  refine X.ret (EL.bw (ns := List.zipWith (fun a b => a * b % q) (fw q r K as) (fw q r K bs)) R3 O1 (EV.glob R3 nm_bw rfl rfl rfl (by decide)) (E1.comp (cl := [(Str.ofString "p", L + 1)]) (Src.zip O1.hh (by decide) (EV.bui R3 nm_zip bo_zip (by decide) rfl rfl rfl rfl (by decide)) (EL.of (EV.loc S3 up_self rfl rfl rfl (by decide)) a1) (EL.of (EV.loc S3 (up_ne (by decide) up_self) rfl rfl rfl (by decide)) a2) (by rw [lfa, lfb]) rfl) (fun C => ⟨rfl, rfl⟩) (by rw [List.length_zipWith, lfa, lfb, Nat.min_self]) ?_ rfl (by decide) rfl (by decide) (by rw [lfa, sizeLine_eq]; omega)).el
    (EI.loc S3 (up_ne (by decide) (up_ne (by decide) up_self)) rfl rfl rfl (by decide)) (EI.cel cq rfl rfl rfl (by decide)) (by rw [List.length_zipWith, lfa, lfb, Nat.min_self]) hK q0 q1 r0 (by omega) rfl) fun v h4 x4 ⟨l', qv, hA', hn'⟩ => ⟨S3.keep.trans x4, l', qv, hA', S3.keep.none hn'⟩
  rintro i C h' k x hk ⟨m', k1, k2, t, u, hn', h1', h2', m1, m2⟩
  exact EI.cast (EI.mod (EI.mul (EI.of (EV.ns hn' m1 rfl rfl (by decide))) (EI.of (EV.ns hn' m2 rfl rfl (by decide))) (mul_okr (by have := fw_rg (show 0 < q by omega) r K bs k2 (List.mem_of_getElem? h2'); omega) (by have := fw_rg (show 0 < q by omega) r K bs k2 (List.mem_of_getElem? h2'); omega))) (EI.cel ((S3.up x).at' _ (.tail _ (.tail _ (.head _)))) rfl rfl rfl (by decide)) (by omega)) (zw_some (f := fun a b => a * b % q) hk h1' h2')
end
end Mine

namespace Mine
/-- the heap but for one object -/
def hole (h : Heap) (B : Addr) : Heap := { h with objs := h.objs.setIfInBounds B { cls := .type "list", data := .freed } }
theorem hole_at (h : Heap) (B : Addr) : (hole h B).get? B = none := by
  unfold hole Heap.get?
  simp only [Array.getElem?_setIfInBounds]
  by_cases q : B < h.objs.size
  · simp [q]
  · simp [q]
theorem hole_ne (h : Heap) {B b : Addr} (n : b ≠ B) : (hole h B).get? b = h.get? b := by
  unfold hole Heap.get?
  simp only [Array.getElem?_setIfInBounds, if_neg (Ne.symm n)]
theorem hole_ext (h : Heap) (B : Addr) : Ext (hole h B) h := fun b o e => by
  by_cases q : b = B
  · rw [q, hole_at] at e; cases e
  · rwa [hole_ne h q] at e
section
variable {w : World} {A : Around} {s : Shared} {g h : Heap} {L c : Addr} {kd : Kd} {m : Str → Option Value} {own : List (Addr × Kd)} {env : Env} {x : Str} {px pos : Pos} {f : Addr} {e e1 e2 e3 e4 : Expr} {es : List Expr} {rest : List Stmt} {P : Flow → Heap → Prop}
theorem enterR {P : Value → Heap → Prop} {n : Nat} {name qual : Str} {params : Arguments} {body : List Stmt} {scope : Scope} {dV kV doc pm cdv ct oc : Value} {an od : Option Addr} {osl : Array (Option Value)} {args : List Value} {binds : List (Str × Value)}
    (R : Rd w h) (O : Ok A (n + 1)) (ho : (hd.heap_39 w.params).lookup f = some ⟨oc, od, .func (fnOf name qual params body scope dV kV doc pm an cdv ct), osl⟩) (hcd : codeIn (hd.heap_39 w.params) cdv qual = true)
    (hbind : bindArgs (fnOf name qual params body scope dV kV doc pm an cdv ct) ⟨args, []⟩ = pure binds) (hloc : ∀ y ∈ binds, scope.names.lookup y.1 = some .local)
    (hcell : ∀ x ∈ scope.names, x.2 ≠ .cell) (hco : scope.isCoroutine = false) (hgen : scope.isGenerator = false) (hk : scope.kind = .function)
    (H : ∀ L h1, SS h L h1 (fun y => binds.reverse.lookup y) [] → Ok (A.deeper (envOf qual scope L f cdv)) n → Rd w h1 →
      X w (A.deeper (envOf qual scope L f cdv)) s (envOf qual scope L f cdv) h1 body (fun fl h' => P (match fl with | .ret v => v | _ => .none) h')) :
    Ev w A s h (PySem.call (.ref f) args) P := fun tk => by
  obtain ⟨p, l, me, mg, mb, T⟩ := R.top
  refine wpAny_call (codeAny_call_def (s := St s h tk) (fd := fnOf name qual params body scope dV kV doc pm an cdv ct) (body := body) (binds := binds) O.room (R.kin _ _ ho) rfl T.nolimit (codeRec_of R.kin hcd) rfl (.of_eq hbind) hcell hloc (fun h₁ hns hk₁ => ?_) hco hgen hk)
  have x : Ext h h₁ := hk₁
  have S : SS h h.objs.size h₁ (fun y => binds.reverse.lookup y) [] := ⟨hns, x, get_none (Nat.le_refl _), (fun p hp => (nomatch hp)), (fun p hp => (nomatch hp)), List.Pairwise.nil⟩
  exact Ev.use (H h.objs.size h₁ S (O.deeper _) (R.up x)) fun fl h' tk' q => ⟨h', tk', rfl, q⟩

/-! the bell -/
def rung (st : List Int) (c : Nat) (many : Int) : Int := if c + 1 ≤ st.length then st.getD c 0 % many else (8 * ((c : Int) + 1) + ((c : Int) + 1) / 3 + 2) % many
/-- the bell, rung so often -/
def Bell (B sl : Addr) (st : List Int) (c : Nat) (h : Heap) : Prop := (∃ t, At h B (.vals [.int (c : Int) t, .ref sl])) ∧ At h sl (.ints st) ∧ sl ≠ B
theorem ru_call {B sl : Addr} {st : List Int} {n : Nat} {many : Int} {t2 : Tok} (R : Rd w h) (O : Ok A 1) (hB : Bell B sl st n h) (hst : st.length ≤ 100) (hn : n < 1000) (m0 : 0 < many)
    (hR : ∀ h', Kb [B] h h' → Rd w h') :
    Ev w A s h (PySem.call (.ref 108) [.ref B, .int many t2]) (fun v h' => (∃ t, v = .int (rung st n many) t) ∧ Bell B sl st (n + 1) h' ∧ Kb [B] h h') := by
  refine' enterR (f := 108) (P := fun v h' => (∃ t, v = .int (rung st n many) t) ∧ Bell B sl st (n + 1) h' ∧ Kb [B] h h') R O ?ho ?hcd ?hb ?hl ?hc ?h1 ?h2 ?h3 ?H
  case ho => k_is
  case hcd => k_is
  case hb => exact rfl
  case hl => exact locs rfl
  case hc => decide
  case h1 => rfl
  case h2 => rfl
  case h3 => rfl
  intro L h1 S O1 R1
  obtain ⟨⟨t, aB⟩, aS, ne⟩ := hB
  have nL : L ≠ B := fun q => by obtain ⟨o, e, _⟩ := aB; rw [← q, S.above] at e; cases e
  have S : SS (hole h B) L h1 _ [(B, .vals [.int (n : Int) t, .ref sl])] :=
    ⟨S.ns, (hole_ext h B).trans S.keep, (hole_ne h nL).trans S.above, (fun p hp => by rw [List.mem_singleton.mp hp]; exact aB.up S.keep), (fun p hp => by rw [List.mem_singleton.mp hp]; exact ⟨hole_at h B, Ne.symm nL⟩), by simp⟩
  have aS : At (hole h B) sl (.ints st) := let ⟨o, e, q⟩ := aS; ⟨o, (hole_ne h ne).trans e, q⟩
  have kb : ∀ {h'}, Ext (hole h B) h' → Kb [B] h h' := fun x b o nb e => x b o ((hole_ne h (fun q => nb (by rw [q]; exact .head _))).trans e)
  refine X.setV S (E1.up (EI.add (EI.of (EV.item (EV.loc S (v := .ref B) rfl rfl rfl rfl (by decide)) (S.at' _ (.head _)) EI.const (by decide) (by decide) rfl)) EI.const) .rfl) (EV.loc S (v := .ref B) rfl rfl rfl rfl (by decide)) EI.const (by decide) (by simp) (by decide) fun h2 v ⟨t', q⟩ S2 => ?_
  subst q
  have S2 : SS (hole h B) L h2 _ [(B, .vals [.int ((n : Int) + 1) t', .ref sl])] := S2
  have R2 : Rd w h2 := hR _ (kb S2.keep)
  refine X.if (ET.le (EI.of (EV.item (EV.loc S2 (v := .ref B) rfl rfl rfl rfl (by decide)) (S2.at' _ (.head _)) EI.const (by decide) (by decide) rfl)) (EI.len (EV.bui R2 nm_len bo_len (by decide) rfl rfl rfl rfl (by decide)) (EL.of (EV.item (EV.loc S2 (v := .ref B) rfl rfl rfl rfl (by decide)) (S2.at' _ (.head _)) EI.const (by decide) (by decide) rfl) (aS.up S2.keep)) (by omega) rfl)) fun h3 x3 => ?_
  have S3 := S2.up x3
  have fin : ∀ {h4 v}, Ext h3 h4 → (∃ t, v = Value.int (rung st n many) t) → (∃ t, v = Value.int (rung st n many) t) ∧ Bell B sl st (n + 1) h4 ∧ Kb [B] h h4 := fun x4 hv =>
    ⟨hv, ⟨⟨t', by have := (S3.up x4).at' _ (.head _); push_cast; exact this⟩, aS.up (S3.up x4).keep, ne⟩, kb (S3.up x4).keep⟩
  by_cases hle : (n : Int) + 1 ≤ st.length
  · rw [decide_eq_true hle, if_pos rfl]
    refine X.retI (EI.mod (EI.item (j := (n : Int)) (k := st.getD n 0) (EL.of (EV.item (EV.loc S3 (v := .ref B) rfl rfl rfl rfl (by decide)) (S3.at' _ (.head _)) EI.const (by decide) (by decide) rfl) (aS.up S3.keep)) (EI.cast (EI.sub (EI.of (EV.item (EV.loc S3 (v := .ref B) rfl rfl rfl rfl (by decide)) (S3.at' _ (.head _)) EI.const (by decide) (by decide) rfl)) EI.const) (by omega)) (by omega) (by omega) (by rw [Int.toNat_natCast]; exact getD_some (by omega))) (EI.loc S3 (t := t2) (k := many) rfl rfl rfl rfl (by decide)) m0) fun h4 t4 x4 => fin x4 ⟨t4, ?_⟩
    rw [rung, if_pos (by omega)]
  · rw [decide_eq_false hle, if_neg (by decide)]
    refine X.nil (X.retI (EI.mod (EI.add (EI.add (EI.mul EI.const (EI.of (EV.item (EV.loc S3 (v := .ref B) rfl rfl rfl rfl (by decide)) (S3.at' _ (.head _)) EI.const (by decide) (by decide) rfl)) (mul_ok (by omega) (by omega))) (EI.fdiv (EI.of (EV.item (EV.loc S3 (v := .ref B) rfl rfl rfl rfl (by decide)) (S3.at' _ (.head _)) EI.const (by decide) (by decide) rfl)) EI.const (by decide) (PyProof.noPylong_small (by decide)))) EI.const) (EI.loc S3 (t := t2) (k := many) rfl rfl rfl rfl (by decide)) m0) fun h4 t4 x4 => fin x4 ⟨t4, ?_⟩)
    rw [rung, if_neg (by omega)]

/-! unpacking of a tuple -/
theorem X.unp {elts : List Expr} {k1 : Nat} {tp : Pos} {T : Addr} {items : Array Value} (hh : A.handled = none) (H : EV w A s env h e (.ref T)) (hT : IsTup h T items)
    (K : ∀ h', Ext h h' → Ev w A s h' (assignInOrder ((assignEach elts env).map (·.2)) items.toList) (fun _ h'' => X w A s env h'' rest P))
    (hn : (assignEach elts env).length = items.size) (hstar : (assignEach elts env).findIdx? (·.1) = none)
    (hs : swapsWithSole [.Tuple elts k1 tp] e pos.line env = pure false := by rfl) (hw : swappedStores [.Tuple elts k1 tp] e env = pure none := by rfl) :
    X w A s env h (.Assign [.Tuple elts k1 tp] e pos :: rest) P := X.cons fun tk =>
  Assign_Tuple (Ev.use (H h .rfl) fun v h1 tk1 ⟨y1, q⟩ => by
    subst q
    refine assign_Tuple_tuple (s := St s h1 tk1) hh (hT.keeps y1) hn hstar fun h2 he2 => ?_
    have y2 : Ext h1 h2 := fun b o e => he2 b o (Nat.ne_of_lt (Heap.lt_size e)) e
    exact K h2 (y1.trans y2) tk1) hs hw
theorem AO.nil {vs : List Value} {Q : Unit → Heap → Prop} (H : Q () h) : Ev w A s h (assignInOrder [] vs) Q := fun tk => assignInOrder_nil ⟨h, tk, rfl, H⟩
theorem AO.loc {v : Value} {vs : List Value} {ts : List (Value → Sem Unit)} {Q : Unit → Heap → Prop} (S : SS g L h m own) (hL : env.locals = L) (hk : env.scope.kind = .function) (hx : env.kindOf x = some .local)
    (K : ∀ h', SS g L h' (up m x v) own → Ev w A s h' (assignInOrder ts vs) Q) : Ev w A s h (assignInOrder (assign (.Name x px) env :: ts) (v :: vs)) Q := fun tk =>
  assignInOrder_cons (wpAny_assign_Name (Ev.use (tk := tk) (store_loc (Q := fun _ h7 => SS g L h7 (up m x v) own) S hL hk hx fun h7 S7 => S7) fun _ h7 tk7 S7 => K h7 S7 tk7))
theorem AO.cel {v : Value} {vs : List Value} {ts : List (Value → Sem Unit)} {Q : Unit → Heap → Prop} (S : SS g L h m ((c, kd) :: own)) (hcl : ∀ h, At h c kd → ∃ v, h.IsCell c v) (hk : env.scope.kind = .function) (hx : env.kindOf x = some .cell) (hc : env.cells.lookup x = some c)
    (kd' : Kd) (hkd : ∀ o : Obj, o.data = .cell (some v) → kd'.holds o)
    (K : ∀ h', SS g L h' m ((c, kd') :: own) → Ev w A s h' (assignInOrder ts vs) Q) : Ev w A s h (assignInOrder (assign (.Name x px) env :: ts) (v :: vs)) Q := fun tk =>
  assignInOrder_cons (wpAny_assign_Name (Ev.use (tk := tk) (store_cel (Q := fun _ h7 => SS g L h7 m ((c, kd') :: own)) S hcl hk hx hc fun h7 S7 => S7 _ hkd) fun _ h7 tk7 S7 => K h7 S7 tk7))
end
end Mine

namespace Mine
def chgE (form : Int) (a : Nat) (num q r : Int) (n : Nat) (ns os : List Int) (i : Nat) : Int :=
  if form = 0 then (ns.getD i 0 + num * (if i = a then 1 else 0)) % q
  else if form = 1 then ns.getD (((i : Int) - a) % n).toNat 0
  else if form = 2 then ns.getD i 0 * num % q
  else if form = 3 then ns.getD ((0 - (i : Int)) % n).toNat 0
  else if form = 4 then (ns.getD i 0 + os.getD i 0) % q
  else ns.getD i 0 * r ^ (a * i) % q
def chg (form : Int) (a : Nat) (num q r : Int) (n : Nat) (ns os : List Int) : List Int := (List.range n).map (chgE form a num q r n ns os)
def mendE (form : Int) (a : Nat) (num q r : Int) (n : Nat) (vs ts ps : List Int) (i : Nat) : Int :=
  if form = 0 then (vs.getD i 0 + num * r ^ (a * (ps.getD i 0).toNat)) % q
  else if form = 1 then vs.getD i 0 * r ^ (a * (ps.getD i 0).toNat) % q
  else if form = 2 then vs.getD i 0 * num % q
  else if form = 4 then (vs.getD i 0 + ts.getD i 0) % q
  else vs.getD (ps.getD ((if form = 3 then 0 - ps.getD i 0 else ps.getD i 0 + a) % n).toNat 0).toNat 0
def mend (form : Int) (a : Nat) (num q r : Int) (n : Nat) (vs ts ps : List Int) : List Int := (List.range n).map (mendE form a num q r n vs ts ps)
theorem chg_length {form : Int} {a : Nat} {num q r : Int} {n : Nat} {ns os : List Int} : (chg form a num q r n ns os).length = n := by simp [chg]
theorem mend_length {form : Int} {a : Nat} {num q r : Int} {n : Nat} {ns os ps : List Int} : (mend form a num q r n ns os ps).length = n := by simp [mend]
theorem mod_in {j : Int} {n : Nat} (n0 : 0 < n) : 0 ≤ j % (n : Int) ∧ j % (n : Int) < n := ⟨Int.emod_nonneg _ (by omega), Int.emod_lt_of_pos _ (by omega)⟩
section
variable {w : World} {A : Around} {s : Shared} {g h : Heap} {L c : Addr} {kd : Kd} {m : Str → Option Value} {own : List (Addr × Kd)} {env : Env} {x : Str} {px pos : Pos} {f : Addr} {e e1 e2 e3 e4 : Expr} {es : List Expr} {rest : List Stmt} {P : Flow → Heap → Prop}
set_option maxHeartbeats 1000000 in
theorem ch_call {T l lo : Addr} {ns os : List Int} {form num r q : Int} {a n : Nat} {tf ta tn t2 t3 : Tok} (R : Rd w h) (O : Ok A 1) (hT : IsTup h T #[.int form tf, .int (a : Int) ta, .int num tn]) (hA : At h l (.ints ns)) (hB : At h lo (.ints os)) (hn : ns.length = n) (hn' : os.length = n) (n0 : 0 < n) (n1 : n ≤ 32) (a1 : a < 32) (u0 : 0 ≤ num) (u1 : num < 1000) (q0 : 0 < q) (q1 : q < 1000) (r0 : 0 ≤ r) (r1 : r < 1000) (hR : Rg q ns) :
    Ev w A s h (PySem.call (.ref 113) [.ref T, .ref l, .ref lo, .int r t2, .int q t3]) (fun v h' => Ext h h' ∧ NewL h (chg form a num q r n ns os) v h') := by
  refine' enterC (f := 113) (P := NewL h (chg form a num q r n ns os)) R O ?ho ?hcd ?hb ?hl ?hc ?h1 ?h2 ?h3 ?H
  case ho => k_is
  case hcd => k_is
  case hb => exact rfl
  case hl => exact rfl
  case hc => decide +kernel
  case h1 => rfl
  case h2 => rfl
  case h3 => rfl
  intro L h1 S O1 R1
  have S : SS h L h1 _ [(L + 5, .cellU), (L + 4, .cellU), (L + 3, .cellI q), (L + 2, .cellI r), (L + 1, .cell (.ref l))] := S
  refine X.unp O1.hh (EV.loc S (v := .ref T) rfl rfl rfl rfl (by decide)) (hT.keeps S.keep) (fun h2 x2 => ?_) rfl rfl
  refine AO.loc (S.up x2) rfl rfl rfl fun h3 S3 => ?_
  refine AO.cel (SS.pull [_] S3) cell_cellU rfl rfl rfl (.cellI (a : Int)) (fun o d => ⟨_, d⟩) fun h4 S4 => ?_
  refine AO.cel (SS.pull [_] S4) cell_cellU rfl rfl rfl (.cellI num) (fun o d => ⟨_, d⟩) fun h5 S5 => AO.nil ?_
  have S5 : SS h L h5 _ [(L + 5, .cellI num), (L + 4, .cellI (a : Int)), (L + 3, .cellI q), (L + 2, .cellI r), (L + 1, .cell (.ref l))] := S5
  have c5 : ∀ {h'}, Ext h5 h' → At h' (L + 5) (.cellI num) := fun x => (S5.up x).at' _ (.head _)
  have c4 : ∀ {h'}, Ext h5 h' → At h' (L + 4) (.cellI (a : Int)) := fun x => (S5.up x).at' _ (.tail _ (.head _))
  have c3 : ∀ {h'}, Ext h5 h' → At h' (L + 3) (.cellI q) := fun x => (S5.up x).at' _ (.tail _ (.tail _ (.head _)))
  have c2 : ∀ {h'}, Ext h5 h' → At h' (L + 2) (.cellI r) := fun x => (S5.up x).at' _ (.tail _ (.tail _ (.tail _ (.head _))))
  have c1 : ∀ {h'}, Ext h5 h' → At h' (L + 1) (.cell (.ref l)) := fun x => (S5.up x).at' _ (.tail _ (.tail _ (.tail _ (.tail _ (.head _)))))
  have cA : ∀ {h'}, Ext h5 h' → At h' l (.ints ns) := fun x => hA.up (S5.keep.trans x)
  have cB : ∀ {h'}, Ext h5 h' → At h' lo (.ints os) := fun x => hB.up (S5.keep.trans x)
  have cR : ∀ {h'}, Ext h5 h' → Rd w h' := fun x => R.up (S5.keep.trans x)
  have out : ∀ {h6 : Heap} {v : Value} {h7 : Heap}, Ext h5 h6 → Ext h6 h7 → (∃ l, v = .ref l ∧ At h7 l (.ints (chg form a num q r n ns os)) ∧ h6.get? l = none) → Ext h h7 ∧ NewL h (chg form a num q r n ns os) v h7 := fun x6 x7 ⟨l', qv, hA', hn'⟩ => ⟨(S5.keep.trans x6).trans x7, l', qv, hA', (S5.keep.trans x6).none hn'⟩
  clear S S3 S4 hT
  refine X.if (ET.eq (EI.loc S5 up_self rfl rfl rfl (by decide)) EI.const) fun h6 x6 => ?_
  have S6 := S5.up x6
  by_cases f0 : form = 0
  · rw [decide_eq_true f0, if_pos rfl]
    refine X.ret (E1.comp (cl := [(Str.ofString "p", L + 3), (Str.ofString "number", L + 5), (Str.ofString "at", L + 4)]) (ns := chg form a num q r n ns os) (Src.enum O1.hh (by decide) (EV.bui (cR x6) nm_enum bo_enum (by decide) rfl rfl rfl rfl (by decide)) (EL.of (EV.cel (c1 x6) rfl rfl rfl (by decide)) (cA x6)) rfl) (fun C => ⟨rfl, rfl⟩) (by rw [chg_length, hn]) ?_ rfl (by decide) rfl (by decide) (by rw [hn, sizeLine_eq]; omega)) fun v h7 x7 p => out x6 x7 p
    rintro i C h' k x hk ⟨m', k0, t, u, hn', h0, m1, m2⟩
    have x := x6.trans x
    refine EI.cast (EI.mod (EI.add (EI.of (EV.ns hn' m2 rfl rfl (by decide))) (EI.mul (EI.cel (c5 x) rfl rfl rfl (by decide)) (EI.intB (EV.bui (cR x) nm_int bo_int (by decide) rfl rfl rfl rfl (by decide)) (EV.eq (EI.of (EV.ns hn' m1 rfl rfl (by decide))) (EI.cel (c4 x) rfl rfl rfl (by decide))) rfl) (mul_ok (by omega) (by omega)))) (EI.cel (c3 x) rfl rfl rfl (by decide)) q0) ?_
    rw [← (rg_some hk).2, chgE, if_pos f0, getD_of h0]
    congr 3
    by_cases ia : i = a
    · rw [if_pos ia, decide_eq_true (by omega), if_pos rfl]
    · rw [if_neg ia, decide_eq_false (by omega), if_neg (by decide)]
  rw [decide_eq_false f0, if_neg (by decide)]
  refine X.nil (X.if (ET.eq (EI.loc S6 up_self rfl rfl rfl (by decide)) EI.const) fun h7 x7 => ?_)
  have x7 := x6.trans x7
  have S7 := S5.up x7
  by_cases f1 : form = 1
  · rw [decide_eq_true f1, if_pos rfl]
    refine X.ret (E1.comp (cl := [(Str.ofString "row", L + 1), (Str.ofString "at", L + 4)]) (ns := chg form a num q r n ns os) (n := n) (Src.range O1.hh (ER.one (EV.bui (cR x7) nm_range bo_range (by decide) rfl rfl rfl rfl (by decide)) (EI.cast (EI.len (EV.bui (cR x7) nm_len bo_len (by decide) rfl rfl rfl rfl (by decide)) (EL.of (EV.cel (c1 x7) rfl rfl rfl (by decide)) (cA x7)) (by omega) rfl) (show _ = (n : Int) * 1 by omega)) rfl) (small_step (by omega) (by omega) (by omega) (by omega)) (rangeSize_step (by omega))) (fun C => rfl) chg_length ?_ rfl (by decide) rfl (by decide) (by rw [sizeLine_eq]; omega)) fun v h8 x8 p => out x7 x8 p
    rintro i C h' k x hk ⟨m', t, hn', m1⟩
    have x := x7.trans x
    have mi := mod_in (j := (i : Int) - a) n0
    refine EI.item (j := ((i : Int) - a) % (n : Int)) (EL.of (EV.cel (c1 x) rfl rfl rfl (by decide)) (cA x)) (EI.cast (EI.mod (EI.sub (EI.of (EV.ns hn' m1 rfl rfl (by decide))) (EI.cel (c4 x) rfl rfl rfl (by decide))) (EI.len (EV.bui (cR x) nm_len bo_len (by decide) rfl rfl rfl rfl (by decide)) (EL.of (EV.cel (c1 x) rfl rfl rfl (by decide)) (cA x)) (by omega) rfl) (by omega)) (by rw [hn]; congr 1; omega)) (by omega) (by omega) ?_
    rw [← (rg_some hk).2, chgE, if_neg f0, if_pos f1]
    exact getD_some (by omega)
  rw [decide_eq_false f1, if_neg (by decide)]
  refine X.nil (X.if (ET.eq (EI.loc S7 up_self rfl rfl rfl (by decide)) EI.const) fun h8 x8 => ?_)
  have x8 := x7.trans x8
  have S8 := S5.up x8
  by_cases f2 : form = 2
  · rw [decide_eq_true f2, if_pos rfl]
    refine X.ret (E1.comp (cl := [(Str.ofString "p", L + 3), (Str.ofString "number", L + 5)]) (ns := chg form a num q r n ns os) (Src.list O1.hh (EL.of (EV.cel (c1 x8) rfl rfl rfl (by decide)) (cA x8))) (fun C => rfl) (by rw [chg_length, hn]) ?_ rfl (by decide) rfl (by decide) (by rw [hn, sizeLine_eq]; omega)) fun v h9 x9 p => out x8 x9 p
    rintro i C h' k x hk ⟨m', k0, t, hn', h0, m1⟩
    have x := x8.trans x
    refine EI.cast (EI.mod (EI.mul (EI.of (EV.ns hn' m1 rfl rfl (by decide))) (EI.cel (c5 x) rfl rfl rfl (by decide)) (mul_okr (by omega) (by omega))) (EI.cel (c3 x) rfl rfl rfl (by decide)) q0) ?_
    rw [← (rg_some hk).2, chgE, if_neg f0, if_neg f1, if_pos f2, getD_of h0]
  rw [decide_eq_false f2, if_neg (by decide)]
  refine X.nil (X.if (ET.eq (EI.loc S8 up_self rfl rfl rfl (by decide)) EI.const) fun h9 x9 => ?_)
  have x9 := x8.trans x9
  have S9 := S5.up x9
  by_cases f3 : form = 3
  · rw [decide_eq_true f3, if_pos rfl]
    refine X.ret (E1.comp (cl := [(Str.ofString "row", L + 1)]) (ns := chg form a num q r n ns os) (n := n) (Src.range O1.hh (ER.one (EV.bui (cR x9) nm_range bo_range (by decide) rfl rfl rfl rfl (by decide)) (EI.cast (EI.len (EV.bui (cR x9) nm_len bo_len (by decide) rfl rfl rfl rfl (by decide)) (EL.of (EV.cel (c1 x9) rfl rfl rfl (by decide)) (cA x9)) (by omega) rfl) (show _ = (n : Int) * 1 by omega)) rfl) (small_step (by omega) (by omega) (by omega) (by omega)) (rangeSize_step (by omega))) (fun C => rfl) chg_length ?_ rfl (by decide) rfl (by decide) (by rw [sizeLine_eq]; omega)) fun v h8 x8 p => out x9 x8 p
    rintro i C h' k x hk ⟨m', t, hn', m1⟩
    have x := x9.trans x
    have mi := mod_in (j := 0 - (i : Int)) n0
    refine EI.item (j := (0 - (i : Int)) % (n : Int)) (EL.of (EV.cel (c1 x) rfl rfl rfl (by decide)) (cA x)) (EI.cast (EI.mod (EI.sub EI.const (EI.of (EV.ns hn' m1 rfl rfl (by decide)))) (EI.len (EV.bui (cR x) nm_len bo_len (by decide) rfl rfl rfl rfl (by decide)) (EL.of (EV.cel (c1 x) rfl rfl rfl (by decide)) (cA x)) (by omega) rfl) (by omega)) (by rw [hn]; congr 1; omega)) (by omega) (by omega) ?_
    rw [← (rg_some hk).2, chgE, if_neg f0, if_neg f1, if_neg f2, if_pos f3]
    exact getD_some (by omega)
  rw [decide_eq_false f3, if_neg (by decide)]
  refine X.nil (X.if (ET.eq (EI.loc S9 up_self rfl rfl rfl (by decide)) EI.const) fun h10 x10 => ?_)
  have x10 := x9.trans x10
  have S10 := S5.up x10
  by_cases f4 : form = 4
  · rw [decide_eq_true f4, if_pos rfl]
    refine X.ret (E1.comp (cl := [(Str.ofString "p", L + 3)]) (ns := chg form a num q r n ns os) (Src.zip O1.hh (by decide) (EV.bui (cR x10) nm_zip bo_zip (by decide) rfl rfl rfl rfl (by decide)) (EL.of (EV.cel (c1 x10) rfl rfl rfl (by decide)) (cA x10)) (EL.of (EV.loc S10 (v := .ref lo) (up_ne (by decide) rfl) rfl rfl rfl (by decide)) (cB x10)) (by rw [hn, hn']) rfl) (fun C => ⟨rfl, rfl⟩) (by rw [chg_length, hn]) ?_ rfl (by decide) rfl (by decide) (by rw [hn, sizeLine_eq]; omega)) fun v h8 x8 p => out x10 x8 p
    rintro i C h' k x hk ⟨m', k0, k1, t, u, hn', h0, h1, m1, m2⟩
    have x := x10.trans x
    refine EI.cast (EI.mod (EI.add (EI.of (EV.ns hn' m1 rfl rfl (by decide))) (EI.of (EV.ns hn' m2 rfl rfl (by decide)))) (EI.cel (c3 x) rfl rfl rfl (by decide)) q0) ?_
    rw [← (rg_some hk).2, chgE, if_neg f0, if_neg f1, if_neg f2, if_neg f3, if_pos f4, getD_of h0, getD_of h1]
  rw [decide_eq_false f4, if_neg (by decide)]
  refine X.nil (X.ret (E1.comp (cl := [(Str.ofString "root", L + 2), (Str.ofString "p", L + 3), (Str.ofString "at", L + 4)]) (ns := chg form a num q r n ns os) (Src.enum O1.hh (by decide) (EV.bui (cR x10) nm_enum bo_enum (by decide) rfl rfl rfl rfl (by decide)) (EL.of (EV.cel (c1 x10) rfl rfl rfl (by decide)) (cA x10)) rfl) (fun C => ⟨rfl, rfl⟩) (by rw [chg_length, hn]) ?_ rfl (by decide) rfl (by decide) (by rw [hn, sizeLine_eq]; omega)) fun v h7 x7 p => out x10 x7 p)
  rintro i C h' k x hk ⟨m', k0, t, u, hn', h0, m1, m2⟩
  have x := x10.trans x
  have kr := hR k0 (List.mem_of_getElem? h0)
  have ilt := (rg_some hk).1
  have ai : a * i ≤ 32 * 32 := Nat.mul_le_mul (by omega) (by omega)
  refine EI.cast (EI.mod (EI.mul (EI.of (EV.ns hn' m2 rfl rfl (by decide))) (EI.pow (b := ((a * i : Nat) : Int)) (EI.cel (c2 x) rfl rfl rfl (by decide)) (EI.cast (EI.mul (EI.cel (c4 x) rfl rfl rfl (by decide)) (EI.of (EV.ns hn' m1 rfl rfl (by decide))) (mul_ok (by omega) (by omega))) (by push_cast; rfl)) (by omega) (by omega) (by omega)) (mul_ok (by omega) (by omega))) (EI.cel (c3 x) rfl rfl rfl (by decide)) q0) ?_
  rw [← (rg_some hk).2, chgE, if_neg f0, if_neg f1, if_neg f2, if_neg f3, if_neg f4, getD_of h0, Int.toNat_natCast]
end
end Mine

namespace Mine
section
variable {w : World} {A : Around} {s : Shared} {g h : Heap} {L c : Addr} {kd : Kd} {m : Str → Option Value} {own : List (Addr × Kd)} {env : Env} {x : Str} {px pos : Pos} {f : Addr} {e e1 e2 e3 e4 : Expr} {es : List Expr} {rest : List Stmt} {P : Flow → Heap → Prop}
set_option maxHeartbeats 1000000 in
theorem me_call {T lv lt lp : Addr} {vs ts ps : List Int} {form num r q : Int} {a n : Nat} {tf ta tn t2 t3 : Tok} (R : Rd w h) (O : Ok A 1) (hT : IsTup h T #[.int form tf, .int (a : Int) ta, .int num tn]) (hA : At h lv (.ints vs)) (hB : At h lt (.ints ts)) (hP : At h lp (.ints ps))
    (hn : vs.length = n) (hn' : ts.length = n) (hn'' : ps.length = n) (n0 : 0 < n) (n1 : n ≤ 32) (a1 : a < 32) (u0 : 0 ≤ num) (u1 : num < 1000) (q0 : 0 < q) (q1 : q < 1000) (r0 : 0 ≤ r) (r1 : r < 1000) (hR : Rg q vs) (hRp : Rg (n : Int) ps) :
    Ev w A s h (PySem.call (.ref 118) [.ref T, .ref lv, .ref lt, .ref lp, .int r t2, .int q t3]) (fun v h' => Ext h h' ∧ NewL h (mend form a num q r n vs ts ps) v h') := by
  refine' enterC (f := 118) (P := NewL h (mend form a num q r n vs ts ps)) R O ?ho ?hcd ?hb ?hl ?hc ?h1 ?h2 ?h3 ?H
  case ho => k_is
  case hcd => k_is
  case hb => exact rfl
  case hl => exact rfl
  case hc => decide +kernel
  case h1 => rfl
  case h2 => rfl
  case h3 => rfl
  intro L h1 S O1 R1
  have S : SS h L h1 _ [(L + 7, .cellU), (L + 6, .cellU), (L + 5, .cellU), (L + 4, .cellI q), (L + 3, .cellI r), (L + 2, .cell (.ref lp)), (L + 1, .cell (.ref lv))] := S
  refine X.unp O1.hh (EV.loc S (v := .ref T) rfl rfl rfl rfl (by decide)) (hT.keeps S.keep) (fun h2 x2 => ?_) rfl rfl
  refine AO.cel (SS.pull [_, _] (S.up x2)) cell_cellU rfl rfl rfl (.cellI form) (fun o d => ⟨_, d⟩) fun h3 S3 => ?_
  refine AO.cel (SS.pull [_, _] S3) cell_cellU rfl rfl rfl (.cellI (a : Int)) (fun o d => ⟨_, d⟩) fun h4 S4 => ?_
  refine AO.cel (SS.pull [_, _] S4) cell_cellU rfl rfl rfl (.cellI num) (fun o d => ⟨_, d⟩) fun h5 S5 => AO.nil ?_
  have S5 : SS h L h5 _ [(L + 7, .cellI num), (L + 6, .cellI (a : Int)), (L + 5, .cellI form), (L + 4, .cellI q), (L + 3, .cellI r), (L + 2, .cell (.ref lp)), (L + 1, .cell (.ref lv))] := S5
  have c7 : ∀ {h'}, Ext h5 h' → At h' (L + 7) (.cellI num) := fun x => (S5.up x).at' _ (.head _)
  have c6 : ∀ {h'}, Ext h5 h' → At h' (L + 6) (.cellI (a : Int)) := fun x => (S5.up x).at' _ (.tail _ (.head _))
  have c5 : ∀ {h'}, Ext h5 h' → At h' (L + 5) (.cellI form) := fun x => (S5.up x).at' _ (.tail _ (.tail _ (.head _)))
  have c4 : ∀ {h'}, Ext h5 h' → At h' (L + 4) (.cellI q) := fun x => (S5.up x).at' _ (.tail _ (.tail _ (.tail _ (.head _))))
  have c3 : ∀ {h'}, Ext h5 h' → At h' (L + 3) (.cellI r) := fun x => (S5.up x).at' _ (.tail _ (.tail _ (.tail _ (.tail _ (.head _)))))
  have c2 : ∀ {h'}, Ext h5 h' → At h' (L + 2) (.cell (.ref lp)) := fun x => (S5.up x).at' _ (.tail _ (.tail _ (.tail _ (.tail _ (.tail _ (.head _))))))
  have c1 : ∀ {h'}, Ext h5 h' → At h' (L + 1) (.cell (.ref lv)) := fun x => (S5.up x).at' _ (.tail _ (.tail _ (.tail _ (.tail _ (.tail _ (.tail _ (.head _)))))))
  have cA : ∀ {h'}, Ext h5 h' → At h' lv (.ints vs) := fun x => hA.up (S5.keep.trans x)
  have cB : ∀ {h'}, Ext h5 h' → At h' lt (.ints ts) := fun x => hB.up (S5.keep.trans x)
  have cP : ∀ {h'}, Ext h5 h' → At h' lp (.ints ps) := fun x => hP.up (S5.keep.trans x)
  have cR : ∀ {h'}, Ext h5 h' → Rd w h' := fun x => R.up (S5.keep.trans x)
  have out : ∀ {h6 : Heap} {v : Value} {h7 : Heap}, Ext h5 h6 → Ext h6 h7 → (∃ l, v = .ref l ∧ At h7 l (.ints (mend form a num q r n vs ts ps)) ∧ h6.get? l = none) → Ext h h7 ∧ NewL h (mend form a num q r n vs ts ps) v h7 := fun x6 x7 ⟨l', qv, hA', hn'⟩ => ⟨(S5.keep.trans x6).trans x7, l', qv, hA', (S5.keep.trans x6).none hn'⟩
  have pw : ∀ {k1 : Int} {i : Nat}, ps[i]? = some k1 → (a : Int) * k1 = ((a * k1.toNat : Nat) : Int) ∧ a * k1.toNat ≤ 32 * 32 ∧ 0 ≤ k1 ∧ k1 < n := fun {k1 i} hk => by
    have kr := hRp k1 (List.mem_of_getElem? hk)
    refine ⟨?_, Nat.mul_le_mul (by omega) (by omega), kr.1, kr.2⟩
    push_cast
    rw [Int.toNat_of_nonneg kr.1]
  clear S S3 S4 hT
  refine X.if (ET.eq (EI.cel (c5 .rfl) rfl rfl rfl (by decide)) EI.const) fun h6 x6 => ?_
  have S6 := S5.up x6
  by_cases f0 : form = 0
  · rw [decide_eq_true f0, if_pos rfl]
    refine X.ret (E1.comp (cl := [(Str.ofString "root", L + 3), (Str.ofString "p", L + 4), (Str.ofString "number", L + 7), (Str.ofString "at", L + 6)]) (ns := mend form a num q r n vs ts ps) (Src.zip O1.hh (by decide) (EV.bui (cR x6) nm_zip bo_zip (by decide) rfl rfl rfl rfl (by decide)) (EL.of (EV.cel (c1 x6) rfl rfl rfl (by decide)) (cA x6)) (EL.of (EV.cel (c2 x6) rfl rfl rfl (by decide)) (cP x6)) (by rw [hn, hn'']) rfl) (fun C => ⟨rfl, rfl⟩) (by rw [mend_length, hn]) ?_ rfl (by decide) rfl (by decide) (by rw [hn, sizeLine_eq]; omega)) fun v h7 x7 p => out x6 x7 p
    rintro i C h' k x hk ⟨m', k0, k1, t, u, hn', h0, h1, m1, m2⟩
    have x := x6.trans x
    obtain ⟨p1, p2, p3, p4⟩ := pw h1
    refine EI.cast (EI.mod (EI.add (EI.of (EV.ns hn' m1 rfl rfl (by decide))) (EI.mul (EI.cel (c7 x) rfl rfl rfl (by decide)) (EI.pow (b := ((a * k1.toNat : Nat) : Int)) (EI.cel (c3 x) rfl rfl rfl (by decide)) (EI.cast (EI.mul (EI.cel (c6 x) rfl rfl rfl (by decide)) (EI.of (EV.ns hn' m2 rfl rfl (by decide))) (mul_ok (by omega) (by omega))) p1) (by omega) (by omega) (by omega)) (mul_ok (by omega) (by omega)))) (EI.cel (c4 x) rfl rfl rfl (by decide)) q0) ?_
    rw [← (rg_some hk).2, mendE, if_pos f0, getD_of h0, getD_of h1, Int.toNat_natCast]
  rw [decide_eq_false f0, if_neg (by decide)]
  refine X.nil (X.if (ET.eq (EI.cel (c5 x6) rfl rfl rfl (by decide)) EI.const) fun h7 x7 => ?_)
  have x7 := x6.trans x7
  have S7 := S5.up x7
  by_cases f1 : form = 1
  · rw [decide_eq_true f1, if_pos rfl]
    refine X.ret (E1.comp (cl := [(Str.ofString "root", L + 3), (Str.ofString "p", L + 4), (Str.ofString "at", L + 6)]) (ns := mend form a num q r n vs ts ps) (Src.zip O1.hh (by decide) (EV.bui (cR x7) nm_zip bo_zip (by decide) rfl rfl rfl rfl (by decide)) (EL.of (EV.cel (c1 x7) rfl rfl rfl (by decide)) (cA x7)) (EL.of (EV.cel (c2 x7) rfl rfl rfl (by decide)) (cP x7)) (by rw [hn, hn'']) rfl) (fun C => ⟨rfl, rfl⟩) (by rw [mend_length, hn]) ?_ rfl (by decide) rfl (by decide) (by rw [hn, sizeLine_eq]; omega)) fun v h8 x8 p => out x7 x8 p
    rintro i C h' k x hk ⟨m', k0, k1, t, u, hn', h0, h1, m1, m2⟩
    have x := x7.trans x
    obtain ⟨p1, p2, p3, p4⟩ := pw h1
    have kr := hR k0 (List.mem_of_getElem? h0)
    refine EI.cast (EI.mod (EI.mul (EI.of (EV.ns hn' m1 rfl rfl (by decide))) (EI.pow (b := ((a * k1.toNat : Nat) : Int)) (EI.cel (c3 x) rfl rfl rfl (by decide)) (EI.cast (EI.mul (EI.cel (c6 x) rfl rfl rfl (by decide)) (EI.of (EV.ns hn' m2 rfl rfl (by decide))) (mul_ok (by omega) (by omega))) p1) (by omega) (by omega) (by omega)) (mul_ok (by omega) (by omega))) (EI.cel (c4 x) rfl rfl rfl (by decide)) q0) ?_
    rw [← (rg_some hk).2, mendE, if_neg f0, if_pos f1, getD_of h0, getD_of h1, Int.toNat_natCast]
  rw [decide_eq_false f1, if_neg (by decide)]
  refine X.nil (X.if (ET.eq (EI.cel (c5 x7) rfl rfl rfl (by decide)) EI.const) fun h8 x8 => ?_)
  have x8 := x7.trans x8
  have S8 := S5.up x8
  by_cases f2 : form = 2
  · rw [decide_eq_true f2, if_pos rfl]
    refine X.ret (E1.comp (cl := [(Str.ofString "p", L + 4), (Str.ofString "number", L + 7)]) (ns := mend form a num q r n vs ts ps) (Src.list O1.hh (EL.of (EV.cel (c1 x8) rfl rfl rfl (by decide)) (cA x8))) (fun C => rfl) (by rw [mend_length, hn]) ?_ rfl (by decide) rfl (by decide) (by rw [hn, sizeLine_eq]; omega)) fun v h9 x9 p => out x8 x9 p
    rintro i C h' k x hk ⟨m', k0, t, hn', h0, m1⟩
    have x := x8.trans x
    refine EI.cast (EI.mod (EI.mul (EI.of (EV.ns hn' m1 rfl rfl (by decide))) (EI.cel (c7 x) rfl rfl rfl (by decide)) (mul_okr (by omega) (by omega))) (EI.cel (c4 x) rfl rfl rfl (by decide)) q0) ?_
    rw [← (rg_some hk).2, mendE, if_neg f0, if_neg f1, if_pos f2, getD_of h0]
  rw [decide_eq_false f2, if_neg (by decide)]
  refine X.nil (X.if (ET.eq (EI.cel (c5 x8) rfl rfl rfl (by decide)) EI.const) fun h10 x10 => ?_)
  have x10 := x8.trans x10
  have S10 := S5.up x10
  by_cases f4 : form = 4
  · rw [decide_eq_true f4, if_pos rfl]
    refine X.ret (E1.comp (cl := [(Str.ofString "p", L + 4)]) (ns := mend form a num q r n vs ts ps) (Src.zip O1.hh (by decide) (EV.bui (cR x10) nm_zip bo_zip (by decide) rfl rfl rfl rfl (by decide)) (EL.of (EV.cel (c1 x10) rfl rfl rfl (by decide)) (cA x10)) (EL.of (EV.loc S10 (v := .ref lt) rfl rfl rfl rfl (by decide)) (cB x10)) (by rw [hn, hn']) rfl) (fun C => ⟨rfl, rfl⟩) (by rw [mend_length, hn]) ?_ rfl (by decide) rfl (by decide) (by rw [hn, sizeLine_eq]; omega)) fun v h8 x8 p => out x10 x8 p
    rintro i C h' k x hk ⟨m', k0, k1, t, u, hn', h0, h1, m1, m2⟩
    have x := x10.trans x
    refine EI.cast (EI.mod (EI.add (EI.of (EV.ns hn' m1 rfl rfl (by decide))) (EI.of (EV.ns hn' m2 rfl rfl (by decide)))) (EI.cel (c4 x) rfl rfl rfl (by decide)) q0) ?_
    rw [← (rg_some hk).2, mendE, if_neg f0, if_neg f1, if_neg f2, if_pos f4, getD_of h0, getD_of h1]
  rw [decide_eq_false f4, if_neg (by decide)]
  refine X.nil (X.ret (E1.comp (cl := [(Str.ofString "values", L + 1), (Str.ofString "places", L + 2), (Str.ofString "form", L + 5), (Str.ofString "at", L + 6)]) (ns := mend form a num q r n vs ts ps) (Src.list O1.hh (EL.of (EV.cel (c2 x10) rfl rfl rfl (by decide)) (cP x10))) (fun C => rfl) (by rw [mend_length, hn'']) ?_ rfl (by decide) rfl (by decide) (by rw [hn'', sizeLine_eq]; omega)) fun v h7 x7 p => out x10 x7 p)
  rintro i C h' k x hk ⟨m', k0, t, hn3, h0, m1⟩
  have x := x10.trans x
  have mi := mod_in (j := if decide (form = 3) then 0 - k0 else k0 + a) n0
  have pj : ps[((if decide (form = 3) then 0 - k0 else k0 + a) % (n : Int)).toNat]? = some (ps.getD ((if decide (form = 3) then 0 - k0 else k0 + a) % (n : Int)).toNat 0) := getD_some (by omega)
  have pr := hRp _ (List.mem_of_getElem? pj)
  refine EI.item (j := ps.getD ((if decide (form = 3) then 0 - k0 else k0 + a) % (n : Int)).toNat 0) (EL.of (EV.cel (c1 x) rfl rfl rfl (by decide)) (cA x)) (EI.item (j := (if decide (form = 3) then 0 - k0 else k0 + a) % (n : Int)) (EL.of (EV.cel (c2 x) rfl rfl rfl (by decide)) (cP x)) (EI.cast (EI.mod (EI.ite (b := decide (form = 3)) (k1 := 0 - k0) (k2 := k0 + a) (ET.eq (EI.cel (c5 x) rfl rfl rfl (by decide)) EI.const) (fun _ => EI.sub EI.const (EI.of (EV.ns hn3 m1 rfl rfl (by decide)))) (fun _ => EI.add (EI.of (EV.ns hn3 m1 rfl rfl (by decide))) (EI.cel (c6 x) rfl rfl rfl (by decide)))) (EI.len (EV.bui (cR x) nm_len bo_len (by decide) rfl rfl rfl rfl (by decide)) (EL.of (EV.cel (c1 x) rfl rfl rfl (by decide)) (cA x)) (by omega) rfl) (by omega)) (by rw [hn])) (by omega) (by omega) pj) pr.1 (by omega) ?_
  rw [← (rg_some hk).2, mendE, if_neg f0, if_neg f1, if_neg f2, if_neg f4, getD_of h0]
  rw [show (if decide (form = 3) = true then 0 - k0 else k0 + (a : Int)) = (if form = 3 then 0 - k0 else k0 + (a : Int)) from by simp] at pr ⊢
  exact getD_some (by omega)

end
end Mine

namespace Mine
section
variable {w : World} {A : Around} {s : Shared} {g h : Heap} {L c : Addr} {kd : Kd} {m : Str → Option Value} {own : List (Addr × Kd)} {env : Env} {x : Str} {px pos : Pos} {f : Addr} {e e1 e2 e3 e4 e5 e6 : Expr} {es : List Expr} {rest body : List Stmt} {P : Flow → Heap → Prop}
theorem EL.ch {T : Addr} {ns os : List Int} {form num r q : Int} {a n : Nat} {tf ta tn : Tok} (R : Rd w h) (O : Ok A 1) (F : EV w A s env h (.Name x px) (.ref 113)) (HT : EV w A s env h e1 (.ref T)) (hT : IsTup h T #[.int form tf, .int (a : Int) ta, .int num tn]) (H2 : EL w A s env h e2 ns) (H3 : EL w A s env h e3 os) (H4 : EI w A s env h e4 r) (H5 : EI w A s env h e5 q)
    (hn : ns.length = n) (hn' : os.length = n) (n0 : 0 < n) (n1 : n ≤ 32) (a1 : a < 32) (u0 : 0 ≤ num) (u1 : num < 1000) (q0 : 0 < q) (q1 : q < 1000) (r0 : 0 ≤ r) (r1 : r < 1000) (hR : Rg q ns)
    (hs : backTo pos (starEach [e1, e2, e3, e4, e5] env) = [e1, e2, e3, e4, e5].map fun e => (false, eval e env)) : ELn w A s env h (.Call (.Name x px) [e1, e2, e3, e4, e5] [] pos) (chg form a num q r n ns os) :=
  E1.def R F fn_ch (.cons HT (.cons H2 (.cons H3 (.cons H4 (.one H5))))) (fun h1 h2 vs h3 y1 y2 y3 p => by
    obtain ⟨v1, i1, vs1, q1, z1, r1, z1', v2, i2, vs2, q2, z2, ⟨l2, r2, a2⟩, z2', v3, i3, vs3, q3, z3, ⟨l3, r3, a3⟩, z3', v4, i4, vs4, q4, z4, ⟨t4, r4⟩, z4', v5, i5, q5, z5, ⟨t5, r5⟩, z5'⟩ := p
    subst q1 q2 q3 q4 q5 r1 r2 r3 r4 r5
    exact (ch_call (R.up (y1.trans (y2.trans y3))) O (hT.keeps (y1.trans (y2.trans y3))) (a2.up z2') (a3.up z3') hn hn' n0 n1 a1 u0 u1 q0 (by assumption) r0 (by assumption) hR).mono fun v h' ⟨a, l, b, c, d⟩ => ⟨a, l, b, c, (y2.trans y3).none d⟩) hs
theorem EL.me {T : Addr} {vs ts ps : List Int} {form num r q : Int} {a n : Nat} {tf ta tn : Tok} (R : Rd w h) (O : Ok A 1) (F : EV w A s env h (.Name x px) (.ref 118)) (HT : EV w A s env h e1 (.ref T)) (hT : IsTup h T #[.int form tf, .int (a : Int) ta, .int num tn]) (H2 : EL w A s env h e2 vs) (H3 : EL w A s env h e3 ts) (H6 : EL w A s env h e6 ps) (H4 : EI w A s env h e4 r) (H5 : EI w A s env h e5 q)
    (hn : vs.length = n) (hn' : ts.length = n) (hn'' : ps.length = n) (n0 : 0 < n) (n1 : n ≤ 32) (a1 : a < 32) (u0 : 0 ≤ num) (u1 : num < 1000) (q0 : 0 < q) (q1 : q < 1000) (r0 : 0 ≤ r) (r1 : r < 1000) (hR : Rg q vs) (hRp : Rg (n : Int) ps)
    (hs : backTo pos (starEach [e1, e2, e3, e6, e4, e5] env) = [e1, e2, e3, e6, e4, e5].map fun e => (false, eval e env)) : ELn w A s env h (.Call (.Name x px) [e1, e2, e3, e6, e4, e5] [] pos) (mend form a num q r n vs ts ps) :=
  E1.def R F fn_me (.cons HT (.cons H2 (.cons H3 (.cons H6 (.cons H4 (.one H5)))))) (fun h1 h2 us h3 y1 y2 y3 p => by
    obtain ⟨v1, i1, vs1, q1, z1, r1, z1', v2, i2, vs2, q2, z2, ⟨l2, r2, a2⟩, z2', v3, i3, vs3, q3, z3, ⟨l3, r3, a3⟩, z3', v6, i6, vs6, q6, z6, ⟨l6, r6, a6⟩, z6', v4, i4, vs4, q4, z4, ⟨t4, r4⟩, z4', v5, i5, q5, z5, ⟨t5, r5⟩, z5'⟩ := p
    subst q1 q2 q3 q4 q5 q6 r1 r2 r3 r4 r5 r6
    exact (me_call (R.up (y1.trans (y2.trans y3))) O (hT.keeps (y1.trans (y2.trans y3))) (a2.up z2') (a3.up z3') (a6.up z6') hn hn' hn'' n0 n1 a1 u0 u1 q0 (by assumption) r0 (by assumption) hR hRp).mono fun v h' ⟨a, l, b, c, d⟩ => ⟨a, l, b, c, (y2.trans y3).none d⟩) hs
theorem EL.cv {as bs : List Int} {b q z : Int} {K : Nat} (R : Rd w h) (O : Ok A 3) (F : EV w A s env h (.Name x px) (.ref 101)) (H1 : EL w A s env h e1 as) (H2 : EL w A s env h e2 bs) (H3 : EI w A s env h e3 z) (H4 : EI w A s env h e4 q) (hz : z = ((2 ^ K : Nat) : Int)) (ha : as.length = 2 ^ K) (hb : bs.length = 2 ^ K) (K0 : 0 < K) (hK : K ≤ 5) (q0 : 1 < q) (q1 : q < 1000)
    (hg : rtGo 64 q 2 = some b) (hm : (q - 1) % ((2 ^ K : Nat) : Int) = 0)
    (hs : backTo pos (starEach [e1, e2, e3, e4] env) = [e1, e2, e3, e4].map fun e => (false, eval e env)) : ELn w A s env h (.Call (.Name x px) [e1, e2, e3, e4] [] pos) (cv q (b ^ ((q - 1) / ((2 ^ K : Nat) : Int)).toNat % q) K as bs) := by
  subst hz
  exact E1.def R F fn_cv (.cons H1 (.cons H2 (.cons H3 (.one H4)))) (fun h1 h2 us h3 y1 y2 y3 p => by
    obtain ⟨v2, i2, vs2, q2, z2, ⟨l2, r2, a2⟩, z2', v3, i3, vs3, q3, z3, ⟨l3, r3, a3⟩, z3', v4, i4, vs4, q4, z4, ⟨t4, r4⟩, z4', v5, i5, q5, z5, ⟨t5, r5⟩, z5'⟩ := p
    subst q2 q3 q4 q5 r2 r3 r4 r5
    exact (cv_call (R.up (y1.trans (y2.trans y3))) O (a2.up z2') (a3.up z3') ha hb K0 hK q0 (by assumption) hg hm).mono fun v h' ⟨a, l, b, c, d⟩ => ⟨a, l, b, c, (y2.trans y3).none d⟩) hs
end
end Mine

namespace Mine
section
variable {w : World} {A : Around} {s : Shared} {g h h' : Heap} {L c a : Addr} {kd kd' : Kd} {m : Str → Option Value} {own : List (Addr × Kd)} {env : Env} {x y : Str} {px py pos tp : Pos} {f : Addr} {e e1 e2 e3 e4 e5 e6 : Expr} {es : List Expr} {rest body : List Stmt} {P : Flow → Heap → Prop}
theorem SS.weak (S : SS g L h m ((a, kd) :: own)) (k : ∀ h, At h a kd → At h a kd') : SS g L h m ((a, kd') :: own) :=
  ⟨S.ns, S.keep, S.above, fun p hp => by rcases List.mem_cons.mp hp with rfl | hp; exact k _ (S.at' _ (.head _)); exact S.at' p (.tail _ hp),
    fun p hp => by rcases List.mem_cons.mp hp with rfl | hp; exact S.fresh (a, kd) (.head _); exact S.fresh p (.tail _ hp), S.dis⟩
theorem EX.up {Q : Value → Heap → Prop} (H : EX w A s env h e Q) (x : Ext h h') : EX w A s env h' e Q := fun h1 y => H h1 (x.trans y)

/-! the bell is rung -/
/-- a state whose bell was rung so often -/
abbrev BS (g : Heap) (L : Addr) (m : Str → Option Value) (B sl : Addr) (st : List Int) (own : List (Addr × Kd)) (n : Nat) (h : Heap) : Prop := ∃ t, SS g L h m ((B, .vals [.int (n : Int) t, .ref sl]) :: (sl, .ints st) :: own)
theorem BS.up {B sl : Addr} {st : List Int} {n : Nat} (S : BS g L m B sl st own n h) (x : Ext h h') : BS g L m B sl st own n h' := let ⟨t, S⟩ := S; ⟨t, S.up x⟩
theorem ru_ev {B sl : Addr} {st : List Int} {n : Nat} {many : Int} (R : Rd w g) (O : Ok A 1) (S : BS g L m B sl st own n h) (F : EV w A s env h (.Name x px) (.ref 108)) (H1 : EV w A s env h e1 (.ref B)) (H2 : EI w A s env h e2 many) (hst : st.length ≤ 100) (hn : n < 1000) (m0 : 0 < many)
    (hs : backTo pos (starEach [e1, e2] env) = [e1, e2].map fun e => (false, eval e env)) : Ev w A s h (eval (.Call (.Name x px) [e1, e2] [] pos) env) (fun v h' => ((∃ t, v = .int (rung st n many) t) ∧ BS g L m B sl st own (n + 1) h') ∧ Kb [B] h h') := fun tk => by
  obtain ⟨o, fd, ho, hf⟩ := isFnAt_get (fn_ru (w := w))
  obtain ⟨t, S⟩ := S
  refine Call_Name rfl (Ev.use (F h .rfl) fun v h2 tk2 ⟨y2, q⟩ => ?_)
  subst q
  have S2 := S.up y2
  refine callWith_function (o := o) (fd := fd) (Ev.use ((EAs.cons H1 (.one H2)).plain hs y2) fun aa h3 tk3 ⟨y3, kw, p⟩ => ⟨⟨(R.up (S2.up y3).keep).kin _ _ ho, hf⟩, ?_⟩)
  obtain ⟨pos', kw'⟩ := aa
  simp only at kw p
  subst kw
  obtain ⟨v1, i1, vs1, q1, z1, r1, z1', v2, i2, q2, z2, ⟨t2, r2⟩, z2'⟩ := p
  subst q1 q2 r1 r2
  have S3 := S2.up y3
  have ne : sl ≠ B := fun q => (List.nodup_cons.mp S3.dis).1 (List.mem_map.mpr ⟨_, .head _, q⟩)
  refine Ev.use (ru_call (B := B) (sl := sl) (st := st) (n := n) (R.up S3.keep) O ⟨⟨t, S3.at' _ (.head _)⟩, S3.at' _ (.tail _ (.head _)), ne⟩ hst hn m0 (fun h' kb => ?_)) fun v h4 tk4 ⟨hv, ⟨⟨t', hb⟩, _, _⟩, kb⟩ => ⟨h4, tk4, rfl, ⟨hv, t', S3.kbput kb hb⟩, (Kb.of (y2.trans y3)).trans kb⟩
  exact R.up fun b o e => kb b o (fun q => by rw [List.mem_singleton.mp q, (S3.fresh _ (.head _)).1] at e; cases e) (S3.keep b o e)

theorem EX.ru {B sl : Addr} {st : List Int} {n : Nat} {many : Int} (R : Rd w g) (O : Ok A 1) (S : BS g L m B sl st own n h) (F : EV w A s env h (.Name x px) (.ref 108)) (H1 : EV w A s env h e1 (.ref B)) (H2 : EI w A s env h e2 many) (hst : st.length ≤ 100) (hn : n < 1000) (m0 : 0 < many)
    (hs : backTo pos (starEach [e1, e2] env) = [e1, e2].map fun e => (false, eval e env)) : EX w A s env h (.Call (.Name x px) [e1, e2] [] pos) (fun v h' => (∃ t, v = .int (rung st n many) t) ∧ BS g L m B sl st own (n + 1) h') := fun h1 y => (ru_ev R O (S.up y) (F.up y) (H1.up y) (H2.up y) hst hn m0 hs).mono fun _ _ p => p.1
theorem EX.binr {op : Operator} {k b r : Int} {Q : Heap → Prop} (H1 : EI w A s env h e1 k) (H2 : EX w A s env h e2 (fun v h' => (∃ t, v = .int b t) ∧ Q h')) (O : ∀ h1 t u, Ev w A s h1 (binaryOp op (.int k t) (.int b u)) (fun v h' => h' = h1 ∧ ∃ t, v = .int r t)) :
    EX w A s env h (.BinOp e1 op e2 pos) (fun v h' => (∃ t, v = .int r t) ∧ Q h') := fun h1 x tk =>
  wpAny_BinOp (Ev.use (H1 h1 x) fun v h2 tk2 ⟨x2, t, e⟩ => by
    subst e
    exact Ev.use (H2 h2 (x.trans x2)) fun v h3 tk3 ⟨⟨u, e⟩, q⟩ => by
      subst e
      exact Ev.use (O h3 t u) fun v h4 tk4 ⟨e4, q'⟩ => by
        subst e4
        exact ⟨_, _, rfl, q', q⟩)
theorem bop_add {a b : Int} (h1 : Heap) (t u : Tok) : Ev w A s h1 (binaryOp .Add (.int a t) (.int b u)) (fun v h' => h' = h1 ∧ ∃ t, v = .int (a + b) t) := fun tk => add_int ⟨h1, _, rfl, rfl, _, rfl⟩
theorem bop_pow {a b : Int} (h0 : 0 ≤ b) (h1 : b ≤ 1000000) (h2 : a.natAbs < 2 ^ 64) (h : Heap) (t u : Tok) : Ev w A s h (binaryOp .Pow (.int a t) (.int b u)) (fun v h' => h' = h ∧ ∃ t, v = .int (a ^ b.toNat) t) := fun tk => pow_int_small h0 h1 h2 ⟨h, _, rfl, rfl, _, rfl⟩
/-- prime_for, its second argument impure -/
theorem EX.pf {size bound r : Int} {Q : Heap → Prop} (R : Rd w h) (hQ : ∀ h, Q h → Rd w h) (hQ2 : ∀ h h', Q h → Ext h h' → Q h') (O : Ok A 2) (F : EV w A s env h (.Name x px) (.ref 53)) (H1 : EI w A s env h e1 size) (H2 : EX w A s env h e2 (fun v h' => (∃ t, v = .int bound t) ∧ Q h'))
    (hb : pfGo 64 size bound (bound - bound % size + 1) = some r) (s0 : 0 < size) (s1 : size < 100) (b0 : 0 ≤ bound) (b1 : bound < 1000)
    (hs : backTo pos (starEach [e1, e2] env) = [e1, e2].map fun e => (false, eval e env)) : EX w A s env h (.Call (.Name x px) [e1, e2] [] pos) (fun v h' => (∃ t, v = .int r t) ∧ Q h') := fun h1 y tk => by
  obtain ⟨o, fd, ho, hf⟩ := isFnAt_get (fn_pf (w := w))
  refine Call_Name rfl (Ev.use (F h1 y) fun v h2 tk2 ⟨y2, q⟩ => ?_)
  subst q
  have hargs : Ev w A s h2 (evalArgs (.ref 53) true (backTo pos (starEach [e1, e2] env)) []) (fun a h' => a.kw = [] ∧ (∃ t u, a.pos = [.int size t, .int bound u]) ∧ Q h') := fun tk => by
    rw [hs]
    exact evalArgs_plain (spliced_cons (Ev.use (H1 h2 (y.trans y2)) fun v h3 tk3 ⟨y3, t, q⟩ => spliced_cons (Ev.use (H2 h3 (y.trans (y2.trans y3))) fun v' h4 tk4 ⟨⟨u, q'⟩, hq⟩ => spliced_nil ⟨h4, tk4, rfl, rfl, ⟨t, u, by rw [q, q']⟩, hq⟩)))
  refine callWith_function (o := o) (fd := fd) (Ev.use hargs fun aa h3 tk3 ⟨kw, ⟨t, u, p⟩, hq⟩ => ⟨⟨(hQ _ hq).kin _ _ ho, hf⟩, ?_⟩)
  obtain ⟨pos', kw'⟩ := aa
  simp only at kw p
  subst kw p
  exact Ev.use (pf_call (hQ _ hq) O hb s0 s1 b0 b1) fun v h4 tk4 ⟨y4, r⟩ => ⟨h4, tk4, rfl, r, hQ2 _ _ hq y4⟩

/-- a display of two -/
theorem E1.list2 {R1 R2 : Heap → Value → Heap → Prop} (H1 : E1 w A s env h e1 R1) (H2 : E1 w A s env h e2 R2) (hs : backTo pos (starEach [e1, e2] env) = [e1, e2].map fun e => (false, eval e env)) :
    E1 w A s env h (.List [e1, e2] pos) (fun h1 v h' => ∃ l x1 x2 h2 h3, v = .ref l ∧ Ext h1 h2 ∧ R1 h1 x1 h2 ∧ Ext h2 h3 ∧ R2 h2 x2 h3 ∧ Ext h3 h' ∧ At h' l (.pvals [x1, x2]) ∧ h3.get? l = none) := fun h1 y tk =>
  List_ (by
    rw [hs]
    refine spliced_cons (Ev.use (H1 h1 y) fun x1 h2 tk2 ⟨y2, r⟩ => spliced_cons (Ev.use (H2 h2 (y.trans y2)) fun x2 h3 tk3 ⟨y3, r'⟩ => spliced_nil ?_))
    exact wpAny_newObj_type ⟨_, tk3, rfl, (y2.trans y3).trans (Ext.push _ _), _, x1, x2, h2, h3, rfl, y2, r, y3, r', Ext.push _ _, ⟨_, Heap.get?_push_size _ rfl, 0, rfl⟩, get_none (Nat.le_refl _)⟩ (by show (2 : Nat) ≤ sizeLine; rw [sizeLine_eq]; omega))
/-- a display of one, impure -/
theorem EX.list1 {Q : Value → Heap → Prop} (H : EX w A s env h e Q) (hs : backTo pos (starEach [e] env) = [(false, eval e env)]) :
    EX w A s env h (.List [e] pos) (fun v h' => ∃ l x h2, v = .ref l ∧ Q x h2 ∧ Ext h2 h' ∧ At h' l (.pvals [x]) ∧ h2.get? l = none) := fun h1 y tk =>
  List_ (by
    rw [hs]
    refine spliced_cons (Ev.use (H h1 y) fun x h2 tk2 r => spliced_nil ?_)
    exact wpAny_newObj_type ⟨_, tk2, rfl, _, x, h2, rfl, r, Ext.push _ _, ⟨_, Heap.get?_push_size _ rfl, 0, rfl⟩, get_none (Nat.le_refl _)⟩ (by show (1 : Nat) ≤ sizeLine; rw [sizeLine_eq]; omega))
/-- sorted, of a list of ints -/
theorem EL.sorted {ns ms : List Int} (F : EV w A s env h (.Name x px) (.builtin "sorted")) (H : EL w A s env h e ns) (h64 : ns.length < 64) (hsort : ∀ ns', ns'.Perm ns → ns'.Pairwise (· ≤ ·) → ns' = ms) (hs : backTo pos (starEach [e] env) = [e].map fun e => (false, eval e env)) :
    EL w A s env h (.Call (.Name x px) [e] [] pos) ms :=
  E1.callB F (.one H) (fun h1 h2 vs h3 y1 y2 y3 ⟨v, h4, e1, y4, ⟨l, e2, hA⟩, y5⟩ tk => by
    subst e1 e2
    obtain ⟨vs, hl, hi⟩ := (hA.up y5).list
    refine sorted_ints (s := St s h3 tk) hl hi (by rw [hi.length]; exact h64) fun out ns' a1 a2 a3 => ⟨_, tk, rfl, fun b o e => sortedAll_old e, _, rfl, ?_⟩
    obtain ⟨e, he⟩ := sortedAll_at h3 vs out
    have := hsort ns' a2 a3
    subst this
    exact ⟨_, he, rfl, out.toList, e, by simp [seqObj], a1⟩) hs
/-- list(range(n)) -/
theorem EL.lrange {n : Nat} {z : Int} (F : EV w A s env h (.Name x px) (.type "list")) (hh : A.handled = none) (H : ER w A s env h e 0 z 1) (hz : z = (n : Int)) (hn : n ≤ 1000) (hs : backTo pos (starEach [e] env) = [e].map fun e => (false, eval e env)) :
    EL w A s env h (.Call (.Name x px) [e] [] pos) ((List.range n).map fun i : Nat => (i : Int)) :=
  E1.callT F (.one H) (fun h1 h2 vs h3 y1 y2 y3 ⟨v, h4, e1, y4, ⟨r, t, u, v', e2, hr, hn'⟩, y5⟩ tk => by
    subst e1 e2 hz
    have hr' : IsRange h3 r 0 (n : Int) 1 t u v' := y5 _ _ hr
    have hsz : Builtin.Range.rangeSize 0 (n : Int) 1 = (n : Int) := by
      have := rangeSize_step (c := 1) (M := n) (by decide)
      rwa [Int.mul_one] at this
    refine call_list_range (s := St s h3 tk) hh hr' (small_step (by omega) (by omega) (by omega) (by omega)) hsz (by omega) fun h' tk' acc' c' hk hl hit => ⟨h', tk', rfl, hk, _, rfl, ?_⟩
    refine ⟨_, hl, rfl, acc'.toList, c', by simp, ints_of (by rw [Array.length_toList, hit.1]; simp) fun i y hy => ?_⟩
    obtain ⟨t', q⟩ := hit.2 i y (by simpa using hy)
    have hi : i < n := by rw [← hit.1]; exact (Array.getElem?_eq_some_iff.mp (by simpa using hy)).1
    exact ⟨(i : Int), t', by simp [hi], by rw [q]; congr 1; omega⟩) hs
end
end Mine

namespace Mine
section
variable {w : World} {A : Around} {s : Shared} {g h h' : Heap} {L c a : Addr} {kd kd' : Kd} {m : Str → Option Value} {own : List (Addr × Kd)} {env : Env} {x y : Str} {px py pos tp : Pos} {f : Addr} {e e1 e2 e3 e4 e5 e6 : Expr} {es : List Expr} {rest body : List Stmt} {P : Flow → Heap → Prop}
/-- x, y = (e1, e2), both impure -/
theorem X.asg2X {k1 k2 : Nat} {pv : Pos} {Q1 : Value → Heap → Prop} {Q2 : Value → Value → Heap → Prop} (hh : A.handled = none) (H1 : EX w A s env h e1 Q1) (H2 : ∀ v h1, Q1 v h1 → EX w A s env h1 e2 (Q2 v))
    (K : ∀ h2 v1 v2, Q2 v1 v2 h2 → ∃ own', SS g L h2 m own' ∧ ∀ h', SS g L h' (up (up m y v2) x v1) own' → X w A s env h' rest P)
    (hs : backTo pv (starEach [e1, e2] env) = [e1, e2].map fun e => (false, eval e env))
    (hL : env.locals = L := by rfl) (hk : env.scope.kind = .function := by rfl) (hx : env.kindOf x = some .local := by rfl) (hy : env.kindOf y = some .local := by rfl)
    (h1 : swapsWithSole [.Tuple [.Name x px, .Name y py] k1 tp] (.Tuple [e1, e2] k2 pv) pos.line env = pure false := by rfl)
    (h2 : swappedStores [.Tuple [.Name x px, .Name y py] k1 tp] (.Tuple [e1, e2] k2 pv) env = pure (some [x, y]) := by rfl) :
    X w A s env h (.Assign [.Tuple [.Name x px, .Name y py] k1 tp] (.Tuple [e1, e2] k2 pv) pos :: rest) P := X.cons fun tk => by
  have HT : Ev w A s h (eval (.Tuple [e1, e2] k2 pv) env) (fun v h5 => ∃ T v1 v2 h4, v = .ref T ∧ IsTup h5 T #[v1, v2] ∧ Q2 v1 v2 h4 ∧ Ext h4 h5) := fun tk =>
    Tuple_ (by
      rw [hs]
      refine spliced_cons (Ev.use (H1 h .rfl) fun v1 h3 tk3 r1 => spliced_cons (Ev.use (H2 v1 h3 r1 h3 .rfl) fun v2 h4 tk4 r2 => spliced_nil ?_))
      exact wpAny_newObj_type ⟨_, tk4, rfl, _, v1, v2, h4, rfl, ⟨_, Heap.get?_push_size _ rfl, rfl, 0, rfl⟩, r2, Ext.push _ _⟩ (by show (2 : Nat) ≤ sizeLine; rw [sizeLine_eq]; omega))
  refine Assign_Tuple_swapped (names := [x, y]) (Ev.use HT fun v h5 tk5 ⟨T, v1, v2, h4, q, hT, r2, y6⟩ => ?_) h1 h2
  subst q
  obtain ⟨own', S4, K4⟩ := K h4 v1 v2 r2
  show wpAny _ _ (unpackItems (.ref T) (#[v1, v2]).size none) _ _ _
  refine unpackItems_tuple (s := St s h5 tk5) hh hT fun h6 he6 => ?_
  have y7 : Ext h5 h6 := fun b o e => he6 b o (Nat.ne_of_lt (Heap.lt_size e)) e
  have S6 := S4.up (y6.trans y7)
  show wpAny _ _ (assignInOrder [bindName env y, bindName env x] [v2, v1]) _ _ _
  refine assignInOrder_cons (wpAny_bindName (Ev.use (tk := tk5) (store_loc (Q := fun _ h7 => SS g L h7 (up m y v2) own') S6 hL hk hy fun h7 S7 => S7) fun _ h7 tk7 S7 => ?_))
  refine assignInOrder_cons (wpAny_bindName (Ev.use (tk := tk7) (store_loc (Q := fun _ h8 => SS g L h8 (up (up m y v2) x v1) own') S7 hL hk hx fun h8 S8 => S8) fun _ h8 tk8 S8 => ?_))
  exact assignInOrder_nil ⟨h8, tk8, rfl, K4 h8 S8⟩
/-- a display of three ints -/
theorem E1.tup3 {k2 : Nat} {pv : Pos} {a b d : Int} (H1 : EI w A s env h e1 a) (H2 : EI w A s env h e2 b) (H3 : EI w A s env h e3 d) (hs : backTo pv (starEach [e1, e2, e3] env) = [e1, e2, e3].map fun e => (false, eval e env)) :
    E1 w A s env h (.Tuple [e1, e2, e3] k2 pv) (fun h1 v h' => ∃ T t u x, v = .ref T ∧ IsTup h' T #[.int a t, .int b u, .int d x] ∧ h1.get? T = none) := fun h1 y1 tk =>
  Tuple_ (by
    rw [hs]
    refine spliced_cons (Ev.use (H1 h1 y1) fun v1 h2 tk2 ⟨y2, t, r1⟩ => spliced_cons (Ev.use (H2 h2 (y1.trans y2)) fun v2 h3 tk3 ⟨y3, u, r2⟩ => spliced_cons (Ev.use (H3 h3 ((y1.trans y2).trans y3)) fun v3 h4 tk4 ⟨y4, x, r3⟩ => spliced_nil ?_)))
    subst r1 r2 r3
    exact wpAny_newObj_type ⟨_, tk4, rfl, ((y2.trans y3).trans y4).trans (Ext.push _ _), _, t, u, x, rfl, ⟨_, Heap.get?_push_size _ rfl, rfl, 0, rfl⟩, ((y2.trans y3).trans y4).none (get_none (Nat.le_refl _))⟩ (by show (3 : Nat) ≤ sizeLine; rw [sizeLine_eq]; omega))
/-- x, y = e, e a tuple, whatever the targets -/
theorem X.unp2 {elts : List Expr} {k1 : Nat} {R : Heap → Value → Heap → Prop} (hh : A.handled = none) (H : E1 w A s env h e R)
    (K : ∀ v h1, Ext h h1 → R h v h1 → ∃ T, ∃ items : Array Value, v = .ref T ∧ IsTup h1 T items ∧ (assignEach elts env).length = items.size ∧ ∀ h', Ext h1 h' → Ev w A s h' (assignInOrder ((assignEach elts env).map (·.2)) items.toList) (fun _ h'' => X w A s env h'' rest P))
    (hstar : (assignEach elts env).findIdx? (·.1) = none)
    (hs : swapsWithSole [.Tuple elts k1 tp] e pos.line env = pure false := by rfl) (hw : swappedStores [.Tuple elts k1 tp] e env = pure none := by rfl) :
    X w A s env h (.Assign [.Tuple elts k1 tp] e pos :: rest) P := X.cons fun tk =>
  Assign_Tuple (Ev.use (H h .rfl) fun v h1 tk1 ⟨y1, q⟩ => by
    obtain ⟨T, items, rfl, hT, hn, K1⟩ := K v h1 y1 q
    refine assign_Tuple_tuple (s := St s h1 tk1) hh hT hn hstar fun h2 he2 => ?_
    have y2 : Ext h1 h2 := fun b o e => he2 b o (Nat.ne_of_lt (Heap.lt_size e)) e
    exact K1 h2 y2 tk1) hs hw

/-- a call of range, its argument impure -/
theorem EX.range {k : Int} {Q : Heap → Prop} (F : EV w A s env h (.Name x px) (.type "range")) (H : EX w A s env h e (fun v h' => (∃ t, v = .int k t) ∧ Q h')) (hs : backTo pos (starEach [e] env) = [e].map fun e => (false, eval e env)) :
    EX w A s env h (.Call (.Name x px) [e] [] pos) (fun v h' => ∃ r t u v' h0, v = .ref r ∧ IsRange h' r 0 k 1 t u v' ∧ Q h0 ∧ Ext h0 h') := fun h1 y tk =>
  Call_Name hs (Ev.use (F h1 y) fun v h2 tk2 ⟨y2, q⟩ => by
    subst q
    refine PyProof.Rows.callWith_type (by simp) (evalArgs_plain (spliced_cons (Ev.use (H h2 (y.trans y2)) fun v h3 tk3 ⟨⟨t, q⟩, hq⟩ => spliced_nil ?_)))
    subst q
    exact call_range_1 ⟨_, _, rfl, _, _, _, _, _, rfl, IsRange.new .., hq, Ext.push _ _⟩)
end
end Mine

namespace Mine
theorem newFn_comp {M : Model} {A : Around} {E : Value → Shared → Prop} {s : Shared} {scope : Scope} {globals : Addr} {cl : List (Str × Addr)} {qual : Str} {env : Env} {Q : Env → Shared → Prop}
    (hQ : Q (newEnv scope s.heap.objs.size globals (cellsFrom (s.heap.objs.size + 1) scope.names cl) qual none .none (some env) builtinsNs) { s with heap := pushCells (s.heap.push { cls := .type "dict", data := .dict #[] }) scope.names }) :
    wpAny M A (newFunctionEnv scope globals cl [] qual none .none (some env)) Q E s := by
  simp only [newFunctionEnv, Option.isSome_some, if_true]
  refine wpAny_bind (wpAny_alloc ?_)
  refine wpAny_bind (wpAny_layCells _ (fun name kind cells => by cases hkc : kind == NameKind.cell <;> simp [hkc]) _ _ _ _ ?_)
  rw [show ({ s with heap := s.heap.push { cls := .type "dict", data := .dict #[] } } : Shared).heap.objs.size = s.heap.objs.size + 1 from Heap.size_push ..]
  rw [List.forIn_nil]
  exact wpAny_bind (wpAny_pure (wpAny_pure hQ))
section
variable {w : World} {A : Around} {s : Shared} {g h h' h1 : Heap} {L c a : Addr} {kd kd' : Kd} {m : Str → Option Value} {own own1 : List (Addr × Kd)} {env : Env} {x y : Str} {px py pos tp : Pos} {f : Addr} {e e1 e2 e3 e4 e5 e6 : Expr} {es : List Expr} {rest body : List Stmt} {P : Flow → Heap → Prop}
theorem SS.old (S1 : SS g L h1 m own1) (hk : own1.map (·.1) = own.map (·.1)) (S : SS g L h m own) (k : ∀ b o, (h1.get? b).isSome = true → h.get? b = some o → h'.get? b = some o) : SS g L h' m own := by
  refine ⟨S.ns.at' fun o e => k L o ?_ e, fun b o e => k b o (by rw [S1.keep b o e]; rfl) (S.keep b o e), S.above, fun p hp => ?_, S.fresh, S.dis⟩
  · obtain ⟨o, _, _, e, _⟩ := S1.ns; rw [e]; rfl
  · obtain ⟨o, e, q⟩ := S.at' p hp
    refine ⟨o, k _ _ ?_ e, q⟩
    have : p.1 ∈ own1.map (·.1) := by rw [hk]; exact List.mem_map.mpr ⟨p, hp, rfl⟩
    obtain ⟨p1, hp1, e1⟩ := List.mem_map.mp this
    obtain ⟨o1, e2, _⟩ := S1.at' p1 hp1
    rw [← e1, e2]; rfl
theorem SS.add (S1 : SS g L h1 m own1) (hk : own1.map (·.1) = own.map (·.1)) (S : SS g L h m own) (hn : h1.get? a = none) (hA : At h a kd) : SS g L h m ((a, kd) :: own) := by
  refine ⟨S.ns, S.keep, S.above, fun p hp => ?_, fun p hp => ?_, ?_⟩
  · rcases List.mem_cons.mp hp with rfl | hp
    · exact hA
    · exact S.at' p hp
  · rcases List.mem_cons.mp hp with rfl | hp
    · refine ⟨S1.keep.none hn, fun q => ?_⟩
      obtain ⟨o, _, _, e, _⟩ := S1.ns
      rw [show L = a from q.symm, hn] at e; cases e
    · exact S.fresh p hp
  · rw [List.map_cons, List.nodup_cons]
    refine ⟨fun q => ?_, S.dis⟩
    rw [← hk] at q
    obtain ⟨p, hp, e⟩ := List.mem_map.mp q
    obtain ⟨o, e2, _⟩ := S1.at' p hp
    rw [e, hn] at e2; cases e2
/-- a source that does not stand on B -/
def SrcB (w : World) (A : Around) (s : Shared) (env : Env) (target : Expr) (Loc : Env → Prop) (h : Heap) (iter : Expr) (n : Nat) (G : Env → Nat → Heap → Prop) (B : Addr) : Prop :=
  ∀ h1, Ext h h1 → (h1.get? B).isSome = true → Ev w A s h1 (eval iter env) (fun xv h2 => Ext h1 h2 ∧ Ev w A s h2 (pyIter xv) (fun it h3 => Ext h1 h3 ∧ ∃ I fp wr Sa, it = .ref I ∧ Sa 0 h3 ∧ (∀ b ∈ fp, b < h3.objs.size) ∧ (∀ b ∈ wr, h1.get? b = none) ∧ B ∉ fp ∧
    (∀ h tk (Q : Value → Shared → Prop) (E : Value → Shared → Prop), Sa 0 h → Q (.ref I) (St s h tk) → wpAny (model PR w) A (pyIter (.ref I)) Q E (St s h tk)) ∧
    ∀ tenv, Loc tenv → tenv.scope.kind = .function → tenv.locals ∉ fp → Turns w A s tenv target I fp wr n Sa [tenv.locals] (nsAt tenv) (G tenv)))
theorem SrcB.range {a b c : Int} {n : Nat} {B : Addr} (hh : A.handled = none) (H : ER w A s env h e a b c) (hsm : Builtin.Range.small a b c = true) (hn : Builtin.Range.rangeSize a b c = (n : Int)) :
    SrcB w A s env (.Name x px) (fun t => t.kindOf x = some .local) h e n (fun tenv i h' => ∃ m t, h'.Ns tenv.locals m ∧ m x = some (.int (a + (i : Int) * c) t)) B := fun h1 y1 hB => by
  refine (H h1 y1).mono fun v h2 ⟨y2, r, t, u, v', e, hr, _⟩ => ⟨y2, ?_⟩
  subst e
  intro tk
  refine wpAny_pyIter_range (s := St s h2 tk) hr hsm ⟨_, tk, rfl, y2.trans (Ext.push _ _), h2.objs.size, [h2.objs.size], [h2.objs.size], fun i h => IsRangeIter h h2.objs.size (a + (i : Nat) * c) ((n : Int) - (i : Nat)) c, rfl, ?_, ?_, ?_, ?_, ?_, ?_⟩
  · show IsRangeIter _ _ _ _ _
    rw [hn]
    simpa using Heap.get?_push_size _ rfl
  · intro b hb
    rw [Heap.size_push, List.mem_singleton.mp hb]
    exact Nat.lt_succ_self _
  · intro b hb
    rw [List.mem_singleton.mp hb]
    exact y2.none (get_none (Nat.le_refl _))
  · intro q
    obtain ⟨o, eo⟩ := Option.isSome_iff_exists.mp hB
    have := Heap.lt_size (y2 _ _ eo)
    rw [List.mem_singleton.mp q] at this
    exact Nat.lt_irrefl _ this
  · exact fun h tk Q E st hQ => (Walks.range hh h2.objs.size a c n).self 0 (St s h tk) Q E st hQ
  · intro tenv hx hk hC
    refine (Turns.name (KTurns.ofWalks (Walks.range hh h2.objs.size a c n) fun i v s' Q E _ q => wpAny_pure q) hx hk hC).weak ?_
    rintro i h' hi' ⟨m, v, h'', hn, hv, ⟨t, hP⟩, _⟩
    exact ⟨m, t, hn, hP ▸ hv⟩
/-- a comprehension whose element rings the bell -/
theorem EX.comp {elt iter target : Expr} {scope : Scope} {cl : List (Str × Addr)} {Loc : Env → Prop} {n n0 : Nat} {G : Env → Nat → Heap → Prop} {B sl : Addr} {st ns : List Int} (S : BS g L m B sl st own n0 h) (hsrc : SrcB w A s env target Loc h iter n G B) (hLoc : ∀ C, Loc (compEnvC scope cl C env)) (hn : ns.length = n)
    (He : ∀ i C h' k, BS g L m B sl st own (n0 + i) h' → ns[i]? = some k → G (compEnvC scope cl C env) i h' → Ev w A s h' (eval elt (compEnvC scope cl C env)) (fun v h'' => ((∃ t, v = .int k t) ∧ BS g L m B sl st own (n0 + i + 1) h'') ∧ Kb [B] h' h''))
    (hclos : closureFor scope env = pure cl) (hcell : ∀ y ∈ scope.names, y.2 ≠ .cell) (hkind : scope.kind = .function)
    (hnames : ∀ y ∈ scope.names, y.2 = .local → scope.names.lookup y.1 = some .local) (hsz : n ≤ sizeLine)
    (hs : ∀ x, foldedSetIterable iter env x = pure x := by intro _; rfl) :
    EX w A s env h (.ListComp elt [⟨target, iter, [], 0⟩] scope pos) (fun v h' => ∃ l t, v = .ref l ∧ SS g L h' m ((l, .ints ns) :: (B, .vals [.int ((n0 + n : Nat) : Int) t, .ref sl]) :: (sl, .ints st) :: own)) := fun h1 x1 tk => by
  rw [eval_ListComp]
  obtain ⟨t0, S0⟩ := S
  have S1 := S0.up x1
  have hBs : (h1.get? B).isSome = true := by obtain ⟨o, e, _⟩ := S1.at' _ (.head _); rw [e]; rfl
  refine wpAny_comprehension_free (use := none) rfl hs hclos hkind hnames (Ev.use (hsrc h1 x1 hBs) fun xv h2 tk2 ⟨x2, E2⟩ => ?_)
  refine Ev.use E2 fun it h3 tk3 ⟨x3, I, fp, wr, Sa, e, sta, hfp, hwr, hBf, hself, T⟩ => ?_
  subst e
  refine comp_block (fun i h' => BS g L m B sl st own (n0 + i) h') (fun i y => ∃ k t, ns[i]? = some k ∧ y = .int k t) (fun b => b = B) (fun b z => by rw [z]; exact hBs) (fun b hb z => hBf (z ▸ hb)) hcell hkind x3 sta hfp hwr T hLoc
    (fun i h h' ⟨t, J⟩ k => ⟨t, S1.old rfl J k⟩) ⟨t0, S1.up x3⟩ (fun i C h' hi J g' => ?_) hsz hself fun D C h' tk' m' ys hnC hD hl hY hD1 hC1 hDC ⟨t, J⟩ => ⟨m', hnC, fun h'' hb => ?_⟩
  · have hk : ns[i]? = some ns[i] := List.getElem?_eq_getElem (by omega)
    exact (He i C h' _ J hk g').mono fun y h'' ⟨⟨⟨t, q⟩, J'⟩, kb⟩ => ⟨⟨_, t, hk, q⟩, J', fun b o nb e => kb b o (fun z => nb (List.mem_singleton.mp z)) e⟩
  · refine ⟨h'', tk', rfl, D, t, rfl, ?_⟩
    have J' := S1.old (own := (B, .vals [.int ((n0 + n : Nat) : Int) t, .ref sl]) :: (sl, .ints st) :: own) rfl J (fun b o e1 e => (hb.2 b fun q => by rw [q, hC1] at e1; cases e1).trans e)
    exact S1.add rfl J' hD1 (At.of_list (hD.at fun o e => (hb.2 D hDC).trans e) (ints_of (by rw [hl, hn]) hY))
end
end Mine

namespace Mine
section
variable {w : World} {A : Around} {s : Shared} {g h h' h1 : Heap} {L c a : Addr} {kd kd' : Kd} {m : Str → Option Value} {own own1 : List (Addr × Kd)} {env : Env} {x y : Str} {px py pos tp : Pos} {f : Addr} {e e1 e2 e3 e4 e5 e6 : Expr} {es : List Expr} {rest body : List Stmt} {P : Flow → Heap → Prop}
/-- a comprehension of ints over a list of ints, its target a cell -/
theorem E1.compCell {elt iter : Expr} {scope : Scope} {cl : List (Str × Addr)} {ns ps : List Int} (hh : A.handled = none) (H : EL w A s env h iter ps) (hn : ns.length = ps.length)
    (He : ∀ (i : Nat) C h' (k p : Int), Ext h h' → ns[i]? = some k → ps[i]? = some p → At h' (C + 1) (.cellI p) → EI w A s (compEnvC scope ((x, C + 1) :: cl) C env) h' elt k)
    (hclos : closureFor scope env = pure cl) (hcells : ∀ n, cellsFrom n scope.names cl = (x, n) :: cl) (hpush : ∀ h, pushCells h scope.names = h.push { cls := .type "cell", data := .cell none }) (hkind : scope.kind = .function)
    (hnames : ∀ y ∈ scope.names, y.2 = .local → scope.names.lookup y.1 = some .local) (hx : ∀ C, (compEnvC scope ((x, C + 1) :: cl) C env).kindOf x = some .cell) (hsz : ps.length ≤ sizeLine)
    (hs : ∀ x, foldedSetIterable iter env x = pure x := by intro _; rfl) :
    ELn w A s env h (.ListComp elt [⟨.Name x px, iter, [], 0⟩] scope pos) ns := fun h1 x1 tk => by
  rw [eval_ListComp]
  refine wpAny_comprehension_free (use := none) rfl hs hclos hkind hnames (Ev.use (H h1 x1) fun v h2 tk2 ⟨x2, l, e, hA⟩ => ?_)
  subst e
  obtain ⟨vs, hl, hi⟩ := hA.list
  have hlt : l < h2.objs.size := by obtain ⟨_, e, _⟩ := hl; exact Heap.lt_size e
  refine wpAny_pyIter_list (s := St s h2 tk2) hl (wpAny_newObj_type (newFn_comp ?_))
  dsimp only
  rw [hcells, hpush]
  generalize hI : h2.objs.size = I
  generalize hha : h2.push _ = ha
  have sa : ha.objs.size = I + 1 := by rw [← hha, Heap.size_push, hI]
  have xa : Ext h2 ha := hha ▸ Ext.push _ _
  have itI : ha.IsListIter I l 0 := by
    rw [← hha, ← hI]
    exact ⟨_, Heap.get?_push_size _ rfl, rfl, rfl⟩
  rw [sa]
  generalize hhb : ha.push _ = hb
  have sb : hb.objs.size = I + 2 := by rw [← hhb, Heap.size_push, sa]
  have xb : Ext ha hb := hhb ▸ Ext.push _ _
  have lD : hb.IsList (I + 1) ([] : List Value).toArray := by
    rw [← hhb, ← sa]
    exact ⟨_, Heap.get?_push_size _ rfl, rfl, 0, rfl⟩
  rw [sb]
  generalize hhc : hb.push _ = hc
  have sc : hc.objs.size = I + 3 := by rw [← hhc, Heap.size_push, sb]
  have xc : Ext hb hc := hhc ▸ Ext.push _ _
  have nC : hc.Ns (I + 2) (fun _ => none) := by
    rw [← hhc, ← sb]
    exact Heap.Ns.new hb (.type "dict")
  generalize hhd : hc.push _ = hd
  have xd : Ext hc hd := hhd ▸ Ext.push _ _
  have cK : hd.IsCell (I + 3) none := by
    rw [← hhd, ← sc]
    exact ⟨_, Heap.get?_push_size _ rfl, rfl⟩
  have x24 : Ext h2 hd := xa.trans (xb.trans (xc.trans xd))
  have nn : ∀ {b}, I ≤ b → h1.get? b = none := fun hb => x2.none (get_none (hI ▸ hb))
  have e3 : vs.length = ps.length := hi.length
  have W := Walks.list (prog := PR) (w := w) hh I l (Nat.ne_of_lt (hI ▸ hlt)) vs.toArray
  show codeAny _ _ (.compStart _ 0 (.ref I) (.ref (I + 1)) (compEnvC scope ((x, I + 2 + 1) :: cl) (I + 2) env)) _ _
  have h0 : ∀ (i : Nat) (y : Value), ([] : List Value)[i]? = some y → ∃ (k : Int) (t : Tok), ns[i]? = some k ∧ y = Value.int k t := by intro i y q; simp at q
  have ln : ∀ {b I : Nat} (k : Nat), b < I → b ≠ I + k := by intros; omega
  have lI : l < I := hI ▸ hlt
  have loop : ∀ tk, codeAny (model PR w) A (.compLoop (.ListComp elt [⟨.Name x px, iter, [], 0⟩] scope pos) 0 (.ref I) (.ref (I + 1)) (compEnvC scope ((x, I + 2 + 1) :: cl) (I + 2) env)) (compPost (model PR w) A (fun _ _ => False) none (fun v s' => ∃ h' tk', s' = St s h' tk' ∧ Ext h1 h' ∧ ∃ l, v = .ref l ∧ At h' l (.ints ns) ∧ h1.get? l = none) (.ref (I + 1)) (I + 2)) (St s hd tk) := by
    intro tk
    refine compLoop_any (fun k s' => ∃ h tk i m v, ∃ ys : List Value, s' = St s h tk ∧ i ≤ ps.length ∧ k = ps.length + 1 - i ∧ ys.length = i ∧ (h.IsListIter I l i ∧ h.IsList l vs.toArray) ∧ h.Ns (I + 2) m ∧ h.IsCell (I + 3) v ∧ h.IsList (I + 1) ys.toArray ∧ (∀ i y, ys[i]? = some y → ∃ (k : Int) (t : Tok), ns[i]? = some k ∧ y = Value.int k t) ∧ Ext h1 h) ?_ (ps.length + 1)
      ⟨hd, tk, 0, _, none, [], rfl, Nat.zero_le _, rfl, rfl, ⟨itI.at fun o e => (xb.trans (xc.trans xd)) _ o e, hl.at fun o e => x24 _ o e⟩, nC.keeps xd, cK, lD.at fun o e => (xc.trans xd) _ o e, h0, x2.trans x24⟩
    rintro k s' ⟨h, tk, i, m, v, ys, rfl, hi', rfl, hly, hst, hns, hcl, hD, hY, hX⟩
    by_cases hlt' : i < ps.length
    · refine W.item i (St s h tk) _ _ (by rw [List.size_toArray, e3]; exact hlt') hst fun v1 h5 tk5 hv1 st5 hk5 => ?_
      have q5 : ∀ b, b ≠ I → ∀ o, h.get? b = some o → h5.get? b = some o := fun b nb o e => hk5 b o (fun z => nb (List.mem_singleton.mp z)) e
      have kp : ps[i]? = some ps[i] := List.getElem?_eq_getElem hlt'
      have kn : ns[i]? = some (ns[i]'(by omega)) := List.getElem?_eq_getElem (by omega)
      obtain ⟨t, ht⟩ := ints_get hi kp
      have ev : v1 = .int ps[i] t := by
        have q : vs[i]? = some v1 := by simpa using hv1
        rw [ht] at q; exact (Option.some.inj q).symm
      subst ev
      refine wpAny_pure ?_
      refine wpAny_assign_Name (wpAny_storeName_cell (s := St s h5 tk5) (c := I + 3) (v₀ := v) hkind (hx (I + 2)) (by simp [compEnvC]) (let ⟨o, e, d⟩ := hcl; ⟨o, q5 _ (by omega) o e, d⟩) fun h6 hc6 hb6 => ?_)
      have q6 : ∀ b, b ≠ I + 3 → ∀ o, h5.get? b = some o → h6.get? b = some o := fun b nb o e => (hb6.2 b nb).trans e
      have x6 : Ext h1 h6 := fun b o e => by
        have nI : b < I := by
          rcases Nat.lt_or_ge b I with q | q
          · exact q
          · rw [nn q] at e; cases e
        exact q6 b (ln _ nI) o (q5 b (ln 0 nI) o (hX b o e))
      have st6 : h6.IsListIter I l (i + 1) ∧ h6.IsList l vs.toArray := W.frame _ _ _ st5 fun b hb o e => q6 b (by
        rcases List.mem_cons.mp hb with rfl | hb
        · omega
        · rw [List.mem_singleton.mp hb]; exact ln _ lI) o e
      refine Ev.use ((He i (I + 2) h6 _ _ (x1.trans x6) kn kp (let ⟨o, e, d⟩ := hc6; ⟨o, e, t, d⟩)) h6 .rfl) fun y1 h7 tk7 ⟨x7, t', ey⟩ => ?_
      subst ey
      have D7 : h7.IsList (I + 1) ys.toArray := hD.at fun o e => x7 _ o (q6 _ (by omega) o (q5 _ (by omega) o e))
      refine wpAny_list_append (s := St s h7 tk7) (hsz := by rw [List.size_toArray, hly]; exact Nat.le_trans hi' hsz) D7 fun h9 hl9 hb9 => ?_
      rw [List.push_toArray] at hl9
      have q9 : ∀ b, b ≠ I + 1 → ∀ o, h7.get? b = some o → h9.get? b = some o := fun b nb o e => (hb9.2 b nb).trans e
      refine ⟨ps.length + 1 - (i + 1), by omega, h9, tk7, i + 1, m, some (.int ps[i] t), ys ++ [_], rfl, hlt', rfl, by simp [hly], ?_, ?_, ?_, hl9, ?_, ?_⟩
      · exact W.frame _ _ _ st6 fun b hb o e => q9 b (by
          rcases List.mem_cons.mp hb with rfl | hb
          · omega
          · rw [List.mem_singleton.mp hb]; exact ln _ lI) o (x7 b o e)
      · exact hns.at' fun o e => q9 _ (by omega) o (x7 _ o (q6 _ (by omega) o (q5 _ (by omega) o e)))
      · exact (let ⟨o, e, d⟩ := hc6; ⟨o, q9 _ (by omega) o (x7 _ o e), d⟩)
      · intro j z hj
        rcases Nat.lt_or_ge j ys.length with q | q
        · rw [List.getElem?_append_left q] at hj; exact hY j z hj
        · rw [List.getElem?_append_right q] at hj
          have e0 : j - ys.length = 0 := by
            rcases Nat.eq_zero_or_pos (j - ys.length) with e0 | e0
            · exact e0
            · rw [List.getElem?_eq_none (by simp; omega)] at hj; cases hj
          rw [e0] at hj
          simp at hj
          have : j = i := by omega
          rw [this]
          exact ⟨_, t', kn, hj.symm⟩
      · intro b o e
        have nI : b < I := by
          rcases Nat.lt_or_ge b I with q | q
          · exact q
          · rw [nn q] at e; cases e
        exact q9 b (ln _ nI) o (x7 b o (x6 b o e))
    · have e : i = ps.length := Nat.le_antisymm hi' (Nat.not_lt.mp hlt')
      subst e
      refine W.done (St s h tk) _ _ (by rw [List.size_toArray, e3]; exact hst) fun h5 tk5 hk5 => ?_
      have q5 : ∀ b, b ≠ I → ∀ o, h.get? b = some o → h5.get? b = some o := fun b nb o e => hk5 b o (fun z => nb (List.mem_singleton.mp z)) e
      refine ⟨m, hns.at' fun o e => q5 _ (by omega) o e, fun h6 hb6 => ?_⟩
      have q6 : ∀ b, b ≠ I + 2 → ∀ o, h5.get? b = some o → h6.get? b = some o := fun b nb o e => (hb6.2 b nb).trans e
      refine ⟨h6, tk5, rfl, fun b o e => ?_, I + 1, rfl, At.of_list (hD.at fun o e => q6 _ (by omega) o (q5 _ (by omega) o e)) (ints_of (by omega) hY), nn (by omega)⟩
      have nI : b < I := by
        rcases Nat.lt_or_ge b I with q | q
        · exact q
        · rw [nn q] at e; cases e
      exact q6 b (ln _ nI) o (q5 b (ln 0 nI) o (hX b o e))
  exact codeAny_compStart_list (loop _) (W.self _ (St s hd _) _ _ ⟨itI.at fun o e => (xb.trans (xc.trans xd)) _ o e, hl.at fun o e => x24 _ o e⟩ (loop _))
end
end Mine

namespace Mine
/-- size 2^K, prime q, root r -/
structure Tb (K : Nat) (q r : Int) : Prop where
  k0 : 0 < K
  k3 : K ≤ 3
  q0 : 1 < q
  q1 : q < 1000
  r0 : 0 ≤ r
  r1 : r < q
  half : r ^ 2 ^ (K - 1) % q = q - 1
  inv : (2 ^ K : Int) * ((2 ^ K : Int) ^ (q - 2).toNat % q) % q = 1
def tabOK (k b : Nat) : Bool := match pfGo 64 (2 ^ (k + 1)) b ((b : Int) - (b : Int) % 2 ^ (k + 1) + 1) with
  | none => false
  | some q => match rtGo 64 q 2 with
    | none => false
    | some z => let r := z ^ ((q - 1) / 2 ^ (k + 1)).toNat % q
      (q - 1) % 2 ^ (k + 1) == 0 && decide (1 < q) && decide (q < 1000) && (r ^ 2 ^ k % q == q - 1) && ((2 ^ (k + 1) : Int) * ((2 ^ (k + 1) : Int) ^ (q - 2).toNat % q) % q == 1)
theorem tab_all : (List.range 3).all (fun k => (List.range 40).all fun b => tabOK k b) = true := by decide +kernel
theorem tab {k b : Nat} (hk : k < 3) (hb : b < 40) : ∃ q z : Int, pfGo 64 (2 ^ (k + 1)) b ((b : Int) - (b : Int) % 2 ^ (k + 1) + 1) = some q ∧ rtGo 64 q 2 = some z ∧ (q - 1) % 2 ^ (k + 1) = 0 ∧ Tb (k + 1) q (z ^ ((q - 1) / 2 ^ (k + 1)).toNat % q) := by
  have h := List.all_eq_true.mp (List.all_eq_true.mp tab_all k (List.mem_range.mpr hk)) b (List.mem_range.mpr hb)
  unfold tabOK at h
  split at h
  · cases h
  · rename_i q e1
    split at h
    · cases h
    · rename_i z e2
      simp only [Bool.and_eq_true, beq_iff_eq, decide_eq_true_eq] at h
      obtain ⟨⟨⟨⟨h1, h2⟩, h3⟩, h4⟩, h5⟩ := h
      exact ⟨q, z, e1, e2, h1, by omega, by omega, h2, h3, (md (by omega) _).1, (md (by omega) _).2, h4, h5⟩
/-- a row's value at a root's power -/
def dft (q r : Int) (xs : List Int) (pl : Nat) : Int := ((List.range xs.length).map fun i => xs.getD i 0 * r ^ (i * pl)).sum % q
theorem rung_range {st : List Int} {c : Nat} {many : Int} (m0 : 0 < many) : 0 ≤ rung st c many ∧ rung st c many < many := by
  unfold rung
  split <;> exact md m0 _
end Mine

namespace Mine
variable {K : Nat} {q r : Int} {xs ys : List Int}
theorem L6 {form num : Int} {a : Nat} (T : Tb K q r) (hx : xs.length = 2 ^ K) (gx : Rg q xs) : Rg q (chg form a num q r (2 ^ K) xs ys) := fun x hx' => by
  obtain ⟨i, hi, rfl⟩ := List.mem_map.mp hx'
  have hq : 0 < q := by have := T.q0; omega
  have n0 : 0 < 2 ^ K := Nat.two_pow_pos K
  unfold chgE
  split
  · exact md hq _
  split
  · exact gx _ (List.mem_of_getElem? (getD_some (i := (((i : Int) - a) % ((2 ^ K : Nat) : Int)).toNat) (by have := mod_in (j := (i : Int) - a) n0; omega)))
  split
  · exact md hq _
  split
  · exact gx _ (List.mem_of_getElem? (getD_some (i := ((0 - (i : Int)) % ((2 ^ K : Nat) : Int)).toNat) (by have := mod_in (j := 0 - (i : Int)) n0; omega)))
  split
  · exact md hq _
  · exact md hq _
theorem rv_rg (T : Tb K q r) : Rg ((2 ^ K : Nat) : Int) (rvL K) := by
  have h0 := T.k0; have h3 := T.k3
  rcases (show K = 1 ∨ K = 2 ∨ K = 3 by omega) with rfl | rfl | rfl <;> decide
theorem rv_sorted (T : Tb K q r) : ∀ ns', ns'.Perm (rvL K) → ns'.Pairwise (· ≤ ·) → ns' = (List.range (2 ^ K)).map fun i : Nat => (i : Int) := by
  intro ns' hp hs
  have h0 := T.k0; have h3 := T.k3
  have e : (rvL K).Perm ((List.range (2 ^ K)).map fun i : Nat => (i : Int)) := by
    rcases (show K = 1 ∨ K = 2 ∨ K = 3 by omega) with rfl | rfl | rfl <;> decide
  refine (hp.trans e).eq_of_pairwise (le := (· ≤ ·)) (fun a b _ _ h1 h2 => Int.le_antisymm h1 h2) hs ?_
  rcases (show K = 1 ∨ K = 2 ∨ K = 3 by omega) with rfl | rfl | rfl <;> decide
end Mine

namespace Mine
open Lean.Grind
/-! the rests of q, as a ring -/
section
variable {n : Nat} [NeZero n]
theorem npos (n : Nat) [h : NeZero n] : (0 : Int) < n := by have := h.out; omega
def phi (n : Nat) [NeZero n] (x : Int) : Fin n := ⟨(x % n).toNat, by
  have := Int.emod_lt_of_pos x (npos n)
  have := Int.emod_nonneg x (Int.ne_of_gt (npos n))
  omega⟩
theorem phi_val (x : Int) : ((phi n x).val : Int) = x % n := Int.toNat_of_nonneg (Int.emod_nonneg x (Int.ne_of_gt (npos n)))
theorem phi_eq {x y : Int} (h : x % n = y % n) : phi n x = phi n y := by unfold phi; simp only [h]
theorem of_phi {x y : Int} (h : phi n x = phi n y) : x % n = y % n := by rw [← phi_val x, ← phi_val y, h]
theorem phi_mod (x : Int) : phi n (x % n) = phi n x := phi_eq (Int.emod_emod ..)
omit [NeZero n] in
theorem phi_ext {a b : Fin n} (h : ((a.val : Int)) = b.val) : a = b := Fin.ext (by exact_mod_cast h)
theorem phi_add (x y : Int) : phi n (x + y) = phi n x + phi n y := phi_ext (by rw [Fin.val_add, Int.natCast_emod, Int.natCast_add, phi_val, phi_val, phi_val, Int.add_emod])
theorem phi_mul (x y : Int) : phi n (x * y) = phi n x * phi n y := phi_ext (by rw [Fin.val_mul, Int.natCast_emod, Int.natCast_mul, phi_val, phi_val, phi_val, Int.mul_emod])
theorem phi_0 : phi n 0 = 0 := phi_ext (by rw [phi_val]; simp)
theorem phi_1 : phi n 1 = 1 := phi_ext (by rw [phi_val]; show (1 : Int) % n = ((1 % n : Nat) : Int); push_cast; rfl)
theorem phi_sub (x y : Int) : phi n (x - y) = phi n x - phi n y := by
  have h := phi_add (n := n) (x - y) y
  rw [Int.sub_add_cancel] at h
  grind
theorem phi_pow (x : Int) : ∀ k : Nat, phi n (x ^ k) = phi n x ^ k
  | 0 => by rw [Int.pow_zero, phi_1]; grind
  | k + 1 => by rw [Int.pow_succ, phi_mul, phi_pow x k]; grind
end
/-- a map into a ring that forgets rests by q -/
structure Hm {R : Type} [CommRing R] (q : Int) (f : Int → R) : Prop where
  add : ∀ x y, f (x + y) = f x + f y
  sub : ∀ x y, f (x - y) = f x - f y
  mul : ∀ x y, f (x * y) = f x * f y
  zero : f 0 = 0
  one : f 1 = 1
  md : ∀ x, f (x % q) = f x
  inj : ∀ x y, f x = f y → x % q = y % q
theorem hm_phi {n : Nat} [NeZero n] : Hm (n : Int) (phi n) := ⟨phi_add, phi_sub, phi_mul, phi_0, phi_1, phi_mod, fun _ _ h => of_phi h⟩
section
variable {R : Type} [CommRing R] {q : Int} {f : Int → R}
theorem Hm.pow (H : Hm q f) (x : Int) : ∀ k : Nat, f (x ^ k) = f x ^ k
  | 0 => by rw [Int.pow_zero, H.one, Semiring.pow_zero]
  | k + 1 => by rw [Int.pow_succ, H.mul, H.pow x k, Semiring.pow_succ]
theorem Hm.neg1 (H : Hm q f) : f (q - 1) = -1 := by
  have h1 : f q = f 0 := by rw [← H.md q, Int.emod_self]
  rw [H.sub, h1, H.zero, H.one]; grind
/-- reduced rows that map alike are alike -/
theorem Hm.list (H : Hm q f) : ∀ {xs ys : List Int}, Rg q xs → Rg q ys → xs.map f = ys.map f → xs = ys
  | [], [], _, _, _ => rfl
  | [], _ :: _, _, _, h => by simp at h
  | _ :: _, [], _, _, h => by simp at h
  | x :: xs, y :: ys, gx, gy, h => by
    rw [List.map_cons, List.map_cons, List.cons.injEq] at h
    have e := H.inj _ _ h.1
    have gx1 := gx x (.head _)
    have gy1 := gy y (.head _)
    rw [Int.emod_eq_of_lt gx1.1 gx1.2, Int.emod_eq_of_lt gy1.1 gy1.2] at e
    rw [e, H.list (fun z hz => gx z (.tail _ hz)) (fun z hz => gy z (.tail _ hz)) h.2]
theorem Hm.getD (H : Hm q f) (xs : List Int) (i : Nat) : f (xs.getD i 0) = (xs.map f).getD i 0 := by
  rw [List.getD_eq_getElem?_getD, List.getD_eq_getElem?_getD, List.getElem?_map]
  cases xs[i]? with
  | none => exact H.zero
  | some x => rfl
/-! the transforms over the ring -/
def bfR (c : R) (half b : Nat) (fs : List R) (t : Nat) : List R := (fs.set (b + t) (fs.getD (b + t) 0 + fs.getD (b + t + half) 0)).set (b + t + half) ((fs.getD (b + t) 0 - fs.getD (b + t + half) 0) * c ^ t)
def innerR (c : R) (half b n : Nat) (fs : List R) : List R := (List.range n).foldl (bfR c half b) fs
def stageR (c : R) (half n : Nat) (fs : List R) : List R := (List.range n).foldl (fun fs i => innerR c half (i * (2 * half)) half fs) fs
def fwR (K : Nat) : Nat → R → List R → List R
  | 0, _, fs => fs
  | j + 1, r, fs => fwR K j (r * r) (stageR r (2 ^ j) (2 ^ (K - (j + 1))) fs)
def bbfR (c : R) (half b : Nat) (fs : List R) (t : Nat) : List R := (fs.set (b + t) (fs.getD (b + t) 0 + fs.getD (b + t + half) 0 * c ^ t)).set (b + t + half) (fs.getD (b + t) 0 - fs.getD (b + t + half) 0 * c ^ t)
def binnerR (c : R) (half b n : Nat) (fs : List R) : List R := (List.range n).foldl (bbfR c half b) fs
def bstageR (c : R) (half n : Nat) (fs : List R) : List R := (List.range n).foldl (fun fs i => binnerR c half (i * (2 * half)) half fs) fs
def bwR (T : R) (K : Nat) : Nat → List R → List R
  | 0, fs => fs
  | j + 1, fs => bstageR (T ^ (2 ^ (K - (j + 1)))) (2 ^ j) (2 ^ (K - (j + 1))) (bwR T K j fs)
theorem foldl_map {g : List Int → Nat → List Int} {g' : List R → Nat → List R} (h : ∀ fs t, (g fs t).map f = g' (fs.map f) t) : ∀ (l : List Nat) (fs : List Int), (l.foldl g fs).map f = l.foldl g' (fs.map f)
  | [], _ => rfl
  | t :: l, fs => by rw [List.foldl_cons, List.foldl_cons, foldl_map h l, h]
theorem Hm.bf (H : Hm q f) {c : Int} {half b : Nat} (fs : List Int) (t : Nat) : (bf q c half b fs t).map f = bfR (f c) half b (fs.map f) t := by
  rw [Mine.bf, bfR, List.map_set, List.map_set, H.md, H.md, H.add, H.mul, H.sub, H.md, H.pow, H.getD, H.getD]
theorem Hm.stage (H : Hm q f) {c : Int} {half n : Nat} (fs : List Int) : (stage q c half n fs).map f = stageR (f c) half n (fs.map f) := foldl_map (fun fs i => foldl_map (fun fs t => H.bf fs t) _ fs) _ fs
theorem Hm.fwGo (H : Hm q f) {K : Nat} : ∀ (j : Nat) (c : Int) (fs : List Int), (fwGo q K j c fs).map f = fwR K j (f c) (fs.map f)
  | 0, _, _ => rfl
  | j + 1, c, fs => by rw [Mine.fwGo, fwR, H.fwGo j, H.stage, H.md, H.mul]
theorem Hm.fw (H : Hm q f) {K : Nat} (r : Int) (xs : List Int) : (fw q r K xs).map f = fwR K K (f r) (xs.map f) := by
  rw [Mine.fw, H.fwGo, List.map_map]
  congr 1
  exact List.map_congr_left fun x _ => H.md x
theorem Hm.bbf (H : Hm q f) {c : Int} {half b : Nat} (fs : List Int) (t : Nat) : (bbf q c half b fs t).map f = bbfR (f c) half b (fs.map f) t := by
  rw [Mine.bbf, bbfR, List.map_set, List.map_set, H.md, H.md, H.add, H.sub, H.md, H.mul, H.md, H.pow, H.getD, H.getD]
theorem Hm.bstage (H : Hm q f) {c : Int} {half n : Nat} (fs : List Int) : (bstage q c half n fs).map f = bstageR (f c) half n (fs.map f) := foldl_map (fun fs i => foldl_map (fun fs t => H.bbf fs t) _ fs) _ fs
theorem Hm.bwTo (H : Hm q f) {T : Int} {K : Nat} : ∀ (j : Nat) (fs : List Int), (bwTo q T K j fs).map f = bwR (f T) K j (fs.map f)
  | 0, _ => rfl
  | j + 1, fs => by rw [Mine.bwTo, bwR, H.bstage, H.bwTo j, H.md, H.pow]
theorem Hm.bw (H : Hm q f) {K : Nat} (r : Int) (xs : List Int) : (bw q r K xs).map f = (bwR (f r ^ (2 ^ K - 1)) K K (xs.map f)).map fun x => x * f ((2 ^ K : Int) ^ (q - 2).toNat) := by
  rw [Mine.bw, List.map_map, ← H.pow, ← H.md (r ^ _), ← H.bwTo, List.map_map]
  refine List.map_congr_left fun x _ => ?_
  show f (x * _ % q) = f x * _
  rw [H.md, H.mul, H.md]
/-- a row's value at P -/
def ev (P : R) : List R → R
  | [] => 0
  | x :: xs => x + P * ev P xs
end
end Mine

namespace Mine
open Lean.Grind
section
variable {R : Type} [CommRing R]
theorem fwR1 (ρ x0 x1 : R) (h : ρ = -1) : fwR 1 1 ρ [x0, x1] = [ev (ρ ^ 0) [x0, x1], ev (ρ ^ 1) [x0, x1]] := by
  simp only [fwR, stageR, innerR, bfR, List.range_succ, List.range_zero, List.nil_append, List.foldl_cons, List.foldl_nil, List.cons_append, List.getD_cons_zero, List.getD_cons_succ, List.set_cons_zero, List.set_cons_succ, Nat.zero_mul, Nat.zero_add, Nat.add_zero, Nat.sub_self, Nat.pow_zero, Nat.one_mul, Nat.reduceAdd, Nat.reduceSub, Nat.reduceMul, Nat.reducePow, ev, List.cons.injEq, and_true]
  refine ⟨?_, ?_⟩ <;> grind
theorem fwR2 (ρ x0 x1 x2 x3 : R) (h : ρ ^ 2 = -1) : fwR 2 2 ρ [x0, x1, x2, x3] = [ev (ρ ^ 0) [x0, x1, x2, x3], ev (ρ ^ 2) [x0, x1, x2, x3], ev (ρ ^ 1) [x0, x1, x2, x3], ev (ρ ^ 3) [x0, x1, x2, x3]] := by
  simp only [fwR, stageR, innerR, bfR, List.range_succ, List.range_zero, List.nil_append, List.foldl_cons, List.foldl_nil, List.cons_append, List.getD_cons_zero, List.getD_cons_succ, List.set_cons_zero, List.set_cons_succ, Nat.zero_mul, Nat.zero_add, Nat.add_zero, Nat.sub_self, Nat.pow_zero, Nat.one_mul, Nat.reduceAdd, Nat.reduceSub, Nat.reduceMul, Nat.reducePow, ev, List.cons.injEq, and_true]
  refine ⟨?_, ?_, ?_, ?_⟩ <;> grind
theorem fwR3 (ρ x0 x1 x2 x3 x4 x5 x6 x7 : R) (h : ρ ^ 4 = -1) : fwR 3 3 ρ [x0, x1, x2, x3, x4, x5, x6, x7] = [ev (ρ ^ 0) [x0, x1, x2, x3, x4, x5, x6, x7], ev (ρ ^ 4) [x0, x1, x2, x3, x4, x5, x6, x7], ev (ρ ^ 2) [x0, x1, x2, x3, x4, x5, x6, x7], ev (ρ ^ 6) [x0, x1, x2, x3, x4, x5, x6, x7], ev (ρ ^ 1) [x0, x1, x2, x3, x4, x5, x6, x7], ev (ρ ^ 5) [x0, x1, x2, x3, x4, x5, x6, x7], ev (ρ ^ 3) [x0, x1, x2, x3, x4, x5, x6, x7], ev (ρ ^ 7) [x0, x1, x2, x3, x4, x5, x6, x7]] := by
  simp only [fwR, stageR, innerR, bfR, List.range_succ, List.range_zero, List.nil_append, List.foldl_cons, List.foldl_nil, List.cons_append, List.getD_cons_zero, List.getD_cons_succ, List.set_cons_zero, List.set_cons_succ, Nat.zero_mul, Nat.zero_add, Nat.add_zero, Nat.sub_self, Nat.pow_zero, Nat.one_mul, Nat.reduceAdd, Nat.reduceSub, Nat.reduceMul, Nat.reducePow, ev, List.cons.injEq, and_true]
  refine ⟨?_, ?_, ?_, ?_, ?_, ?_, ?_, ?_⟩ <;> grind
end
end Mine

namespace Mine
open Lean.Grind
section
variable {R : Type} [CommRing R]
theorem foldl_len {g : List R → Nat → List R} (h : ∀ fs t, (g fs t).length = fs.length) : ∀ (l : List Nat) (fs : List R), (l.foldl g fs).length = fs.length
  | [], _ => rfl
  | t :: l, fs => by rw [List.foldl_cons, foldl_len h l, h]
theorem stageR_length (c : R) (half n : Nat) (fs : List R) : (stageR c half n fs).length = fs.length := foldl_len (fun fs i => foldl_len (fun fs t => by simp [bfR]) _ fs) _ fs
theorem bstageR_length (c : R) (half n : Nat) (fs : List R) : (bstageR c half n fs).length = fs.length := foldl_len (fun fs i => foldl_len (fun fs t => by simp [bbfR]) _ fs) _ fs
theorem foldl_scale {k : R} {g : List R → Nat → List R} (h : ∀ fs t, g (fs.map fun x => k * x) t = (g fs t).map fun x => k * x) : ∀ (l : List Nat) (fs : List R), l.foldl g (fs.map fun x => k * x) = (l.foldl g fs).map fun x => k * x
  | [], _ => rfl
  | t :: l, fs => by rw [List.foldl_cons, List.foldl_cons, h, foldl_scale h l]
theorem getD_scale (k : R) (fs : List R) (i : Nat) : (fs.map fun x => k * x).getD i 0 = k * fs.getD i 0 := by
  rw [List.getD_eq_getElem?_getD, List.getD_eq_getElem?_getD, List.getElem?_map]
  cases fs[i]? with
  | none => show (0 : R) = k * 0; grind
  | some x => rfl
theorem add_scale (k a b : R) : k * a + k * b = k * (a + b) := by grind
theorem sub_scale (k a b : R) : k * a - k * b = k * (a - b) := by grind
theorem stageR_scale (k c : R) (half n : Nat) (fs : List R) : stageR c half n (fs.map fun x => k * x) = (stageR c half n fs).map fun x => k * x :=
  foldl_scale (fun fs i => foldl_scale (fun fs t => by rw [bfR, bfR, getD_scale, getD_scale, List.map_set, List.map_set, add_scale, sub_scale, Semiring.mul_assoc]) _ fs) _ fs
theorem bstageR_scale (k c : R) (half n : Nat) (fs : List R) : bstageR c half n (fs.map fun x => k * x) = (bstageR c half n fs).map fun x => k * x :=
  foldl_scale (fun fs i => foldl_scale (fun fs t => by rw [bbfR, bbfR, getD_scale, getD_scale, List.map_set, List.map_set, Semiring.mul_assoc, add_scale, sub_scale]) _ fs) _ fs
theorem cdt {c d : R} (h : c * d = 1) : ∀ t : Nat, c ^ t * d ^ t = 1
  | 0 => by grind
  | t + 1 => by have := cdt h t; grind
theorem e1 {c d : R} (h : c * d = 1) (a b : R) (t : Nat) : (a + b) + (a - b) * c ^ t * d ^ t = 2 * a := by have := cdt h t; grind
theorem e2 {c d : R} (h : c * d = 1) (a b : R) (t : Nat) : (a + b) - (a - b) * c ^ t * d ^ t = 2 * b := by have := cdt h t; grind
theorem e3 (d a b : R) (t : Nat) : (a + b * d ^ t) + (a - b * d ^ t) = 2 * a := by grind
theorem e4 {c d : R} (h : c * d = 1) (a b : R) (t : Nat) : ((a + b * d ^ t) - (a - b * d ^ t)) * c ^ t = 2 * b := by have := cdt h t; grind

theorem lenR2 {α : Type} {xs : List α} (h : xs.length = 2) : ∃ x0 x1, xs = [x0, x1] := by
  rcases xs with (_ | ⟨x0, (_ | ⟨x1, (_ | ⟨xz, tz⟩)⟩)⟩) <;> first | (simp at h; done) | exact ⟨x0, x1, rfl⟩ | (exfalso; simp at h; omega)

theorem list2 {a0 a1 b0 b1 : R} (h0 : a0 = b0) (h1 : a1 = b1) : [a0, a1] = [b0, b1] := by
  subst h0 h1
  rfl
theorem bs2_1 {c d : R} (h : c * d = 1) {xs : List R} (hx : xs.length = 2) : bstageR d 1 1 (stageR c 1 1 xs) = xs.map fun x => 2 * x := by
  obtain ⟨x0, x1, rfl⟩ := lenR2 hx
  simp only [bstageR, binnerR, bbfR, stageR, innerR, bfR, List.range_succ, List.range_zero, List.nil_append, List.foldl_cons, List.foldl_nil, List.cons_append, List.getD_cons_zero, List.getD_cons_succ, List.set_cons_zero, List.set_cons_succ, Nat.zero_mul, Nat.zero_add, Nat.add_zero, Nat.one_mul, Nat.reduceAdd, Nat.reduceSub, Nat.reduceMul, List.map_cons, List.map_nil]
  exact list2 (e1 h x0 x1 0) (e2 h x0 x1 0)
theorem sb2_1 {c d : R} (h : c * d = 1) {xs : List R} (hx : xs.length = 2) : stageR c 1 1 (bstageR d 1 1 xs) = xs.map fun x => 2 * x := by
  obtain ⟨x0, x1, rfl⟩ := lenR2 hx
  simp only [bstageR, binnerR, bbfR, stageR, innerR, bfR, List.range_succ, List.range_zero, List.nil_append, List.foldl_cons, List.foldl_nil, List.cons_append, List.getD_cons_zero, List.getD_cons_succ, List.set_cons_zero, List.set_cons_succ, Nat.zero_mul, Nat.zero_add, Nat.add_zero, Nat.one_mul, Nat.reduceAdd, Nat.reduceSub, Nat.reduceMul, List.map_cons, List.map_nil]
  exact list2 (e3 d x0 x1 0) (e4 h x0 x1 0)
theorem lenR4 {α : Type} {xs : List α} (h : xs.length = 4) : ∃ x0 x1 x2 x3, xs = [x0, x1, x2, x3] := by
  rcases xs with (_ | ⟨x0, (_ | ⟨x1, (_ | ⟨x2, (_ | ⟨x3, (_ | ⟨xz, tz⟩)⟩)⟩)⟩)⟩) <;> first | (simp at h; done) | exact ⟨x0, x1, x2, x3, rfl⟩ | (exfalso; simp at h; omega)

theorem list4 {a0 a1 a2 a3 b0 b1 b2 b3 : R} (h0 : a0 = b0) (h1 : a1 = b1) (h2 : a2 = b2) (h3 : a3 = b3) : [a0, a1, a2, a3] = [b0, b1, b2, b3] := by
  subst h0 h1 h2 h3
  rfl
theorem bs4_2 {c d : R} (h : c * d = 1) {xs : List R} (hx : xs.length = 4) : bstageR d 2 1 (stageR c 2 1 xs) = xs.map fun x => 2 * x := by
  obtain ⟨x0, x1, x2, x3, rfl⟩ := lenR4 hx
  simp only [bstageR, binnerR, bbfR, stageR, innerR, bfR, List.range_succ, List.range_zero, List.nil_append, List.foldl_cons, List.foldl_nil, List.cons_append, List.getD_cons_zero, List.getD_cons_succ, List.set_cons_zero, List.set_cons_succ, Nat.zero_mul, Nat.zero_add, Nat.add_zero, Nat.one_mul, Nat.reduceAdd, Nat.reduceSub, Nat.reduceMul, List.map_cons, List.map_nil]
  exact list4 (e1 h x0 x2 0) (e1 h x1 x3 1) (e2 h x0 x2 0) (e2 h x1 x3 1)
theorem sb4_2 {c d : R} (h : c * d = 1) {xs : List R} (hx : xs.length = 4) : stageR c 2 1 (bstageR d 2 1 xs) = xs.map fun x => 2 * x := by
  obtain ⟨x0, x1, x2, x3, rfl⟩ := lenR4 hx
  simp only [bstageR, binnerR, bbfR, stageR, innerR, bfR, List.range_succ, List.range_zero, List.nil_append, List.foldl_cons, List.foldl_nil, List.cons_append, List.getD_cons_zero, List.getD_cons_succ, List.set_cons_zero, List.set_cons_succ, Nat.zero_mul, Nat.zero_add, Nat.add_zero, Nat.one_mul, Nat.reduceAdd, Nat.reduceSub, Nat.reduceMul, List.map_cons, List.map_nil]
  exact list4 (e3 d x0 x2 0) (e3 d x1 x3 1) (e4 h x0 x2 0) (e4 h x1 x3 1)
theorem bs4_1 {c d : R} (h : c * d = 1) {xs : List R} (hx : xs.length = 4) : bstageR d 1 2 (stageR c 1 2 xs) = xs.map fun x => 2 * x := by
  obtain ⟨x0, x1, x2, x3, rfl⟩ := lenR4 hx
  simp only [bstageR, binnerR, bbfR, stageR, innerR, bfR, List.range_succ, List.range_zero, List.nil_append, List.foldl_cons, List.foldl_nil, List.cons_append, List.getD_cons_zero, List.getD_cons_succ, List.set_cons_zero, List.set_cons_succ, Nat.zero_mul, Nat.zero_add, Nat.add_zero, Nat.one_mul, Nat.reduceAdd, Nat.reduceSub, Nat.reduceMul, List.map_cons, List.map_nil]
  exact list4 (e1 h x0 x1 0) (e2 h x0 x1 0) (e1 h x2 x3 0) (e2 h x2 x3 0)
theorem sb4_1 {c d : R} (h : c * d = 1) {xs : List R} (hx : xs.length = 4) : stageR c 1 2 (bstageR d 1 2 xs) = xs.map fun x => 2 * x := by
  obtain ⟨x0, x1, x2, x3, rfl⟩ := lenR4 hx
  simp only [bstageR, binnerR, bbfR, stageR, innerR, bfR, List.range_succ, List.range_zero, List.nil_append, List.foldl_cons, List.foldl_nil, List.cons_append, List.getD_cons_zero, List.getD_cons_succ, List.set_cons_zero, List.set_cons_succ, Nat.zero_mul, Nat.zero_add, Nat.add_zero, Nat.one_mul, Nat.reduceAdd, Nat.reduceSub, Nat.reduceMul, List.map_cons, List.map_nil]
  exact list4 (e3 d x0 x1 0) (e4 h x0 x1 0) (e3 d x2 x3 0) (e4 h x2 x3 0)
theorem lenR8 {α : Type} {xs : List α} (h : xs.length = 8) : ∃ x0 x1 x2 x3 x4 x5 x6 x7, xs = [x0, x1, x2, x3, x4, x5, x6, x7] := by
  rcases xs with (_ | ⟨x0, (_ | ⟨x1, (_ | ⟨x2, (_ | ⟨x3, (_ | ⟨x4, (_ | ⟨x5, (_ | ⟨x6, (_ | ⟨x7, (_ | ⟨xz, tz⟩)⟩)⟩)⟩)⟩)⟩)⟩)⟩)⟩) <;> first | (simp at h; done) | exact ⟨x0, x1, x2, x3, x4, x5, x6, x7, rfl⟩ | (exfalso; simp at h; omega)

theorem list8 {a0 a1 a2 a3 a4 a5 a6 a7 b0 b1 b2 b3 b4 b5 b6 b7 : R} (h0 : a0 = b0) (h1 : a1 = b1) (h2 : a2 = b2) (h3 : a3 = b3) (h4 : a4 = b4) (h5 : a5 = b5) (h6 : a6 = b6) (h7 : a7 = b7) : [a0, a1, a2, a3, a4, a5, a6, a7] = [b0, b1, b2, b3, b4, b5, b6, b7] := by
  subst h0 h1 h2 h3 h4 h5 h6 h7
  rfl
theorem bs8_4 {c d : R} (h : c * d = 1) {xs : List R} (hx : xs.length = 8) : bstageR d 4 1 (stageR c 4 1 xs) = xs.map fun x => 2 * x := by
  obtain ⟨x0, x1, x2, x3, x4, x5, x6, x7, rfl⟩ := lenR8 hx
  simp only [bstageR, binnerR, bbfR, stageR, innerR, bfR, List.range_succ, List.range_zero, List.nil_append, List.foldl_cons, List.foldl_nil, List.cons_append, List.getD_cons_zero, List.getD_cons_succ, List.set_cons_zero, List.set_cons_succ, Nat.zero_mul, Nat.zero_add, Nat.add_zero, Nat.one_mul, Nat.reduceAdd, Nat.reduceSub, Nat.reduceMul, List.map_cons, List.map_nil]
  exact list8 (e1 h x0 x4 0) (e1 h x1 x5 1) (e1 h x2 x6 2) (e1 h x3 x7 3) (e2 h x0 x4 0) (e2 h x1 x5 1) (e2 h x2 x6 2) (e2 h x3 x7 3)
theorem sb8_4 {c d : R} (h : c * d = 1) {xs : List R} (hx : xs.length = 8) : stageR c 4 1 (bstageR d 4 1 xs) = xs.map fun x => 2 * x := by
  obtain ⟨x0, x1, x2, x3, x4, x5, x6, x7, rfl⟩ := lenR8 hx
  simp only [bstageR, binnerR, bbfR, stageR, innerR, bfR, List.range_succ, List.range_zero, List.nil_append, List.foldl_cons, List.foldl_nil, List.cons_append, List.getD_cons_zero, List.getD_cons_succ, List.set_cons_zero, List.set_cons_succ, Nat.zero_mul, Nat.zero_add, Nat.add_zero, Nat.one_mul, Nat.reduceAdd, Nat.reduceSub, Nat.reduceMul, List.map_cons, List.map_nil]
  exact list8 (e3 d x0 x4 0) (e3 d x1 x5 1) (e3 d x2 x6 2) (e3 d x3 x7 3) (e4 h x0 x4 0) (e4 h x1 x5 1) (e4 h x2 x6 2) (e4 h x3 x7 3)
theorem bs8_2 {c d : R} (h : c * d = 1) {xs : List R} (hx : xs.length = 8) : bstageR d 2 2 (stageR c 2 2 xs) = xs.map fun x => 2 * x := by
  obtain ⟨x0, x1, x2, x3, x4, x5, x6, x7, rfl⟩ := lenR8 hx
  simp only [bstageR, binnerR, bbfR, stageR, innerR, bfR, List.range_succ, List.range_zero, List.nil_append, List.foldl_cons, List.foldl_nil, List.cons_append, List.getD_cons_zero, List.getD_cons_succ, List.set_cons_zero, List.set_cons_succ, Nat.zero_mul, Nat.zero_add, Nat.add_zero, Nat.one_mul, Nat.reduceAdd, Nat.reduceSub, Nat.reduceMul, List.map_cons, List.map_nil]
  exact list8 (e1 h x0 x2 0) (e1 h x1 x3 1) (e2 h x0 x2 0) (e2 h x1 x3 1) (e1 h x4 x6 0) (e1 h x5 x7 1) (e2 h x4 x6 0) (e2 h x5 x7 1)
theorem sb8_2 {c d : R} (h : c * d = 1) {xs : List R} (hx : xs.length = 8) : stageR c 2 2 (bstageR d 2 2 xs) = xs.map fun x => 2 * x := by
  obtain ⟨x0, x1, x2, x3, x4, x5, x6, x7, rfl⟩ := lenR8 hx
  simp only [bstageR, binnerR, bbfR, stageR, innerR, bfR, List.range_succ, List.range_zero, List.nil_append, List.foldl_cons, List.foldl_nil, List.cons_append, List.getD_cons_zero, List.getD_cons_succ, List.set_cons_zero, List.set_cons_succ, Nat.zero_mul, Nat.zero_add, Nat.add_zero, Nat.one_mul, Nat.reduceAdd, Nat.reduceSub, Nat.reduceMul, List.map_cons, List.map_nil]
  exact list8 (e3 d x0 x2 0) (e3 d x1 x3 1) (e4 h x0 x2 0) (e4 h x1 x3 1) (e3 d x4 x6 0) (e3 d x5 x7 1) (e4 h x4 x6 0) (e4 h x5 x7 1)
theorem bs8_1 {c d : R} (h : c * d = 1) {xs : List R} (hx : xs.length = 8) : bstageR d 1 4 (stageR c 1 4 xs) = xs.map fun x => 2 * x := by
  obtain ⟨x0, x1, x2, x3, x4, x5, x6, x7, rfl⟩ := lenR8 hx
  simp only [bstageR, binnerR, bbfR, stageR, innerR, bfR, List.range_succ, List.range_zero, List.nil_append, List.foldl_cons, List.foldl_nil, List.cons_append, List.getD_cons_zero, List.getD_cons_succ, List.set_cons_zero, List.set_cons_succ, Nat.zero_mul, Nat.zero_add, Nat.add_zero, Nat.one_mul, Nat.reduceAdd, Nat.reduceSub, Nat.reduceMul, List.map_cons, List.map_nil]
  exact list8 (e1 h x0 x1 0) (e2 h x0 x1 0) (e1 h x2 x3 0) (e2 h x2 x3 0) (e1 h x4 x5 0) (e2 h x4 x5 0) (e1 h x6 x7 0) (e2 h x6 x7 0)
theorem sb8_1 {c d : R} (h : c * d = 1) {xs : List R} (hx : xs.length = 8) : stageR c 1 4 (bstageR d 1 4 xs) = xs.map fun x => 2 * x := by
  obtain ⟨x0, x1, x2, x3, x4, x5, x6, x7, rfl⟩ := lenR8 hx
  simp only [bstageR, binnerR, bbfR, stageR, innerR, bfR, List.range_succ, List.range_zero, List.nil_append, List.foldl_cons, List.foldl_nil, List.cons_append, List.getD_cons_zero, List.getD_cons_succ, List.set_cons_zero, List.set_cons_succ, Nat.zero_mul, Nat.zero_add, Nat.add_zero, Nat.one_mul, Nat.reduceAdd, Nat.reduceSub, Nat.reduceMul, List.map_cons, List.map_nil]
  exact list8 (e3 d x0 x1 0) (e4 h x0 x1 0) (e3 d x2 x3 0) (e4 h x2 x3 0) (e3 d x4 x5 0) (e4 h x4 x5 0) (e3 d x6 x7 0) (e4 h x6 x7 0)
theorem unscale1 {s : R} (hs : 2 ^ 1 * s = 1) (xs : List R) : (xs.map fun x => 2 * x).map (fun x => x * s) = xs := by
  rw [List.map_map, show ((fun x => x * s) ∘ fun x => 2 * x) = fun x : R => x from funext fun x => by show 2 * x * s = x; grind, List.map_id']
theorem unscale2 {s : R} (hs : 2 ^ 2 * s = 1) (xs : List R) : ((xs.map fun x => 2 * x).map fun x => 2 * x).map (fun x => x * s) = xs := by
  rw [List.map_map, List.map_map, show (((fun x => x * s) ∘ fun x => 2 * x) ∘ fun x => 2 * x) = fun x : R => x from funext fun x => by show 2 * (2 * x) * s = x; grind, List.map_id']
theorem unscale3 {s : R} (hs : 2 ^ 3 * s = 1) (xs : List R) : (((xs.map fun x => 2 * x).map fun x => 2 * x).map fun x => 2 * x).map (fun x => x * s) = xs := by
  rw [List.map_map, List.map_map, List.map_map, show ((((fun x => x * s) ∘ fun x => 2 * x) ∘ fun x => 2 * x) ∘ fun x => 2 * x) = fun x : R => x from funext fun x => by show 2 * (2 * (2 * x)) * s = x; grind, List.map_id']
theorem map_r (s : R) (xs : List R) : xs.map (fun x => x * s) = xs.map fun x => s * x := List.map_congr_left fun x _ => CommSemiring.mul_comm x s
theorem bwfw1 {ρ s : R} {xs : List R} (h : ρ = -1) (hs : 2 ^ 1 * s = 1) (hx : xs.length = 2) : (bwR (ρ ^ 1) 1 1 (fwR 1 1 ρ xs)).map (fun x => x * s) = xs := by
  show (bstageR ((ρ ^ 1) ^ 1) 1 1 (stageR ρ 1 1 xs)).map _ = _
  rw [bs2_1 (by grind) hx, unscale1 hs]
theorem bwfw2 {ρ s : R} {xs : List R} (h : ρ ^ 2 = -1) (hs : 2 ^ 2 * s = 1) (hx : xs.length = 4) : (bwR (ρ ^ 3) 2 2 (fwR 2 2 ρ xs)).map (fun x => x * s) = xs := by
  simp only [bwR, fwR, Nat.reduceAdd, Nat.reduceSub, Nat.reducePow]
  rw [bs4_1 (by grind) (by rw [stageR_length, hx]), bstageR_scale, bs4_2 (by grind) hx, unscale2 hs]
theorem bwfw3 {ρ s : R} {xs : List R} (h : ρ ^ 4 = -1) (hs : 2 ^ 3 * s = 1) (hx : xs.length = 8) : (bwR (ρ ^ 7) 3 3 (fwR 3 3 ρ xs)).map (fun x => x * s) = xs := by
  simp only [bwR, fwR, Nat.reduceAdd, Nat.reduceSub, Nat.reducePow]
  rw [bs8_1 (by grind) (by rw [stageR_length, stageR_length, hx]), bstageR_scale, bs8_2 (by grind) (by rw [stageR_length, hx]), bstageR_scale, bstageR_scale, bs8_4 (by grind) hx, unscale3 hs]
theorem fwbw1 {ρ s : R} {xs : List R} (h : ρ = -1) (hs : 2 ^ 1 * s = 1) (hx : xs.length = 2) : fwR 1 1 ρ ((bwR (ρ ^ 1) 1 1 xs).map fun x => x * s) = xs := by
  rw [map_r]
  show stageR ρ 1 1 ((bstageR ((ρ ^ 1) ^ 1) 1 1 xs).map _) = _
  rw [stageR_scale, sb2_1 (by grind) hx, ← map_r, unscale1 hs]
theorem fwbw2 {ρ s : R} {xs : List R} (h : ρ ^ 2 = -1) (hs : 2 ^ 2 * s = 1) (hx : xs.length = 4) : fwR 2 2 ρ ((bwR (ρ ^ 3) 2 2 xs).map fun x => x * s) = xs := by
  rw [map_r]
  simp only [bwR, fwR, Nat.reduceAdd, Nat.reduceSub, Nat.reducePow]
  rw [stageR_scale, sb4_2 (by grind) (by rw [bstageR_length, hx]), stageR_scale, stageR_scale, sb4_1 (by grind) hx, ← map_r, unscale2 hs]
theorem fwbw3 {ρ s : R} {xs : List R} (h : ρ ^ 4 = -1) (hs : 2 ^ 3 * s = 1) (hx : xs.length = 8) : fwR 3 3 ρ ((bwR (ρ ^ 7) 3 3 xs).map fun x => x * s) = xs := by
  rw [map_r]
  simp only [bwR, fwR, Nat.reduceAdd, Nat.reduceSub, Nat.reducePow]
  rw [stageR_scale, sb8_4 (by grind) (by rw [bstageR_length, bstageR_length, hx]), stageR_scale, stageR_scale, stageR_scale, sb8_2 (by grind) (by rw [bstageR_length, hx]), stageR_scale, stageR_scale, sb8_1 (by grind) hx, ← map_r, unscale3 hs]
end
end Mine

namespace Mine
open Lean.Grind
section
variable {R : Type} [CommRing R] {q : Int} {f : Int → R}

theorem ev_append (P : R) : ∀ A B : List R, ev P (A ++ B) = ev P A + P ^ A.length * ev P B
  | [], B => by rw [List.nil_append, ev, List.length_nil, Semiring.pow_zero]; grind
  | x :: A, B => by rw [List.cons_append, ev, ev, ev_append P A B, List.length_cons, Semiring.pow_succ]; grind
theorem ev_rot (P : R) (A B : List R) (hP : P ^ (A.length + B.length) = 1) : ev P (B ++ A) = ev P (A ++ B) * P ^ B.length := by
  rw [ev_append, ev_append]
  rw [Semiring.pow_add] at hP
  generalize P ^ A.length = u at *
  generalize P ^ B.length = v at *
  grind
theorem ev_add (P : R) (g h : Nat → R) : ∀ l : List Nat, ev P (l.map fun i => g i + h i) = ev P (l.map g) + ev P (l.map h)
  | [] => by show (0 : R) = 0 + 0; grind
  | i :: l => by rw [List.map_cons, List.map_cons, List.map_cons, ev, ev, ev, ev_add P g h l]; grind
theorem ev_unit (P k : R) (a : Nat) : ∀ n : Nat, ev P ((List.range n).map fun i => k * (if i = a then 1 else 0)) = if a < n then k * P ^ a else 0
  | 0 => by rw [if_neg (by omega)]; rfl
  | n + 1 => by
    rw [List.range_succ, List.map_append, ev_append, ev_unit P k a n, List.length_map, List.length_range, List.map_singleton, ev, ev]
    rcases Nat.lt_trichotomy a n with h | h | h
    · rw [if_pos h, if_neg (by omega), if_pos (by omega)]; grind
    · subst h; rw [if_neg (by omega), if_pos rfl, if_pos (by omega)]; grind
    · rw [if_neg (by omega), if_neg (by omega), if_neg (by omega)]; grind
theorem map_getD (xs : List Int) (f : Int → R) : xs.map f = (List.range xs.length).map fun i => f (xs.getD i 0) := by
  refine List.ext_getElem (by simp) fun i h1 h2 => ?_
  rw [List.getElem_map, List.getElem_map, List.getElem_range, List.getD_eq_getElem?_getD, List.getElem?_eq_getElem (by simpa using h1)]
  rfl
theorem evc0 {num r : Int} {n : Nat} {xs ys : List Int} (H : Hm q f) (P : R) (hx : xs.length = n) (a : Nat) (ha : a < n) : ev P ((chg 0 a num q r n xs ys).map f) = ev P (xs.map f) + f num * P ^ a := by
  rw [map_getD xs f, hx, chg, List.map_map]
  have e : (List.range n).map (f ∘ chgE 0 a num q r n xs ys) = (List.range n).map fun i => f (xs.getD i 0) + f num * (if i = a then 1 else 0) := by
    refine List.map_congr_left fun i _ => ?_
    show f ((xs.getD i 0 + num * (if i = a then 1 else 0)) % q) = _
    rw [H.md, H.add, H.mul]
    split
    · rw [H.one]
    · rw [H.zero]
  rw [e, ev_add, ev_unit, if_pos ha]
theorem pwm' (ρ : R) (a : Nat) : ∀ i : Nat, ρ ^ (a * i) = (ρ ^ a) ^ i
  | 0 => by rw [Nat.mul_zero, Semiring.pow_zero, Semiring.pow_zero]
  | i + 1 => by rw [Nat.mul_succ, Semiring.pow_add, pwm' ρ a i, Semiring.pow_succ]
theorem evc1_1 {num r : Int} {ys : List Int} (H : Hm q f) (P : R) (x0 x1 : Int) (hP : P ^ 2 = 1) (a : Nat) (ha : a < 2) : ev P ((chg 1 a num q r 2 [x0, x1] ys).map f) = ev P [f x0, f x1] * P ^ a := by
  rcases (show a = 0 ∨ a = 1 by omega) with rfl | rfl
  · exact ev_rot P [f x0, f x1] [] hP
  · exact ev_rot P [f x0] [f x1] hP
theorem evc2_1 {num r : Int} {ys : List Int} (H : Hm q f) (P : R) (x0 x1 : Int) (a : Nat) : ev P ((chg 2 a num q r 2 [x0, x1] ys).map f) = ev P [f x0, f x1] * f num := by
  rw [show chg 2 a num q r 2 [x0, x1] ys = [x0 * num % q, x1 * num % q] from rfl]; simp only [List.map_cons, List.map_nil, ev, H.md, H.add, H.mul, H.zero, H.one, H.pow, Nat.mul_zero, Nat.mul_one]; grind
theorem evc3_1 {num r : Int} {ys : List Int} (H : Hm q f) (P : R) (x0 x1 : Int) (P' : R) (hP : P ^ 2 = 1) (hP' : P * P' = 1) (a : Nat) : ev P ((chg 3 a num q r 2 [x0, x1] ys).map f) = ev P' [f x0, f x1] := by
  have e : P' = P ^ 1 := by
    have : P' = P ^ 1 * (P * P') := by grind
    rw [this, hP']; grind
  subst e
  rw [show chg 3 a num q r 2 [x0, x1] ys = [x0, x1] from rfl]; simp only [List.map_cons, List.map_nil, ev, H.md, H.add, H.mul, H.zero, H.one, H.pow, Nat.mul_zero, Nat.mul_one]; clear hP'; grind
theorem evc4_1 {num r : Int} (H : Hm q f) (P : R) (x0 x1 y0 y1 : Int) (a : Nat) : ev P ((chg 4 a num q r 2 [x0, x1] [y0, y1]).map f) = ev P [f x0, f x1] + ev P [f y0, f y1] := by
  rw [show chg 4 a num q r 2 [x0, x1] [y0, y1] = [(x0 + y0) % q, (x1 + y1) % q] from rfl]; simp only [List.map_cons, List.map_nil, ev, H.md, H.add, H.mul, H.zero, H.one, H.pow, Nat.mul_zero, Nat.mul_one]; grind
theorem evc5_1 {num r : Int} {ys : List Int} (H : Hm q f) (P : R) (x0 x1 : Int) (a : Nat) : ev P ((chg 5 a num q r 2 [x0, x1] ys).map f) = ev (f r ^ a * P) [f x0, f x1] := by
  rw [show chg 5 a num q r 2 [x0, x1] ys = [x0 * r ^ (a * 0) % q, x1 * r ^ (a * 1) % q] from rfl]
  simp only [List.map_cons, List.map_nil, ev, H.md, H.add, H.mul, H.zero, H.one, H.pow, Nat.mul_zero, Nat.mul_one]
  generalize f r = ρ
  skip
  generalize ρ ^ a = α
  grind
theorem prodR1 (P a0 a1 b0 b1 : R) (hP : P ^ 2 = 1) : ev P [a0, a1] * ev P [b0, b1] = ev P [a0 * b0 + a1 * b1, a0 * b1 + a1 * b0] := by
  simp only [ev]; grind
theorem sumR1 (ρ c0 c1 : R) (h : ρ = -1) : ev (ρ ^ 0) [c0, c1] + (ev (ρ ^ 1) [c0, c1] + 0) = 2 ^ 1 * c0 := by
  simp only [ev]; grind
theorem evc1_2 {num r : Int} {ys : List Int} (H : Hm q f) (P : R) (x0 x1 x2 x3 : Int) (hP : P ^ 4 = 1) (a : Nat) (ha : a < 4) : ev P ((chg 1 a num q r 4 [x0, x1, x2, x3] ys).map f) = ev P [f x0, f x1, f x2, f x3] * P ^ a := by
  rcases (show a = 0 ∨ a = 1 ∨ a = 2 ∨ a = 3 by omega) with rfl | rfl | rfl | rfl
  · exact ev_rot P [f x0, f x1, f x2, f x3] [] hP
  · exact ev_rot P [f x0, f x1, f x2] [f x3] hP
  · exact ev_rot P [f x0, f x1] [f x2, f x3] hP
  · exact ev_rot P [f x0] [f x1, f x2, f x3] hP
theorem evc2_2 {num r : Int} {ys : List Int} (H : Hm q f) (P : R) (x0 x1 x2 x3 : Int) (a : Nat) : ev P ((chg 2 a num q r 4 [x0, x1, x2, x3] ys).map f) = ev P [f x0, f x1, f x2, f x3] * f num := by
  rw [show chg 2 a num q r 4 [x0, x1, x2, x3] ys = [x0 * num % q, x1 * num % q, x2 * num % q, x3 * num % q] from rfl]; simp only [List.map_cons, List.map_nil, ev, H.md, H.add, H.mul, H.zero, H.one, H.pow, Nat.mul_zero, Nat.mul_one]; grind
theorem evc3_2 {num r : Int} {ys : List Int} (H : Hm q f) (P : R) (x0 x1 x2 x3 : Int) (P' : R) (hP : P ^ 4 = 1) (hP' : P * P' = 1) (a : Nat) : ev P ((chg 3 a num q r 4 [x0, x1, x2, x3] ys).map f) = ev P' [f x0, f x1, f x2, f x3] := by
  have e : P' = P ^ 3 := by
    have : P' = P ^ 3 * (P * P') := by grind
    rw [this, hP']; grind
  subst e
  rw [show chg 3 a num q r 4 [x0, x1, x2, x3] ys = [x0, x3, x2, x1] from rfl]; simp only [List.map_cons, List.map_nil, ev, H.md, H.add, H.mul, H.zero, H.one, H.pow, Nat.mul_zero, Nat.mul_one]; clear hP'; grind
theorem evc4_2 {num r : Int} (H : Hm q f) (P : R) (x0 x1 x2 x3 y0 y1 y2 y3 : Int) (a : Nat) : ev P ((chg 4 a num q r 4 [x0, x1, x2, x3] [y0, y1, y2, y3]).map f) = ev P [f x0, f x1, f x2, f x3] + ev P [f y0, f y1, f y2, f y3] := by
  rw [show chg 4 a num q r 4 [x0, x1, x2, x3] [y0, y1, y2, y3] = [(x0 + y0) % q, (x1 + y1) % q, (x2 + y2) % q, (x3 + y3) % q] from rfl]; simp only [List.map_cons, List.map_nil, ev, H.md, H.add, H.mul, H.zero, H.one, H.pow, Nat.mul_zero, Nat.mul_one]; grind
theorem evc5_2 {num r : Int} {ys : List Int} (H : Hm q f) (P : R) (x0 x1 x2 x3 : Int) (a : Nat) : ev P ((chg 5 a num q r 4 [x0, x1, x2, x3] ys).map f) = ev (f r ^ a * P) [f x0, f x1, f x2, f x3] := by
  rw [show chg 5 a num q r 4 [x0, x1, x2, x3] ys = [x0 * r ^ (a * 0) % q, x1 * r ^ (a * 1) % q, x2 * r ^ (a * 2) % q, x3 * r ^ (a * 3) % q] from rfl]
  simp only [List.map_cons, List.map_nil, ev, H.md, H.add, H.mul, H.zero, H.one, H.pow, Nat.mul_zero, Nat.mul_one]
  generalize f r = ρ
  have e2 : ρ ^ (a * 2) = (ρ ^ a) ^ 2 := pwm' ρ a 2; have e3 : ρ ^ (a * 3) = (ρ ^ a) ^ 3 := pwm' ρ a 3
  rw [e2, e3]
  clear e2 e3
  generalize ρ ^ a = α
  grind
theorem prodR2 (P a0 a1 a2 a3 b0 b1 b2 b3 : R) (hP : P ^ 4 = 1) : ev P [a0, a1, a2, a3] * ev P [b0, b1, b2, b3] = ev P [a0 * b0 + a1 * b3 + a2 * b2 + a3 * b1, a0 * b1 + a1 * b0 + a2 * b3 + a3 * b2, a0 * b2 + a1 * b1 + a2 * b0 + a3 * b3, a0 * b3 + a1 * b2 + a2 * b1 + a3 * b0] := by
  simp only [ev]; grind
theorem sumR2 (ρ c0 c1 c2 c3 : R) (h : ρ ^ 2 = -1) : ev (ρ ^ 0) [c0, c1, c2, c3] + (ev (ρ ^ 2) [c0, c1, c2, c3] + (ev (ρ ^ 1) [c0, c1, c2, c3] + (ev (ρ ^ 3) [c0, c1, c2, c3] + 0))) = 2 ^ 2 * c0 := by
  simp only [ev]; grind
theorem evc1_3 {num r : Int} {ys : List Int} (H : Hm q f) (P : R) (x0 x1 x2 x3 x4 x5 x6 x7 : Int) (hP : P ^ 8 = 1) (a : Nat) (ha : a < 8) : ev P ((chg 1 a num q r 8 [x0, x1, x2, x3, x4, x5, x6, x7] ys).map f) = ev P [f x0, f x1, f x2, f x3, f x4, f x5, f x6, f x7] * P ^ a := by
  rcases (show a = 0 ∨ a = 1 ∨ a = 2 ∨ a = 3 ∨ a = 4 ∨ a = 5 ∨ a = 6 ∨ a = 7 by omega) with rfl | rfl | rfl | rfl | rfl | rfl | rfl | rfl
  · exact ev_rot P [f x0, f x1, f x2, f x3, f x4, f x5, f x6, f x7] [] hP
  · exact ev_rot P [f x0, f x1, f x2, f x3, f x4, f x5, f x6] [f x7] hP
  · exact ev_rot P [f x0, f x1, f x2, f x3, f x4, f x5] [f x6, f x7] hP
  · exact ev_rot P [f x0, f x1, f x2, f x3, f x4] [f x5, f x6, f x7] hP
  · exact ev_rot P [f x0, f x1, f x2, f x3] [f x4, f x5, f x6, f x7] hP
  · exact ev_rot P [f x0, f x1, f x2] [f x3, f x4, f x5, f x6, f x7] hP
  · exact ev_rot P [f x0, f x1] [f x2, f x3, f x4, f x5, f x6, f x7] hP
  · exact ev_rot P [f x0] [f x1, f x2, f x3, f x4, f x5, f x6, f x7] hP
theorem evc2_3 {num r : Int} {ys : List Int} (H : Hm q f) (P : R) (x0 x1 x2 x3 x4 x5 x6 x7 : Int) (a : Nat) : ev P ((chg 2 a num q r 8 [x0, x1, x2, x3, x4, x5, x6, x7] ys).map f) = ev P [f x0, f x1, f x2, f x3, f x4, f x5, f x6, f x7] * f num := by
  rw [show chg 2 a num q r 8 [x0, x1, x2, x3, x4, x5, x6, x7] ys = [x0 * num % q, x1 * num % q, x2 * num % q, x3 * num % q, x4 * num % q, x5 * num % q, x6 * num % q, x7 * num % q] from rfl]; simp only [List.map_cons, List.map_nil, ev, H.md, H.add, H.mul, H.zero, H.one, H.pow, Nat.mul_zero, Nat.mul_one]; grind
theorem evc3_3 {num r : Int} {ys : List Int} (H : Hm q f) (P : R) (x0 x1 x2 x3 x4 x5 x6 x7 : Int) (P' : R) (hP : P ^ 8 = 1) (hP' : P * P' = 1) (a : Nat) : ev P ((chg 3 a num q r 8 [x0, x1, x2, x3, x4, x5, x6, x7] ys).map f) = ev P' [f x0, f x1, f x2, f x3, f x4, f x5, f x6, f x7] := by
  have e : P' = P ^ 7 := by
    have : P' = P ^ 7 * (P * P') := by grind
    rw [this, hP']; grind
  subst e
  rw [show chg 3 a num q r 8 [x0, x1, x2, x3, x4, x5, x6, x7] ys = [x0, x7, x6, x5, x4, x3, x2, x1] from rfl]; simp only [List.map_cons, List.map_nil, ev, H.md, H.add, H.mul, H.zero, H.one, H.pow, Nat.mul_zero, Nat.mul_one]; clear hP'; grind
theorem evc4_3 {num r : Int} (H : Hm q f) (P : R) (x0 x1 x2 x3 x4 x5 x6 x7 y0 y1 y2 y3 y4 y5 y6 y7 : Int) (a : Nat) : ev P ((chg 4 a num q r 8 [x0, x1, x2, x3, x4, x5, x6, x7] [y0, y1, y2, y3, y4, y5, y6, y7]).map f) = ev P [f x0, f x1, f x2, f x3, f x4, f x5, f x6, f x7] + ev P [f y0, f y1, f y2, f y3, f y4, f y5, f y6, f y7] := by
  rw [show chg 4 a num q r 8 [x0, x1, x2, x3, x4, x5, x6, x7] [y0, y1, y2, y3, y4, y5, y6, y7] = [(x0 + y0) % q, (x1 + y1) % q, (x2 + y2) % q, (x3 + y3) % q, (x4 + y4) % q, (x5 + y5) % q, (x6 + y6) % q, (x7 + y7) % q] from rfl]; simp only [List.map_cons, List.map_nil, ev, H.md, H.add, H.mul, H.zero, H.one, H.pow, Nat.mul_zero, Nat.mul_one]; grind
theorem evc5_3 {num r : Int} {ys : List Int} (H : Hm q f) (P : R) (x0 x1 x2 x3 x4 x5 x6 x7 : Int) (a : Nat) : ev P ((chg 5 a num q r 8 [x0, x1, x2, x3, x4, x5, x6, x7] ys).map f) = ev (f r ^ a * P) [f x0, f x1, f x2, f x3, f x4, f x5, f x6, f x7] := by
  rw [show chg 5 a num q r 8 [x0, x1, x2, x3, x4, x5, x6, x7] ys = [x0 * r ^ (a * 0) % q, x1 * r ^ (a * 1) % q, x2 * r ^ (a * 2) % q, x3 * r ^ (a * 3) % q, x4 * r ^ (a * 4) % q, x5 * r ^ (a * 5) % q, x6 * r ^ (a * 6) % q, x7 * r ^ (a * 7) % q] from rfl]
  simp only [List.map_cons, List.map_nil, ev, H.md, H.add, H.mul, H.zero, H.one, H.pow, Nat.mul_zero, Nat.mul_one]
  generalize f r = ρ
  have e2 : ρ ^ (a * 2) = (ρ ^ a) ^ 2 := pwm' ρ a 2; have e3 : ρ ^ (a * 3) = (ρ ^ a) ^ 3 := pwm' ρ a 3; have e4 : ρ ^ (a * 4) = (ρ ^ a) ^ 4 := pwm' ρ a 4; have e5 : ρ ^ (a * 5) = (ρ ^ a) ^ 5 := pwm' ρ a 5; have e6 : ρ ^ (a * 6) = (ρ ^ a) ^ 6 := pwm' ρ a 6; have e7 : ρ ^ (a * 7) = (ρ ^ a) ^ 7 := pwm' ρ a 7
  rw [e2, e3, e4, e5, e6, e7]
  clear e2 e3 e4 e5 e6 e7
  generalize ρ ^ a = α
  grind
theorem prodR3 (P a0 a1 a2 a3 a4 a5 a6 a7 b0 b1 b2 b3 b4 b5 b6 b7 : R) (hP : P ^ 8 = 1) : ev P [a0, a1, a2, a3, a4, a5, a6, a7] * ev P [b0, b1, b2, b3, b4, b5, b6, b7] = ev P [a0 * b0 + a1 * b7 + a2 * b6 + a3 * b5 + a4 * b4 + a5 * b3 + a6 * b2 + a7 * b1, a0 * b1 + a1 * b0 + a2 * b7 + a3 * b6 + a4 * b5 + a5 * b4 + a6 * b3 + a7 * b2, a0 * b2 + a1 * b1 + a2 * b0 + a3 * b7 + a4 * b6 + a5 * b5 + a6 * b4 + a7 * b3, a0 * b3 + a1 * b2 + a2 * b1 + a3 * b0 + a4 * b7 + a5 * b6 + a6 * b5 + a7 * b4, a0 * b4 + a1 * b3 + a2 * b2 + a3 * b1 + a4 * b0 + a5 * b7 + a6 * b6 + a7 * b5, a0 * b5 + a1 * b4 + a2 * b3 + a3 * b2 + a4 * b1 + a5 * b0 + a6 * b7 + a7 * b6, a0 * b6 + a1 * b5 + a2 * b4 + a3 * b3 + a4 * b2 + a5 * b1 + a6 * b0 + a7 * b7, a0 * b7 + a1 * b6 + a2 * b5 + a3 * b4 + a4 * b3 + a5 * b2 + a6 * b1 + a7 * b0] := by
  simp only [ev]; grind
theorem sumR3 (ρ c0 c1 c2 c3 c4 c5 c6 c7 : R) (h : ρ ^ 4 = -1) : ev (ρ ^ 0) [c0, c1, c2, c3, c4, c5, c6, c7] + (ev (ρ ^ 4) [c0, c1, c2, c3, c4, c5, c6, c7] + (ev (ρ ^ 2) [c0, c1, c2, c3, c4, c5, c6, c7] + (ev (ρ ^ 6) [c0, c1, c2, c3, c4, c5, c6, c7] + (ev (ρ ^ 1) [c0, c1, c2, c3, c4, c5, c6, c7] + (ev (ρ ^ 5) [c0, c1, c2, c3, c4, c5, c6, c7] + (ev (ρ ^ 3) [c0, c1, c2, c3, c4, c5, c6, c7] + (ev (ρ ^ 7) [c0, c1, c2, c3, c4, c5, c6, c7] + 0))))))) = 2 ^ 3 * c0 := by
  simp only [ev]; grind
end
end Mine

namespace Mine
open Lean.Grind

theorem ex_hm {q : Int} (q0 : 0 < q) : ∃ (R : Type) (_ : CommRing R) (f : Int → R), Hm q f := by
  have : NeZero q.toNat := ⟨by omega⟩
  have h := hm_phi (n := q.toNat)
  rw [Int.toNat_of_nonneg (by omega)] at h
  exact ⟨_, _, _, h⟩
section
variable {R : Type} [CommRing R] {q r : Int} {f : Int → R} {K : Nat} {xs ys : List Int}
theorem Hm.half (H : Hm q f) (T : Tb K q r) : f r ^ 2 ^ (K - 1) = -1 := by rw [← H.pow, ← H.md, T.half, H.neg1]
theorem fw_ev (H : Hm q f) (T : Tb K q r) (hx : xs.length = 2 ^ K) : (fw q r K xs).map f = (rvL K).map fun pl => ev (f r ^ pl.toNat) (xs.map f) := by
  have hh := H.half T
  have h0 := T.k0; have h3 := T.k3
  rw [H.fw]
  rcases (show K = 1 ∨ K = 2 ∨ K = 3 by omega) with rfl | rfl | rfl
  · obtain ⟨x0, x1, rfl⟩ := lenR2 hx
    exact fwR1 (f r) (f x0) (f x1) (by rw [← hh]; exact (Semiring.pow_one _).symm)
  · obtain ⟨x0, x1, x2, x3, rfl⟩ := lenR4 hx
    exact fwR2 (f r) (f x0) (f x1) (f x2) (f x3) hh
  · obtain ⟨x0, x1, x2, x3, x4, x5, x6, x7, rfl⟩ := lenR8 hx
    exact fwR3 (f r) (f x0) (f x1) (f x2) (f x3) (f x4) (f x5) (f x6) (f x7) hh
theorem dft_sum (H : Hm q f) (pl : Nat) : ∀ xs : List Int, f (((List.range xs.length).map fun i => xs.getD i 0 * r ^ (i * pl)).sum) = ev (f r ^ pl) (xs.map f)
  | [] => H.zero
  | x :: xs => by
    have ih := dft_sum H pl xs
    rw [List.length_cons, List.range_succ_eq_map, List.map_cons, List.map_map, List.sum_cons, List.map_cons, ev, ← ih, ← H.pow, ← H.mul, H.add, Nat.zero_mul, Int.pow_zero, Int.mul_one, List.getD_cons_zero]
    congr 2
    generalize List.range xs.length = l
    induction l with
    | nil => simp
    | cons i l ihl =>
      rw [List.map_cons, List.sum_cons, List.map_cons, List.sum_cons, Int.mul_add, ihl]
      congr 1
      show (x :: xs).getD (i + 1) 0 * r ^ ((i + 1) * pl) = _
      rw [List.getD_cons_succ, Nat.add_mul, Nat.one_mul, Int.pow_add]
      rw [← Int.mul_assoc, Int.mul_comm]
theorem M1 (T : Tb K q r) (hx : xs.length = 2 ^ K) : fw q r K xs = (rvL K).map fun pl => dft q r xs pl.toNat := by
  have q0 : 0 < q := by have := T.q0; omega
  obtain ⟨R, _, f, H⟩ := ex_hm q0
  refine H.list (fw_rg q0 _ _ _) (fun x hx => ?_) ?_
  · obtain ⟨y, _, rfl⟩ := List.mem_map.mp hx
    exact md q0 _
  · rw [fw_ev H T hx, List.map_map]
    refine List.map_congr_left fun pl _ => ?_
    show _ = f (dft q r xs pl.toNat)
    rw [dft, H.md, dft_sum H]
theorem Hm.two (H : Hm q f) : f 2 = 2 := by
  have := H.add 1 1
  rw [H.one] at this
  rw [show (2 : Int) = 1 + 1 from rfl, this]
  grind
theorem Hm.inv (H : Hm q f) (T : Tb K q r) : (2 : R) ^ K * f ((2 ^ K : Int) ^ (q - 2).toNat) = 1 := by
  have h := congrArg f T.inv
  rw [H.md, H.mul, H.md, H.one, H.pow 2 K, H.two] at h
  exact h
theorem M3 (T : Tb K q r) (hx : xs.length = 2 ^ K) (gx : Rg q xs) : bw q r K (fw q r K xs) = xs := by
  have q0 : 0 < q := by have := T.q0; omega
  obtain ⟨R, _, f, H⟩ := ex_hm q0
  refine H.list (rg_map q0 _ _) gx ?_
  have hh := H.half T
  have hi := H.inv T
  have h0 := T.k0; have h3 := T.k3
  rw [H.bw, H.fw]
  generalize f ((2 ^ K : Int) ^ (q - 2).toNat) = s at hi
  rcases (show K = 1 ∨ K = 2 ∨ K = 3 by omega) with rfl | rfl | rfl
  · exact bwfw1 (by rw [← hh]; exact (Semiring.pow_one _).symm) hi (by rw [List.length_map]; exact hx)
  · exact bwfw2 hh hi (by rw [List.length_map]; exact hx)
  · exact bwfw3 hh hi (by rw [List.length_map]; exact hx)
theorem M4 (T : Tb K q r) (hx : xs.length = 2 ^ K) (gx : Rg q xs) : fw q r K (bw q r K xs) = xs := by
  have q0 : 0 < q := by have := T.q0; omega
  obtain ⟨R, _, f, H⟩ := ex_hm q0
  refine H.list (fw_rg q0 _ _ _) gx ?_
  have hh := H.half T
  have hi := H.inv T
  have h0 := T.k0; have h3 := T.k3
  rw [H.fw, H.bw]
  generalize f ((2 ^ K : Int) ^ (q - 2).toNat) = s at hi
  rcases (show K = 1 ∨ K = 2 ∨ K = 3 by omega) with rfl | rfl | rfl
  · exact fwbw1 (by rw [← hh]; exact (Semiring.pow_one _).symm) hi (by rw [List.length_map]; exact hx)
  · exact fwbw2 hh hi (by rw [List.length_map]; exact hx)
  · exact fwbw3 hh hi (by rw [List.length_map]; exact hx)
/-! the sum -/
def sumL : List R → R
  | [] => 0
  | x :: xs => x + sumL xs
theorem Hm.sum (H : Hm q f) : ∀ xs : List Int, f xs.sum = sumL (xs.map f)
  | [] => H.zero
  | x :: xs => by rw [List.sum_cons, H.add, H.sum xs]; rfl
theorem Hm.zip (H : Hm q f) : ∀ xs ys : List Int, (List.zipWith (fun a b => a * b % q) xs ys).map f = List.zipWith (fun a b => a * b) (xs.map f) (ys.map f)
  | [], _ => by simp
  | _ :: _, [] => by simp
  | x :: xs, y :: ys => by simp only [List.zipWith_cons_cons, List.map_cons, H.md, H.mul, H.zip xs ys]
theorem Hm.pn (H : Hm q f) (T : Tb K q r) (p : Nat) : (f r ^ p) ^ 2 ^ K = 1 := by
  have hh := H.half T
  have e : 2 ^ K = 2 ^ (K - 1) * 2 := by rw [← Nat.pow_succ]; congr 1; have := T.k0; omega
  have e2 : f r ^ (p * 2 ^ K) = (f r ^ 2 ^ K) ^ p := by rw [Nat.mul_comm, pwm']
  have e3 : f r ^ 2 ^ K = 1 := by rw [e, pwm', hh]; grind
  rw [← pwm', e2, e3]
  exact Semiring.one_pow p

theorem M5_1 (H : Hm q f) (T : Tb 1 q r) (x0 x1 y0 y1 : Int) : f ((List.zipWith (fun a b => a * b % q) (fw q r 1 [x0, x1]) (fw q r 1 [y0, y1])).sum) = f ((2 ^ 1 : Int) * ((List.range (2 ^ 1)).map fun i => [x0, x1].getD i 0 * [y0, y1].getD ((2 ^ 1 - i) % 2 ^ 1) 0).sum) := by
  have pn := H.pn T
  have hh := H.half T
  rw [H.sum, H.zip, fw_ev H T rfl, fw_ev H T rfl, H.mul, H.sum, H.pow, H.two]
  rw [show ((List.range (2 ^ 1)).map fun i => [x0, x1].getD i 0 * [y0, y1].getD ((2 ^ 1 - i) % 2 ^ 1) 0) = [x0 * y0, x1 * y1] from rfl]
  show ev (f r ^ 0) [f x0, f x1] * ev (f r ^ 0) [f y0, f y1] + (ev (f r ^ 1) [f x0, f x1] * ev (f r ^ 1) [f y0, f y1] + 0) = 2 ^ 1 * sumL ([x0 * y0, x1 * y1].map f)
  rw [prodR1 (f r ^ 0) (f x0) (f x1) (f y0) (f y1) (pn 0), prodR1 (f r ^ 1) (f x0) (f x1) (f y0) (f y1) (pn 1), sumR1 (f r) _ _ (by rw [← hh]; exact (Semiring.pow_one _).symm)]
  congr 1
  simp only [List.map_cons, List.map_nil, sumL, H.mul]
  grind

theorem M5_2 (H : Hm q f) (T : Tb 2 q r) (x0 x1 x2 x3 y0 y1 y2 y3 : Int) : f ((List.zipWith (fun a b => a * b % q) (fw q r 2 [x0, x1, x2, x3]) (fw q r 2 [y0, y1, y2, y3])).sum) = f ((2 ^ 2 : Int) * ((List.range (2 ^ 2)).map fun i => [x0, x1, x2, x3].getD i 0 * [y0, y1, y2, y3].getD ((2 ^ 2 - i) % 2 ^ 2) 0).sum) := by
  have pn := H.pn T
  have hh := H.half T
  rw [H.sum, H.zip, fw_ev H T rfl, fw_ev H T rfl, H.mul, H.sum, H.pow, H.two]
  rw [show ((List.range (2 ^ 2)).map fun i => [x0, x1, x2, x3].getD i 0 * [y0, y1, y2, y3].getD ((2 ^ 2 - i) % 2 ^ 2) 0) = [x0 * y0, x1 * y3, x2 * y2, x3 * y1] from rfl]
  show ev (f r ^ 0) [f x0, f x1, f x2, f x3] * ev (f r ^ 0) [f y0, f y1, f y2, f y3] + (ev (f r ^ 2) [f x0, f x1, f x2, f x3] * ev (f r ^ 2) [f y0, f y1, f y2, f y3] + (ev (f r ^ 1) [f x0, f x1, f x2, f x3] * ev (f r ^ 1) [f y0, f y1, f y2, f y3] + (ev (f r ^ 3) [f x0, f x1, f x2, f x3] * ev (f r ^ 3) [f y0, f y1, f y2, f y3] + 0))) = 2 ^ 2 * sumL ([x0 * y0, x1 * y3, x2 * y2, x3 * y1].map f)
  rw [prodR2 (f r ^ 0) (f x0) (f x1) (f x2) (f x3) (f y0) (f y1) (f y2) (f y3) (pn 0), prodR2 (f r ^ 2) (f x0) (f x1) (f x2) (f x3) (f y0) (f y1) (f y2) (f y3) (pn 2), prodR2 (f r ^ 1) (f x0) (f x1) (f x2) (f x3) (f y0) (f y1) (f y2) (f y3) (pn 1), prodR2 (f r ^ 3) (f x0) (f x1) (f x2) (f x3) (f y0) (f y1) (f y2) (f y3) (pn 3), sumR2 (f r) _ _ _ _ (hh)]
  congr 1
  simp only [List.map_cons, List.map_nil, sumL, H.mul]
  grind

theorem M5_3 (H : Hm q f) (T : Tb 3 q r) (x0 x1 x2 x3 x4 x5 x6 x7 y0 y1 y2 y3 y4 y5 y6 y7 : Int) : f ((List.zipWith (fun a b => a * b % q) (fw q r 3 [x0, x1, x2, x3, x4, x5, x6, x7]) (fw q r 3 [y0, y1, y2, y3, y4, y5, y6, y7])).sum) = f ((2 ^ 3 : Int) * ((List.range (2 ^ 3)).map fun i => [x0, x1, x2, x3, x4, x5, x6, x7].getD i 0 * [y0, y1, y2, y3, y4, y5, y6, y7].getD ((2 ^ 3 - i) % 2 ^ 3) 0).sum) := by
  have pn := H.pn T
  have hh := H.half T
  rw [H.sum, H.zip, fw_ev H T rfl, fw_ev H T rfl, H.mul, H.sum, H.pow, H.two]
  rw [show ((List.range (2 ^ 3)).map fun i => [x0, x1, x2, x3, x4, x5, x6, x7].getD i 0 * [y0, y1, y2, y3, y4, y5, y6, y7].getD ((2 ^ 3 - i) % 2 ^ 3) 0) = [x0 * y0, x1 * y7, x2 * y6, x3 * y5, x4 * y4, x5 * y3, x6 * y2, x7 * y1] from rfl]
  show ev (f r ^ 0) [f x0, f x1, f x2, f x3, f x4, f x5, f x6, f x7] * ev (f r ^ 0) [f y0, f y1, f y2, f y3, f y4, f y5, f y6, f y7] + (ev (f r ^ 4) [f x0, f x1, f x2, f x3, f x4, f x5, f x6, f x7] * ev (f r ^ 4) [f y0, f y1, f y2, f y3, f y4, f y5, f y6, f y7] + (ev (f r ^ 2) [f x0, f x1, f x2, f x3, f x4, f x5, f x6, f x7] * ev (f r ^ 2) [f y0, f y1, f y2, f y3, f y4, f y5, f y6, f y7] + (ev (f r ^ 6) [f x0, f x1, f x2, f x3, f x4, f x5, f x6, f x7] * ev (f r ^ 6) [f y0, f y1, f y2, f y3, f y4, f y5, f y6, f y7] + (ev (f r ^ 1) [f x0, f x1, f x2, f x3, f x4, f x5, f x6, f x7] * ev (f r ^ 1) [f y0, f y1, f y2, f y3, f y4, f y5, f y6, f y7] + (ev (f r ^ 5) [f x0, f x1, f x2, f x3, f x4, f x5, f x6, f x7] * ev (f r ^ 5) [f y0, f y1, f y2, f y3, f y4, f y5, f y6, f y7] + (ev (f r ^ 3) [f x0, f x1, f x2, f x3, f x4, f x5, f x6, f x7] * ev (f r ^ 3) [f y0, f y1, f y2, f y3, f y4, f y5, f y6, f y7] + (ev (f r ^ 7) [f x0, f x1, f x2, f x3, f x4, f x5, f x6, f x7] * ev (f r ^ 7) [f y0, f y1, f y2, f y3, f y4, f y5, f y6, f y7] + 0))))))) = 2 ^ 3 * sumL ([x0 * y0, x1 * y7, x2 * y6, x3 * y5, x4 * y4, x5 * y3, x6 * y2, x7 * y1].map f)
  rw [prodR3 (f r ^ 0) (f x0) (f x1) (f x2) (f x3) (f x4) (f x5) (f x6) (f x7) (f y0) (f y1) (f y2) (f y3) (f y4) (f y5) (f y6) (f y7) (pn 0), prodR3 (f r ^ 4) (f x0) (f x1) (f x2) (f x3) (f x4) (f x5) (f x6) (f x7) (f y0) (f y1) (f y2) (f y3) (f y4) (f y5) (f y6) (f y7) (pn 4), prodR3 (f r ^ 2) (f x0) (f x1) (f x2) (f x3) (f x4) (f x5) (f x6) (f x7) (f y0) (f y1) (f y2) (f y3) (f y4) (f y5) (f y6) (f y7) (pn 2), prodR3 (f r ^ 6) (f x0) (f x1) (f x2) (f x3) (f x4) (f x5) (f x6) (f x7) (f y0) (f y1) (f y2) (f y3) (f y4) (f y5) (f y6) (f y7) (pn 6), prodR3 (f r ^ 1) (f x0) (f x1) (f x2) (f x3) (f x4) (f x5) (f x6) (f x7) (f y0) (f y1) (f y2) (f y3) (f y4) (f y5) (f y6) (f y7) (pn 1), prodR3 (f r ^ 5) (f x0) (f x1) (f x2) (f x3) (f x4) (f x5) (f x6) (f x7) (f y0) (f y1) (f y2) (f y3) (f y4) (f y5) (f y6) (f y7) (pn 5), prodR3 (f r ^ 3) (f x0) (f x1) (f x2) (f x3) (f x4) (f x5) (f x6) (f x7) (f y0) (f y1) (f y2) (f y3) (f y4) (f y5) (f y6) (f y7) (pn 3), prodR3 (f r ^ 7) (f x0) (f x1) (f x2) (f x3) (f x4) (f x5) (f x6) (f x7) (f y0) (f y1) (f y2) (f y3) (f y4) (f y5) (f y6) (f y7) (pn 7), sumR3 (f r) _ _ _ _ _ _ _ _ (hh)]
  congr 1
  simp only [List.map_cons, List.map_nil, sumL, H.mul]
  grind

theorem M5 (T : Tb K q r) (hx : xs.length = 2 ^ K) (hy : ys.length = 2 ^ K) :
    (List.zipWith (fun a b => a * b % q) (fw q r K xs) (fw q r K ys)).sum % q = (2 ^ K : Int) * ((List.range (2 ^ K)).map fun i => xs.getD i 0 * ys.getD ((2 ^ K - i) % 2 ^ K) 0).sum % q := by
  have q0 : 0 < q := by have := T.q0; omega
  obtain ⟨R, _, f, H⟩ := ex_hm q0
  refine H.inj _ _ ?_
  have h0 := T.k0; have h3 := T.k3
  rcases (show K = 1 ∨ K = 2 ∨ K = 3 by omega) with rfl | rfl | rfl
  · obtain ⟨x0, x1, rfl⟩ := lenR2 hx
    obtain ⟨y0, y1, rfl⟩ := lenR2 hy
    exact M5_1 H T _ _ _ _
  · obtain ⟨x0, x1, x2, x3, rfl⟩ := lenR4 hx
    obtain ⟨y0, y1, y2, y3, rfl⟩ := lenR4 hy
    exact M5_2 H T _ _ _ _ _ _ _ _
  · obtain ⟨x0, x1, x2, x3, x4, x5, x6, x7, rfl⟩ := lenR8 hx
    obtain ⟨y0, y1, y2, y3, y4, y5, y6, y7, rfl⟩ := lenR8 hy
    exact M5_3 H T _ _ _ _ _ _ _ _ _ _ _ _ _ _ _ _

end
end Mine

namespace Mine
open Lean.Grind
section
variable {R : Type} [CommRing R] {q r : Int} {f : Int → R} {K : Nat} {xs ys : List Int}
theorem rv_list (K : Nat) : rvL K = (List.range (2 ^ K)).map fun j => (rvL K).getD j 0 := by
  refine List.ext_getElem (by rw [rvL_length, List.length_map, List.length_range]) fun i h1 h2 => ?_
  rw [List.getElem_map, List.getElem_range, List.getD_eq_getElem?_getD, List.getElem?_eq_getElem h1]
  rfl
theorem rv_rg' (T : Tb K q r) {j : Nat} (hj : j < 2 ^ K) : 0 ≤ (rvL K).getD j 0 ∧ (rvL K).getD j 0 < ((2 ^ K : Nat) : Int) :=
  rv_rg T _ (List.mem_of_getElem? (getD_some (by rw [rvL_length]; exact hj)))
theorem rv_inv (T : Tb K q r) : ∀ j, j < 2 ^ K → (rvL K).getD ((rvL K).getD j 0).toNat 0 = (j : Int) := by
  have h0 := T.k0; have h3 := T.k3
  rcases (show K = 1 ∨ K = 2 ∨ K = 3 by omega) with rfl | rfl | rfl <;> decide
/-- a value, by its place -/
theorem val (H : Hm q f) (T : Tb K q r) (hx : xs.length = 2 ^ K) {j : Nat} (hj : j < 2 ^ K) : f ((fw q r K xs).getD j 0) = ev (f r ^ ((rvL K).getD j 0).toNat) (xs.map f) := by
  rw [H.getD, fw_ev H T hx, List.getD_eq_getElem?_getD, List.getElem?_map, getD_some (fs := rvL K) (by rw [rvL_length]; exact hj)]
  rfl
/-- the value at the place with its bits turned -/
theorem val' (H : Hm q f) (T : Tb K q r) (hx : xs.length = 2 ^ K) {j : Nat} (hj : j < 2 ^ K) : f ((fw q r K xs).getD ((rvL K).getD j 0).toNat 0) = ev (f r ^ j) (xs.map f) := by
  have hr := rv_rg' T hj
  rw [val H T hx (by omega), rv_inv T j hj, Int.toNat_natCast]
theorem Hm.pmod (H : Hm q f) (T : Tb K q r) (k : Nat) : f r ^ (k % 2 ^ K) = f r ^ k := by
  have e : f r ^ 2 ^ K = 1 := by have := H.pn T 1; rwa [Semiring.pow_one] at this
  have e2 : f r ^ (2 ^ K * (k / 2 ^ K)) = 1 := by rw [pwm', e, Semiring.one_pow]
  calc f r ^ (k % 2 ^ K) = f r ^ (k % 2 ^ K) * f r ^ (2 ^ K * (k / 2 ^ K)) := by rw [e2]; grind
    _ = f r ^ (k % 2 ^ K + 2 ^ K * (k / 2 ^ K)) := by rw [Semiring.pow_add]
    _ = f r ^ k := by rw [Nat.mod_add_div]
/-- what is changed, valued at P -/
structure Chg (K : Nat) (f : Int → R) (q r num : Int) (a : Nat) (xs ys : List Int) (P P' : R) : Prop where
  c0 : ev P ((chg 0 a num q r (2 ^ K) xs ys).map f) = ev P (xs.map f) + f num * P ^ a
  c1 : ev P ((chg 1 a num q r (2 ^ K) xs ys).map f) = ev P (xs.map f) * P ^ a
  c2 : ev P ((chg 2 a num q r (2 ^ K) xs ys).map f) = ev P (xs.map f) * f num
  c3 : P * P' = 1 → ev P ((chg 3 a num q r (2 ^ K) xs ys).map f) = ev P' (xs.map f)
  c4 : ev P ((chg 4 a num q r (2 ^ K) xs ys).map f) = ev P (xs.map f) + ev P (ys.map f)
  c5 : ev P ((chg 5 a num q r (2 ^ K) xs ys).map f) = ev (f r ^ a * P) (xs.map f)
theorem chg_all {num : Int} {a : Nat} (H : Hm q f) (T : Tb K q r) (hx : xs.length = 2 ^ K) (hy : ys.length = 2 ^ K) (ha : a < 2 ^ K) (P P' : R) (hP : P ^ 2 ^ K = 1) : Chg K f q r num a xs ys P P' := by
  have h0 := T.k0; have h3 := T.k3
  rcases (show K = 1 ∨ K = 2 ∨ K = 3 by omega) with rfl | rfl | rfl
  · obtain ⟨x0, x1, rfl⟩ := lenR2 hx
    obtain ⟨y0, y1, rfl⟩ := lenR2 hy
    exact ⟨evc0 H P rfl a ha, evc1_1 H P _ _ hP a ha, evc2_1 H P _ _ a, fun hP' => evc3_1 H P _ _ P' hP hP' a, evc4_1 H P _ _ _ _ a, evc5_1 H P _ _ a⟩
  · obtain ⟨x0, x1, x2, x3, rfl⟩ := lenR4 hx
    obtain ⟨y0, y1, y2, y3, rfl⟩ := lenR4 hy
    exact ⟨evc0 H P rfl a ha, evc1_2 H P _ _ _ _ hP a ha, evc2_2 H P _ _ _ _ a, fun hP' => evc3_2 H P _ _ _ _ P' hP hP' a, evc4_2 H P _ _ _ _ _ _ _ _ a, evc5_2 H P _ _ _ _ a⟩
  · obtain ⟨x0, x1, x2, x3, x4, x5, x6, x7, rfl⟩ := lenR8 hx
    obtain ⟨y0, y1, y2, y3, y4, y5, y6, y7, rfl⟩ := lenR8 hy
    exact ⟨evc0 H P rfl a ha, evc1_3 H P _ _ _ _ _ _ _ _ hP a ha, evc2_3 H P _ _ _ _ _ _ _ _ a, fun hP' => evc3_3 H P _ _ _ _ _ _ _ _ P' hP hP' a, evc4_3 H P _ _ _ _ _ _ _ _ _ _ _ _ _ _ _ _ a, evc5_3 H P _ _ _ _ _ _ _ _ a⟩
theorem mendE_map {form num : Int} {a j : Nat} (H : Hm q f) (T : Tb K q r) (hx : xs.length = 2 ^ K) (hy : ys.length = 2 ^ K) (f0 : 0 ≤ form) (f1 : form < 6) (ha : a < 2 ^ K) (hj : j < 2 ^ K) :
    ev (f r ^ ((rvL K).getD j 0).toNat) ((chg form a num q r (2 ^ K) xs ys).map f) = f (mendE form a num q r (2 ^ K) (fw q r K xs) (fw q r K ys) (rvL K) j) := by
  have hr := rv_rg' T hj
  obtain ⟨p, hp⟩ := Int.eq_ofNat_of_zero_le hr.1
  have pn : p < 2 ^ K := by omega
  have n0 : 0 < 2 ^ K := by omega
  have v := val H T hx hj
  have w := val H T hy hj
  rw [hp, Int.toNat_natCast] at v w ⊢
  have C := fun P' => chg_all (num := num) H T hx hy ha (f r ^ p) P' (H.pn T p)
  have pa : (f r ^ p) ^ a = f r ^ (a * p) := by rw [Nat.mul_comm, pwm']
  unfold mendE
  rcases (show form = 0 ∨ form = 1 ∨ form = 2 ∨ form = 3 ∨ form = 4 ∨ form = 5 by omega) with rfl | rfl | rfl | rfl | rfl | rfl
  · rw [if_pos rfl, (C 1).c0, H.md, H.add, H.mul, H.pow, v, hp, Int.toNat_natCast, pa]
  · rw [if_neg (by decide), if_pos rfl, (C 1).c1, H.md, H.mul, H.pow, v, hp, Int.toNat_natCast, pa]
  · rw [if_neg (by decide), if_neg (by decide), if_pos rfl, (C 1).c2, H.md, H.mul, v]
  · rw [if_neg (by decide), if_neg (by decide), if_neg (by decide), if_neg (by decide), if_pos rfl, hp]
    have mi := mod_in (j := 0 - (p : Int)) n0
    obtain ⟨k, hk⟩ := Int.eq_ofNat_of_zero_le mi.1
    rw [hk, Int.toNat_natCast, val' H T hx (by omega)]
    refine (C _).c3 ?_
    rw [← Semiring.pow_add, ← H.pmod T]
    have e : (p + k) % 2 ^ K = 0 := by
      have : ((p : Int) + (k : Int)) % ((2 ^ K : Nat) : Int) = 0 := by
        rw [← Int.ofNat_eq_natCast, ← Int.ofNat_eq_natCast, Int.ofNat_eq_natCast, Int.ofNat_eq_natCast, ← hk, Int.add_emod_emod, show (p : Int) + (0 - (p : Int)) = 0 from by omega]
        exact Int.zero_emod _
      exact_mod_cast this
    rw [e, Semiring.pow_zero]
  · rw [if_neg (by decide), if_neg (by decide), if_neg (by decide), if_pos rfl, (C 1).c4, H.md, H.add, v, w]
  · rw [if_neg (by decide), if_neg (by decide), if_neg (by decide), if_neg (by decide), if_neg (by decide), hp]
    have e : (((p : Int) + (a : Int)) % ((2 ^ K : Nat) : Int)).toNat = (p + a) % 2 ^ K := by
      rw [← Int.natCast_add, ← Int.natCast_emod, Int.toNat_natCast]
    rw [e, val' H T hx (Nat.mod_lt _ n0), (C 1).c5, H.pmod T, ← Semiring.pow_add, Nat.add_comm]
theorem M2 {form num : Int} {a : Nat} (T : Tb K q r) (hx : xs.length = 2 ^ K) (hy : ys.length = 2 ^ K) (f0 : 0 ≤ form) (f1 : form < 6) (ha : a < 2 ^ K) (gx : Rg q xs) :
    fw q r K (chg form a num q r (2 ^ K) xs ys) = mend form a num q r (2 ^ K) (fw q r K xs) (fw q r K ys) (rvL K) := by
  have q0 : 0 < q := by have := T.q0; omega
  obtain ⟨R, _, f, H⟩ := ex_hm q0
  refine H.list (fw_rg q0 _ _ _) (fun x hx' => ?_) ?_
  · obtain ⟨j, hj, rfl⟩ := List.mem_map.mp hx'
    have gv := fw_rg q0 r K xs
    have n0 : 0 < 2 ^ K := Nat.two_pow_pos K
    unfold mendE
    split
    · exact md q0 _
    split
    · exact md q0 _
    split
    · exact md q0 _
    split
    · exact md q0 _
    · refine gv _ (List.mem_of_getElem? (getD_some ?_))
      have mi := mod_in (j := if form = 3 then 0 - (rvL K).getD j 0 else (rvL K).getD j 0 + a) n0
      have rr := rv_rg' T (j := ((if form = 3 then 0 - (rvL K).getD j 0 else (rvL K).getD j 0 + a) % ((2 ^ K : Nat) : Int)).toNat) (by omega)
      rw [fw_length, hx]
      omega
  · rw [fw_ev H T chg_length, mend, List.map_map]
    conv => lhs; rw [rv_list K, List.map_map]
    exact List.map_congr_left fun j hj => mendE_map H T hx hy f0 f1 ha (List.mem_range.mp hj)
end
end Mine

namespace Mine
variable {K : Nat} {q r : Int} {xs ys : List Int}
theorem L1 (T : Tb K q r) (hx : xs.length = 2 ^ K) : fw q r K xs = (rvL K).map fun pl => dft q r xs pl.toNat := M1 T hx
theorem L2 {form num : Int} {a : Nat} (T : Tb K q r) (hx : xs.length = 2 ^ K) (hy : ys.length = 2 ^ K) (f0 : 0 ≤ form) (f1 : form < 6) (ha : a < 2 ^ K) (u0 : 0 ≤ num) (u1 : num < q) (gx : Rg q xs) :
    fw q r K (chg form a num q r (2 ^ K) xs ys) = mend form a num q r (2 ^ K) (fw q r K xs) (fw q r K ys) (rvL K) := M2 T hx hy f0 f1 ha gx
theorem L3 (T : Tb K q r) (hx : xs.length = 2 ^ K) (gx : Rg q xs) : bw q r K (fw q r K xs) = xs := M3 T hx gx
theorem L4 (T : Tb K q r) (hx : xs.length = 2 ^ K) (gx : Rg q xs) : fw q r K (bw q r K xs) = xs := M4 T hx gx
theorem L5 (T : Tb K q r) (hx : xs.length = 2 ^ K) (hy : ys.length = 2 ^ K) :
    (List.zipWith (fun a b => a * b % q) (fw q r K xs) (fw q r K ys)).sum % q = (2 ^ K : Int) * ((List.range (2 ^ K)).map fun i => xs.getD i 0 * ys.getD ((2 ^ K - i) % 2 ^ K) 0).sum % q := M5 T hx hy
end Mine

namespace Mine
section
variable {w : World} {A : Around} {s : Shared} {g h h' h1 h0 : Heap} {L c a : Addr} {kd kd' : Kd} {m : Str → Option Value} {own own1 own0 : List (Addr × Kd)} {env : Env} {x y : Str} {px py pos tp : Pos} {f : Addr} {e e1 e2 e3 e4 e5 e6 : Expr} {es : List Expr} {rest body : List Stmt} {P : Flow → Heap → Prop}
theorem E1.ex {R : Heap → Value → Heap → Prop} (H : E1 w A s env h e R) : EX w A s env h e (fun v h' => ∃ h1, Ext h h1 ∧ Ext h1 h' ∧ R h1 v h') := fun h1 y => (H h1 y).mono fun v h' ⟨a, b⟩ => ⟨h1, y, a, b⟩
theorem X.asgCelS {R : Heap → Value → Heap → Prop} (S0 : SS g L h0 m own0) (hcl : ∀ h, At h c kd → ∃ v, h.IsCell c v) (hk : env.scope.kind = .function) (hx : env.kindOf x = some .cell) (hc : env.cells.lookup x = some c)
    (H : E1 w A s env h e R) (K : ∀ v h1, Ext h h1 → R h v h1 → ∃ own1, SS g L h1 m ((c, kd) :: own1) ∧ ∀ h', (∀ kd', (∀ o : Obj, o.data = .cell (some v) → kd'.holds o) → SS g L h' m ((c, kd') :: own1)) → X w A s env h' rest P)
    (hsw : swapsWith e (some (.Name x px)) pos.line env = pure false := by rfl) : X w A s env h (.Assign [.Name x px] e pos :: rest) P := X.asgCel hcl hk hx hc H K hsw
theorem X.asgXS {Q : Value → Heap → Prop} (S0 : SS g L h0 m own0) (H : EX w A s env h e Q) (K : ∀ v h1, Q v h1 → ∃ own1, SS g L h1 m own1 ∧ ∀ h', SS g L h' (up m x v) own1 → X w A s env h' rest P)
    (hL : env.locals = L := by rfl) (hk : env.scope.kind = .function := by rfl) (hx : env.kindOf x = some .local := by rfl)
    (hsw : swapsWith e (some (.Name x px)) pos.line env = pure false := by rfl) : X w A s env h (.Assign [.Name x px] e pos :: rest) P :=
  X.cons fun tk => wpAny_Assign_Name (Ev.use (H h .rfl) fun v h1 tk1 r => by
    obtain ⟨own1, S1, K1⟩ := K v h1 r
    exact store_loc (Q := fun _ h' => X w A s env h' rest P) S1 hL hk hx K1 tk1) hsw
theorem X.asgCelXS {Q : Value → Heap → Prop} (S0 : SS g L h0 m own0) (hcl : ∀ h, At h c kd → ∃ v, h.IsCell c v) (hk : env.scope.kind = .function) (hx : env.kindOf x = some .cell) (hc : env.cells.lookup x = some c)
    (H : EX w A s env h e Q) (K : ∀ v h1, Q v h1 → ∃ own1, SS g L h1 m ((c, kd) :: own1) ∧ ∀ h', (∀ kd', (∀ o : Obj, o.data = .cell (some v) → kd'.holds o) → SS g L h' m ((c, kd') :: own1)) → X w A s env h' rest P)
    (hsw : swapsWith e (some (.Name x px)) pos.line env = pure false := by rfl) : X w A s env h (.Assign [.Name x px] e pos :: rest) P :=
  X.cons fun tk => wpAny_Assign_Name (Ev.use (H h .rfl) fun v h1 tk1 r => by
    obtain ⟨own1, S1, K1⟩ := K v h1 r
    exact store_cel (Q := fun _ h' => X w A s env h' rest P) S1 hcl hk hx hc K1 tk1) hsw
theorem X.asg2S {k1 k2 : Nat} {pv : Pos} {R1 R2 : Heap → Value → Heap → Prop} (S0 : SS g L h0 m own0) (hh : A.handled = none) (H1 : E1 w A s env h e1 R1) (H2 : E1 w A s env h e2 R2)
    (K : ∀ h1 h2 v1 v2, Ext h h1 → R1 h v1 h1 → Ext h1 h2 → R2 h1 v2 h2 → ∃ own', SS g L h2 m own' ∧ ∀ h', SS g L h' (up (up m y v2) x v1) own' → X w A s env h' rest P)
    (hs : backTo pv (starEach [e1, e2] env) = [e1, e2].map fun e => (false, eval e env))
    (hL : env.locals = L := by rfl) (hk : env.scope.kind = .function := by rfl) (hx : env.kindOf x = some .local := by rfl) (hy : env.kindOf y = some .local := by rfl)
    (h1 : swapsWithSole [.Tuple [.Name x px, .Name y py] k1 tp] (.Tuple [e1, e2] k2 pv) pos.line env = pure false := by rfl)
    (h2 : swappedStores [.Tuple [.Name x px, .Name y py] k1 tp] (.Tuple [e1, e2] k2 pv) env = pure (some [x, y]) := by rfl) :
    X w A s env h (.Assign [.Tuple [.Name x px, .Name y py] k1 tp] (.Tuple [e1, e2] k2 pv) pos :: rest) P := X.asg2 hh H1 H2 K hs hL hk hx hy h1 h2
theorem X.asg2XS {k1 k2 : Nat} {pv : Pos} {Q1 : Value → Heap → Prop} {Q2 : Value → Value → Heap → Prop} (S0 : SS g L h0 m own0) (hh : A.handled = none) (H1 : EX w A s env h e1 Q1) (H2 : ∀ v h1, Q1 v h1 → EX w A s env h1 e2 (Q2 v))
    (K : ∀ h2 v1 v2, Q2 v1 v2 h2 → ∃ own', SS g L h2 m own' ∧ ∀ h', SS g L h' (up (up m y v2) x v1) own' → X w A s env h' rest P)
    (hs : backTo pv (starEach [e1, e2] env) = [e1, e2].map fun e => (false, eval e env))
    (hL : env.locals = L := by rfl) (hk : env.scope.kind = .function := by rfl) (hx : env.kindOf x = some .local := by rfl) (hy : env.kindOf y = some .local := by rfl)
    (h1 : swapsWithSole [.Tuple [.Name x px, .Name y py] k1 tp] (.Tuple [e1, e2] k2 pv) pos.line env = pure false := by rfl)
    (h2 : swappedStores [.Tuple [.Name x px, .Name y py] k1 tp] (.Tuple [e1, e2] k2 pv) env = pure (some [x, y]) := by rfl) :
    X w A s env h (.Assign [.Tuple [.Name x px, .Name y py] k1 tp] (.Tuple [e1, e2] k2 pv) pos :: rest) P := X.asg2X hh H1 H2 K hs hL hk hx hy h1 h2
end
end Mine

namespace Mine
theorem law_ss {g h : Heap} {m : Str → Option Value} (F : Fr g g.objs.size h m) (a0 : At h (g.objs.size + 1) .cellU) (a1 : At h (g.objs.size + 2) .cellU) (a2 : At h (g.objs.size + 3) .cellU) (a3 : At h (g.objs.size + 4) .cellU) :
    SS g g.objs.size h m [(g.objs.size + 1, .cellU), (g.objs.size + 2, .cellU), (g.objs.size + 3, .cellU), (g.objs.size + 4, .cellU)] := by
  refine ⟨F.ns, F.keep, get_none (Nat.le_refl _), ?_, ?_, ?_⟩
  · intro p hp
    rcases List.mem_cons.mp hp with rfl | hp
    · exact a0
    rcases List.mem_cons.mp hp with rfl | hp
    · exact a1
    rcases List.mem_cons.mp hp with rfl | hp
    · exact a2
    rcases List.mem_cons.mp hp with rfl | hp
    · exact a3
    cases hp
  · intro p hp
    rcases List.mem_cons.mp hp with rfl | hp
    · exact ⟨get_none (by simp), by simp⟩
    rcases List.mem_cons.mp hp with rfl | hp
    · exact ⟨get_none (by simp), by simp⟩
    rcases List.mem_cons.mp hp with rfl | hp
    · exact ⟨get_none (by simp), by simp⟩
    rcases List.mem_cons.mp hp with rfl | hp
    · exact ⟨get_none (by simp), by simp⟩
    cases hp
  · simp
set_option maxRecDepth 100000 in
set_option maxHeartbeats 8000000 in
theorem walked : PySem.Challenge.rw_sj0071_01.Holds := by
  refine hd ?_
  w_strict k_go0
  rename_i w s₀ s₁ mg mb G Y fa o pm doc ho hg KX X V GL T B TE TW wa wb M wc wd hcd ns hs hlay0 hL1 hr1 hl2 w8 w7 script vs w4 hL ra w1 r0 hI hr hc' hc K0 hD h1 tk1 F o3 o2 o1 o0 d3 d2 d1 d0 N0 X0
  have S := law_ss F ⟨o0, N0.get (by simp), _, d0⟩ ⟨o1, N0.get (by simp), _, d1⟩ ⟨o2, N0.get (by simp), _, d2⟩ ⟨o3, N0.get (by simp), _, d3⟩
  have R : Rd w s₁.heap := ⟨KX, _, _, _, _, _, T⟩
  have hA : At s₁.heap script (.ints ns) := At.of_list hL hI
  have O : ∀ env, Ok (callerA.deeper env) 4 := fun env => ⟨rfl, by show callerA.depth + 1 + 4 ≤ 500; decide, by show callerA.units + 3 + 8 * 4 ≤ 5000; decide⟩
  have hlen : ns.length ≤ 63 := by omega
  clear w1 r0 ra hI hL N0 X0 d3 d2 d1 d0 F hD K0 hr GL V X
  refine Ev.use (P := fun fl h' => fl = Flow.ret (.bool true) ∧ Ext s₁.heap h') (h := h1) (tk := tk1) ?_ ?_
  · generalize hAA : callerA.deeper _ = A
    have OA : Ok A 4 := hAA ▸ O _
    clear hcd ho G Y T B TE TW M O hlay0 hL1 hr1 hl2 hg hs
    generalize s₁.heap.objs.size = L at S hAA ⊢
    generalize s₁.heap = g at S R hA ⊢
    have el := hA.up S.keep
    generalize hst0 : (ns.take 25).map (fun k => if k < 0 then -k else k) = st
    have hst : st.length ≤ 25 := by rw [← hst0, List.length_map, List.length_take]; omega
    refine X.asgCelS S cell_cellU rfl rfl rfl (E1.list2 EI.const (E1.comp (cl := []) (ns := st) (Src.list OA.hh (ELp.upto (EL.of (EV.loc S (v := .ref script) rfl rfl rfl rfl (by decide)) el) EI.const (by decide) (by rw [sizeLine_eq]; omega)).eln.el) (fun C => rfl) (by rw [← hst0, List.length_map]; rfl) ?_ rfl (by decide) rfl (by decide) (by rw [sizeLine_eq, List.length_take]; omega)) rfl) fun v h2 x2 p => ?_
    · rintro i C h' k x hk ⟨m', k0, t, hn', h0, hm⟩
      refine EI.cast (EI.abs (EV.bui (R.up (S.keep.trans x)) nm_abs bo_abs (by decide) rfl rfl rfl rfl (by decide)) (EI.int (EV.bui (R.up (S.keep.trans x)) nm_int bo_int (by decide) rfl rfl rfl rfl (by decide)) (EI.of (EV.ns hn' hm rfl rfl (by decide))) rfl) rfl) ?_
      rw [← hst0] at hk
      exact map_some hk h0
    obtain ⟨Bl, y1, y2, h3, h4, rfl, z1, ⟨t1, rfl⟩, z2, ⟨sl, rfl, asl, nsl⟩, z3, aB, nB⟩ := p
    have S2 := SS.pull [_, _] (((((S.up z1).new z2 asl nsl).new z3 aB nB).weak fun h H => H.unv))
    refine ⟨_, S2, fun h5 S5 => ?_⟩
    have B5 : BS g L _ Bl sl st [(L + 1, .cell (.ref Bl)), (L + 2, .cellU), (L + 3, .cellU), (L + 4, .cellU)] 0 h5 := ⟨t1, SS.push' [_, _] (S5 (.cell (.ref Bl)) fun o d => d)⟩
    clear S S2 S5 z1 z2 z3 aB nB asl nsl x2 el
    have kr := rung_range (st := st) (c := 0) (many := 3) (by decide)
    obtain ⟨kn, hkn⟩ := Int.eq_ofNat_of_zero_le kr.1
    have kn3 : kn < 3 := by omega
    have S5 := B5.choose_spec
    refine X.asgXS S5 (EX.binr EI.const (EX.binr EI.const (EX.ru R (OA.less (by decide)) B5 (EV.glob (R.up S5.keep) nm_ru rfl rfl rfl (by decide)) (EV.cel (S5.at' _ (.tail _ (.tail _ (.head _)))) rfl rfl rfl (by decide)) EI.const (by omega) (by decide) (by decide) rfl) bop_add) (bop_pow (by omega) (by omega) (by decide))) ?_
    rintro v h6 ⟨⟨t6, rfl⟩, t7, S6⟩
    refine ⟨_, S6, fun h7 S7 => ?_⟩
    generalize hN : 2 ^ (kn + 1) = N at *
    have eN : (2 : Int) ^ (kn + 1) = (N : Int) := by rw [← hN]; push_cast; rfl
    rw [hkn, show ((1 : Int) + (kn : Int)).toNat = kn + 1 from by omega, eN] at S7
    have hN2 : 2 ≤ N ∧ N ≤ 8 := by
      rw [← hN]
      rcases (show kn = 0 ∨ kn = 1 ∨ kn = 2 by omega) with rfl | rfl | rfl <;> decide
    have br := rung_range (st := st) (c := 1) (many := 40) (by decide)
    obtain ⟨bn, hbn⟩ := Int.eq_ofNat_of_zero_le br.1
    obtain ⟨q, z, e1, e2, e3, Tt⟩ := tab kn3 (show bn < 40 by omega)
    rw [eN] at e1 e3 Tt
    generalize hr : z ^ ((q - 1) / (N : Int)).toNat % q = r at Tt
    have B7 : BS g L _ Bl sl st _ 1 h7 := ⟨t7, S7⟩
    refine X.asgCelXS S7 (kd := .cellU) (c := L + 2) cell_cellU rfl rfl rfl (EX.pf (r := q) (bound := (bn : Int)) (size := (N : Int)) (R.up S7.keep) (fun h ⟨_, S⟩ => R.up S.keep) (fun h h' S x => S.up x) (OA.less (by decide)) (EV.glob (R.up S7.keep) nm_pf rfl rfl rfl (by decide)) (EI.loc S7 up_self rfl rfl rfl (by decide))
      (hbn ▸ EX.ru R (OA.less (by decide)) B7 (EV.glob (R.up S7.keep) nm_ru rfl rfl rfl (by decide)) (EV.cel (S7.at' _ (.tail _ (.tail _ (.head _)))) rfl rfl rfl (by decide)) EI.const (by omega) (by decide) (by decide) rfl) e1 (by omega) (by omega) (by omega) (by omega) rfl) ?_
    rintro v h8 ⟨⟨t8, rfl⟩, t9, S8⟩
    refine ⟨_, SS.pull [_, _, _] S8, fun h9 S9 => ?_⟩
    have S9 := SS.push' [_, _, _] (S9 (.cellI q) fun o d => ⟨_, d⟩)
    have S9 : SS g L h9 _ [(Bl, .vals [.int (2 : Nat) t9, .ref sl]), (sl, .ints st), (L + 1, .cell (.ref Bl)), (L + 2, .cellI q), (L + 3, .cellU), (L + 4, .cellU)] := S9
    clear S8 S7 S6 S5 B5 B7
    have R9 := R.up S9.keep
    have cp := S9.at' _ (.tail _ (.tail _ (.tail _ (.head _))))
    have q0 := Tt.q0
    have q1 := Tt.q1
    have r0 := Tt.r0
    have r1 := Tt.r1
    have kn5 : kn + 1 ≤ 5 := by omega
    have q00 : 0 < q := by omega
    have r1000 : r < 1000 := by omega
    have N0 : 0 < N := by omega
    have N32 : N ≤ 32 := by omega
    have NZ : 0 < (N : Int) := by omega
    have st100 : st.length ≤ 100 := by omega
    refine X.unp2 OA.hh (E1.tup2 (EI.rt R9 (OA.less (by decide)) (EV.glob R9 nm_rt rfl rfl rfl (by decide)) (EI.loc S9 up_self rfl rfl rfl (by decide)) (EI.cel cp rfl rfl rfl (by decide)) e2 e3 (by omega) (by omega) q0 q1 rfl) (EL.rv (K := kn + 1) R9 (OA.less (by decide)) (EV.glob R9 nm_rv rfl rfl rfl (by decide)) (EI.loc S9 up_self rfl rfl rfl (by decide)) eN.symm (by omega) rfl) rfl) (fun v h10 x10 p => ?_) rfl
    obtain ⟨T, v1, v2, h11, h12, rfl, hT, _, z1, ⟨t10, rfl⟩, z2, ⟨pl, rfl, apl, npl⟩, z3⟩ := p
    refine ⟨T, _, rfl, hT, rfl, fun h13 x13 => ?_⟩
    have S10 := (((S9.up z1).new z2 apl npl).up z3).up x13
    refine AO.cel (SS.pull [_, _, _, _, _] S10) cell_cellU rfl rfl rfl (.cellI r) (fun o d => ⟨t10, by rw [d, ← hr]⟩) fun h14 S14 => AO.loc S14 rfl rfl rfl fun h15 S15 => AO.nil ?_
    have S15 := SS.push' (post := []) [_, _, _, _, _, _] (SS.push' [_, _, _, _, _] S15)
    obtain ⟨m, mz, mp, S15⟩ : ∃ m, m (Str.ofString "size") = some (.int (N : Int) t6) ∧ m (Str.ofString "places") = some (.ref pl) ∧ SS g L h15 m [(Bl, .vals [.int (2 : Nat) t9, .ref sl]), (sl, .ints st), (L + 1, .cell (.ref Bl)), (L + 2, .cellI q), (L + 3, .cellI r), (L + 4, .cellU), (pl, .ints (rvL (kn + 1)))] := ⟨_, up_ne (by decide) up_self, up_self, S15⟩
    clear S14 S10 S9 hT z1 z2 z3 apl npl x10 x13 cp R9
    have R15 := R.up S15.keep
    have lp : (rvL (kn + 1)).length = N := by rw [rvL_length, hN]
    have hu : A.units + 64 < cLine := by have := OA.un; show A.units + 64 < 9900; omega
    have cp := S15.at' _ (.tail _ (.tail _ (.tail _ (.head _))))
    have cr := S15.at' _ (.tail _ (.tail _ (.tail _ (.tail _ (.head _)))))
    have apl := S15.at' _ (.tail _ (.tail _ (.tail _ (.tail _ (.tail _ (.tail _ (.head _)))))))
    refine X.if (ET.or (ET.ne (EI.mod (EI.pow (EI.cel cr rfl rfl rfl (by decide)) (EI.fdiv (EI.loc S15 mz rfl rfl rfl (by decide)) EI.const (by decide) (PyProof.noPylong_small (by decide))) (by omega) (by omega) (by omega)) (EI.cel cp rfl rfl rfl (by decide)) (by omega)) (EI.sub (EI.cel cp rfl rfl rfl (by decide)) EI.const))
      (ET.lne hu (EL.sorted (EV.bui R15 nm_sorted bo_sorted (by decide) rfl rfl rfl rfl (by decide)) (EL.of (EV.loc S15 mp rfl rfl rfl (by decide)) apl) (by omega) (rv_sorted Tt) rfl) (EL.lrange (n := N) (EV.bui R15 nm_list bo_list (by decide) rfl rfl rfl rfl (by decide)) OA.hh (ER.one (EV.bui R15 nm_range bo_range (by decide) rfl rfl rfl rfl (by decide)) (EI.loc S15 mz rfl rfl rfl (by decide)) rfl) rfl (by omega) rfl))) fun h16 x16 => ?_
    have eh : r ^ ((N : Int) / 2).toNat % q = q - 1 := by
      have : ((N : Int) / 2).toNat = 2 ^ (kn + 1 - 1) := by rw [← hN, Nat.pow_succ, Nat.add_sub_cancel]; omega
      rw [this]; exact Tt.half
    rw [eh, hN, decide_eq_false (by simp), decide_eq_true rfl, if_neg (by decide)]
    refine X.nil ?_
    have S16 := S15.up x16
    clear S15 R15 cp cr apl x16
    have R16 := R.up S16.keep
    generalize hrow : (List.range N).map (fun i => rung st (2 + i) q) = row0
    have lrow : row0.length = N := by rw [← hrow]; simp
    have grow : Rg q row0 := fun x hx => by
      rw [← hrow] at hx
      obtain ⟨i, _, rfl⟩ := List.mem_map.mp hx
      exact rung_range (by omega)
    have B16 : BS g L m Bl sl st _ 2 h16 := ⟨t9, S16⟩
    refine X.asgCelXS (kd := .cellU) (c := L + 4) S16 cell_cellU rfl rfl rfl (EX.list1 (EX.comp (cl := [(Str.ofString "p", L + 2), (Str.ofString "bell", L + 1)]) (ns := row0) B16 (SrcB.range (n := N) OA.hh (ER.one (EV.bui R16 nm_range bo_range (by decide) rfl rfl rfl rfl (by decide)) (EI.cast (EI.loc S16 mz rfl rfl rfl (by decide)) (show _ = (N : Int) * 1 by omega)) rfl) (small_step (by omega) (by omega) (by omega) (by omega)) (rangeSize_step (by omega))) (fun C => rfl) lrow ?_ rfl (by decide) rfl (by decide) (by rw [sizeLine_eq]; omega)) rfl) ?_
    · rintro i C h' k B' hk ⟨m', t, hn', hm⟩
      have hk2 := rg_some (hrow ▸ hk)
      have S' := B'.choose_spec
      rw [← hk2.2]
      exact ru_ev R (OA.less (by decide)) B' (EV.glob (R.up S'.keep) nm_ru rfl rfl rfl (by decide)) (EV.cel (S'.at' _ (.tail _ (.tail _ (.head _)))) rfl rfl rfl (by decide)) (EI.cel (S'.at' _ (.tail _ (.tail _ (.tail _ (.head _))))) rfl rfl rfl (by decide)) (by omega) (by omega) (by omega) rfl
    rintro v h17 ⟨rl, x0, h18, rfl, ⟨l0, t17, rfl, S18⟩, x18, aR, nR⟩
    refine ⟨_, SS.pull [_, _, _, _, _, _, _] (S18.new x18 aR nR), fun h19 S19 => ?_⟩
    have S19 := SS.push' (post := []) [_, _, _, _, _, _, _, _] (SS.push' (post := []) [_, _, _, _, _, _, _, _] (SS.push' [_, _, _, _, _, _, _] (S19 (.cell (.ref rl)) fun o d => d)))
    have S19 : SS g L h19 m [(Bl, .vals [.int ((2 + N : Nat) : Int) t17, .ref sl]), (sl, .ints st), (L + 1, .cell (.ref Bl)), (L + 2, .cellI q), (L + 3, .cellI r), (L + 4, .cell (.ref rl)), (pl, .ints (rvL (kn + 1))), (rl, .pvals [.ref l0]), (l0, .ints row0)] := S19
    clear S16 S18 aR nR R16 B16 x18
    have R19 := R.up S19.keep
    refine X.asgXS S19 (EX.list1 (E1.ex (EL.fw (K := kn + 1) R19 (OA.less (by decide)) (EV.glob R19 nm_fw rfl rfl rfl (by decide)) (EL.of (EV.item (vs := [.ref l0]) (EV.cel (S19.at' _ (.tail _ (.tail _ (.tail _ (.tail _ (.tail _ (.head _))))))) rfl rfl rfl (by decide)) (S19.at' _ (.tail _ (.tail _ (.tail _ (.tail _ (.tail _ (.tail _ (.tail _ (.head _))))))))).unv EI.const (by decide) (by decide) rfl) (S19.at' _ (.tail _ (.tail _ (.tail _ (.tail _ (.tail _ (.tail _ (.tail _ (.tail _ (.head _))))))))))) (EI.cel (S19.at' _ (.tail _ (.tail _ (.tail _ (.tail _ (.head _)))))) rfl rfl rfl (by decide)) (EI.cel (S19.at' _ (.tail _ (.tail _ (.tail _ (.head _))))) rfl rfl rfl (by decide)) (by rw [lrow, hN]) kn5 q00 q1 r0 r1000 rfl)) rfl) ?_
    rintro v h20 ⟨vl, x0, h21, rfl, ⟨h22, y1, y2, l1, rfl, aV, nV⟩, y3, aL, nL⟩
    refine ⟨_, ((S19.up y1).new y2 aV nV).new y3 aL nL, fun h23 S23 => ?_⟩
    have S23 := SS.push' [_, _, _, _, _, _, _, _, _] (SS.push' [_, _, _, _, _, _, _, _, _] S23)
    obtain ⟨m2, mz, mp, mv, S23⟩ : ∃ m, m (Str.ofString "size") = some (.int (N : Int) t6) ∧ m (Str.ofString "places") = some (.ref pl) ∧ m (Str.ofString "values") = some (.ref vl) ∧ SS g L h23 m [(Bl, .vals [.int ((2 + N : Nat) : Int) t17, .ref sl]), (sl, .ints st), (L + 1, .cell (.ref Bl)), (L + 2, .cellI q), (L + 3, .cellI r), (L + 4, .cell (.ref rl)), (pl, .ints (rvL (kn + 1))), (rl, .pvals [.ref l0]), (vl, .pvals [.ref l1]), (l1, .ints (fw q r (kn + 1) row0)), (l0, .ints row0)] := ⟨_, up_ne (by decide) mz, up_ne (by decide) mp, up_self, S23⟩
    clear S19 R19 y1 y2 y3 aV nV aL nL
    have R23 := R.up S23.keep
    have prg := rv_rg Tt
    rw [hN] at prg
    refine X.if (ET.lne hu (EL.of (EV.item (vs := [.ref l1]) (EV.loc S23 mv rfl rfl rfl (by decide)) (S23.at' _ (.tail _ (.tail _ (.tail _ (.tail _ (.tail _ (.tail _ (.tail _ (.tail _ (.head _)))))))))).unv EI.const (by decide) (by decide) rfl) (S23.at' _ (.tail _ (.tail _ (.tail _ (.tail _ (.tail _ (.tail _ (.tail _ (.tail _ (.tail _ (.head _)))))))))))) (E1.compCell (cl := [(Str.ofString "rows", L + 4), (Str.ofString "root", L + 3), (Str.ofString "p", L + 2)]) (ns := (rvL (kn + 1)).map fun pl => dft q r row0 pl.toNat) OA.hh (EL.of (EV.loc S23 mp rfl rfl rfl (by decide)) (S23.at' _ (.tail _ (.tail _ (.tail _ (.tail _ (.tail _ (.tail _ (.head _))))))))) (List.length_map _) ?_ rfl (fun _ => rfl) (fun _ => rfl) rfl (by decide) (fun _ => rfl) (by rw [lp, sizeLine_eq]; omega)).el) fun h24 x24 => ?_
    · rintro i C h' k pc x hk hp hcell
      have S' := S23.up x
      have R' := R.up S'.keep
      have pr := prg pc (List.mem_of_getElem? hp)
      refine EI.cast (EI.mod (EI.sum (ns := (List.range row0.length).map fun i => row0.getD i 0 * r ^ (i * pc.toNat)) (EV.bui R' nm_sum bo_sum (by decide) rfl rfl rfl rfl (by decide)) OA.hh (E1.comp (cl := [(Str.ofString "root", L + 3), (Str.ofString "place", C + 1)]) (Src.enum OA.hh (by decide) (EV.bui R' nm_enum bo_enum (by decide) rfl rfl rfl rfl (by decide)) (EL.of (EV.item (vs := [.ref l0]) (EV.cel (S'.at' _ (.tail _ (.tail _ (.tail _ (.tail _ (.tail _ (.head _))))))) rfl rfl rfl (by decide)) (S'.at' _ (.tail _ (.tail _ (.tail _ (.tail _ (.tail _ (.tail _ (.tail _ (.head _))))))))).unv EI.const (by decide) (by decide) rfl) (S'.at' _ (.tail _ (.tail _ (.tail _ (.tail _ (.tail _ (.tail _ (.tail _ (.tail _ (.tail _ (.tail _ (.head _))))))))))))) rfl) (fun C => ⟨rfl, rfl⟩) (by simp) ?_ rfl (by decide) rfl (by decide) (by rw [lrow, sizeLine_eq]; omega)).el rfl) (EI.cel (S'.at' _ (.tail _ (.tail _ (.tail _ (.head _))))) rfl rfl rfl (by decide)) (by omega)) (map_some (f := fun pl => dft q r row0 pl.toNat) hk hp)
      rintro j C2 h2 k2 y hk2 ⟨m', k0, t, u, hn', h0, m1, m2'⟩
      have gr := grow k0 (List.mem_of_getElem? h0)
      have jr := (rg_some hk2).1
      have jp : j * pc.toNat ≤ 8 * 8 := Nat.mul_le_mul (by omega) (by omega)
      have ex : (j : Int) * pc = ((j * pc.toNat : Nat) : Int) := by push_cast; rw [Int.toNat_of_nonneg pr.1]
      refine EI.cast (EI.mul (EI.of (EV.ns hn' m2' rfl rfl (by decide))) (EI.pow (b := ((j * pc.toNat : Nat) : Int)) (EI.cel ((S'.up y).at' _ (.tail _ (.tail _ (.tail _ (.tail _ (.head _)))))) rfl rfl rfl (by decide)) (EI.cast (EI.mul (EI.of (EV.ns hn' m1 rfl rfl (by decide))) (EI.cel (hcell.up y) rfl rfl rfl (by decide)) (mul_ok (by omega) (by omega))) ex) (by omega) (by omega) (by omega)) (mul_ok (by omega) (by omega))) ?_
      rw [← (rg_some hk2).2, getD_of h0, Int.toNat_natCast]
    rw [L1 Tt (by rw [lrow, hN]), decide_eq_true rfl, if_neg (by decide)]
    refine X.nil ?_
    have S24 := S23.up x24
    clear S23 x24 R23
    have R24 := R.up S24.keep
    have tr7 := rung_range (st := st) (c := 2 + N) (many := 7) (by decide)
    obtain ⟨tn, htn⟩ := Int.eq_ofNat_of_zero_le (show 0 ≤ 1 + rung st (2 + N) 7 by omega)
    have tn1 : 1 ≤ tn ∧ tn ≤ 7 := by omega
    refine X.for_rangeX (g := g) (L := L) (m := m2) (a := 0) (b := (tn : Int) * 1) (c := 1) (n := tn) (fun i m own => ∃ (c : Nat) (tb : Tok) (tr : List (Addr × Addr × List Int)) (objs : List (Addr × Kd)), own = (Bl, .vals [.int (c : Int) tb, .ref sl]) :: (sl, .ints st) :: (L + 1, .cell (.ref Bl)) :: (L + 2, .cellI q) :: (L + 3, .cellI r) :: (L + 4, .cell (.ref rl)) :: (pl, .ints (rvL (kn + 1))) :: (rl, .pvals (tr.map fun e => .ref e.1)) :: (vl, .pvals (tr.map fun e => .ref e.2.1)) :: objs ∧
      (∀ e ∈ tr, (e.1, Kd.ints e.2.2) ∈ objs ∧ (e.2.1, Kd.ints (fw q r (kn + 1) e.2.2)) ∈ objs ∧ e.2.2.length = N ∧ Rg q e.2.2) ∧ tr.length = i + 1 ∧ c = 3 + N + 2 * i ∧ m (Str.ofString "size") = some (.int (N : Int) t6) ∧ m (Str.ofString "places") = some (.ref pl) ∧ m (Str.ofString "values") = some (.ref vl)) OA.hh ?_ (small_step (by omega) (by omega) (by omega) (by omega)) (rangeSize_step (by omega)) ?_ ?_
    · intro h1 y
      have S25 := S24.up y
      refine (EX.range (k := (tn : Int) * 1) (Q := BS g L m2 Bl sl st _ (2 + N + 1)) (EV.bui R24 nm_range bo_range (by decide) rfl rfl rfl rfl (by decide)) ((show (1 : Int) + rung st (2 + N) 7 = (tn : Int) * 1 by omega) ▸ EX.binr EI.const (EX.ru R (OA.less (by decide)) ⟨t17, S24⟩ (EV.glob R24 nm_ru rfl rfl rfl (by decide)) (EV.cel (S24.at' _ (.tail _ (.tail _ (.head _)))) rfl rfl rfl (by decide)) EI.const st100 (by omega) (by decide) rfl) bop_add) rfl h1 y).mono ?_
      rintro v h' ⟨ra, ta, ua, va, h0, rfl, hr', ⟨tb, S0⟩, x0⟩
      refine ⟨ra, ta, ua, va, _, rfl, hr', S0.up x0, 2 + N + 1, tb, [(l0, l1, row0)], _, rfl, ?_, rfl, by omega, mz, mp, mv⟩
      intro e he
      rw [List.mem_singleton.mp he]
      exact ⟨.tail _ (.head _), .head _, lrow, grow⟩
    · rintro i h' m' own' I o t hi ⟨c, tb, tr, objs, rfl, htr, hlr, hc, mz, mp, mv⟩ S
      have S := SS.push' [_, _] S
      have S : SS g L h' _ ((Bl, .vals [.int (c : Int) tb, .ref sl]) :: (sl, .ints st) :: (I, .obj o) :: (L + 1, .cell (.ref Bl)) :: (L + 2, .cellI q) :: (L + 3, .cellI r) :: (L + 4, .cell (.ref rl)) :: (pl, .ints (rvL (kn + 1))) :: (rl, .pvals (tr.map fun e => .ref e.1)) :: (vl, .pvals (tr.map fun e => .ref e.2.1)) :: objs) := S
      obtain ⟨m3, mz, mp, mv, S⟩ : ∃ m, m (Str.ofString "size") = some (.int (N : Int) t6) ∧ m (Str.ofString "places") = some (.ref pl) ∧ m (Str.ofString "values") = some (.ref vl) ∧ SS g L h' m _ := ⟨_, up_ne (by decide) mz, up_ne (by decide) mp, up_ne (by decide) mv, S⟩
      have fr := rung_range (st := st) (c := c) (many := 6) (by decide)
      have sr := rung_range (st := st) (c := c + 1) (many := 1000) (by decide)
      generalize hform : rung st c 6 = form at fr
      obtain ⟨sp, hsp⟩ := Int.eq_ofNat_of_zero_le sr.1
      rw [hsp] at sr
      refine X.asg2XS (Q1 := fun v h => (∃ t, v = .int form t) ∧ BS g L m3 Bl sl st _ (c + 1) h) (Q2 := fun v v2 h => (∃ t, v = .int form t) ∧ (∃ t, v2 = .int (sp : Int) t) ∧ BS g L m3 Bl sl st _ (c + 2) h) S OA.hh (hform ▸ EX.ru R (OA.less (by decide)) ⟨tb, S⟩ (EV.glob (R.up S.keep) nm_ru rfl rfl rfl (by decide)) (EV.cel (S.at' _ (.tail _ (.tail _ (.tail _ (.head _))))) rfl rfl rfl (by decide)) EI.const st100 (by omega) (by decide) rfl)
        (fun v h1 ⟨hv, B1⟩ h2 y => ((hsp ▸ EX.ru R (OA.less (by decide)) B1 (EV.glob (R.up B1.choose_spec.keep) nm_ru rfl rfl rfl (by decide)) (EV.cel (B1.choose_spec.at' _ (.tail _ (.tail _ (.tail _ (.head _))))) rfl rfl rfl (by decide)) EI.const st100 (by omega) (by decide) rfl : EX _ _ _ _ _ _ (fun v h => (∃ t, v = .int (sp : Int) t) ∧ BS g L m3 Bl sl st _ (c + 1 + 1) h)) h2 y).mono fun v2 h3 ⟨a, b⟩ => ⟨hv, a, b⟩) (fun h2 v1 v2 ⟨⟨tf, e1⟩, ⟨tsp, e2⟩, tb2, S2⟩ => ?_) rfl
      subst e1 e2
      refine ⟨_, S2, fun h3 S3 => ?_⟩
      obtain ⟨m4, mz, mp, mv, mf, ms, S3⟩ : ∃ m, m (Str.ofString "size") = some (.int (N : Int) t6) ∧ m (Str.ofString "places") = some (.ref pl) ∧ m (Str.ofString "values") = some (.ref vl) ∧ m (Str.ofString "form") = some (.int form tf) ∧ m (Str.ofString "spot") = some (.int (sp : Int) tsp) ∧ SS g L h3 m ((Bl, .vals [.int ((c + 2 : Nat) : Int) tb2, .ref sl]) :: (sl, .ints st) :: (I, .obj o) :: (L + 1, .cell (.ref Bl)) :: (L + 2, .cellI q) :: (L + 3, .cellI r) :: (L + 4, .cell (.ref rl)) :: (pl, .ints (rvL (kn + 1))) :: (rl, .pvals (tr.map fun e => .ref e.1)) :: (vl, .pvals (tr.map fun e => .ref e.2.1)) :: objs) :=
        ⟨_, up_ne (by decide) (up_ne (by decide) mz), up_ne (by decide) (up_ne (by decide) mp), up_ne (by decide) (up_ne (by decide) mv), up_self, up_ne (by decide) up_self, S3⟩
      clear S S2
      have R3 := R.up S3.keep
      refine X.asg2S S3 OA.hh (E1.tup3 (EI.loc S3 mf rfl rfl rfl (by decide)) (EI.cast (b := ((sp % N : Nat) : Int)) (EI.mod (EI.loc S3 ms rfl rfl rfl (by decide)) (EI.loc S3 mz rfl rfl rfl (by decide)) (by omega)) (by push_cast; rfl)) (EI.mod (EI.fdiv (EI.loc S3 ms rfl rfl rfl (by decide)) (EI.loc S3 mz rfl rfl rfl (by decide)) (by omega) (PyProof.noPylong_small (by omega))) (EI.cel (S3.at' _ (.tail _ (.tail _ (.tail _ (.tail _ (.head _)))))) rfl rfl rfl (by decide)) (by omega)) rfl)
        (EI.cast (b := ((sp % tr.length : Nat) : Int)) (EI.mod (EI.loc S3 ms rfl rfl rfl (by decide)) (EI.lenv (EV.bui R3 nm_len bo_len (by decide) rfl rfl rfl rfl (by decide)) (EV.cel (S3.at' _ (.tail _ (.tail _ (.tail _ (.tail _ (.tail _ (.tail _ (.head _)))))))) rfl rfl rfl (by decide)) (S3.at' _ (.tail _ (.tail _ (.tail _ (.tail _ (.tail _ (.tail _ (.tail _ (.tail _ (.head _)))))))))).unv (by rw [List.length_map]; omega) rfl) (by rw [List.length_map]; omega)) (by rw [List.length_map]; push_cast; rfl)) (fun h4 h5 v1 v2 x1 p1 x2 p2 => ?_) rfl
      obtain ⟨Td, u1, u2, u3, rfl, ⟨oT, eT, cT, nT', dT⟩, nT⟩ := p1
      obtain ⟨u4, rfl⟩ := p2
      refine ⟨_, (S3.new x1 (k := .obj oT) ⟨oT, eT, rfl⟩ nT).up x2, fun h6 S6 => ?_⟩
      have u0 := (md q00 ((sp : Int) / (N : Int)))
      generalize hnum : (sp : Int) / (N : Int) % q = num at dT u0
      have hTd : ∀ {h}, At h Td (.obj oT) → IsTup h Td #[.int form u1, .int ((sp % N : Nat) : Int) u2, .int num u3] := fun ⟨o', e', q'⟩ => ⟨o', e', (show o' = oT from q') ▸ cT, nT', (show o' = oT from q') ▸ dT⟩
      have aN : sp % N < N := Nat.mod_lt _ (by omega)
      have moN : sp % tr.length < tr.length := Nat.mod_lt _ (by omega)
      generalize sp % N = ad at S6 hTd aN
      have ad32 : ad < 32 := by omega
      have u1000 : num < 1000 := by omega
      generalize sp % tr.length = mo at S6 moN
      obtain ⟨m5, mz, mp, mv, md', mm', S6⟩ : ∃ m, m (Str.ofString "size") = some (.int (N : Int) t6) ∧ m (Str.ofString "places") = some (.ref pl) ∧ m (Str.ofString "values") = some (.ref vl) ∧ m (Str.ofString "deed") = some (.ref Td) ∧ m (Str.ofString "moment") = some (.int (mo : Int) u4) ∧ SS g L h6 m ((Td, .obj oT) :: (Bl, .vals [.int ((c + 2 : Nat) : Int) tb2, .ref sl]) :: (sl, .ints st) :: (I, .obj o) :: (L + 1, .cell (.ref Bl)) :: (L + 2, .cellI q) :: (L + 3, .cellI r) :: (L + 4, .cell (.ref rl)) :: (pl, .ints (rvL (kn + 1))) :: (rl, .pvals (tr.map fun e => .ref e.1)) :: (vl, .pvals (tr.map fun e => .ref e.2.1)) :: objs) :=
        ⟨_, up_ne (by decide) (up_ne (by decide) mz), up_ne (by decide) (up_ne (by decide) mp), up_ne (by decide) (up_ne (by decide) mv), up_self, up_ne (by decide) up_self, S6⟩
      clear S3 x1 x2 eT nT R3 mf ms
      have R6 := R.up S6.keep
      obtain ⟨eL, heL⟩ : ∃ e, tr[i]? = some e := ⟨_, List.getElem?_eq_getElem (by omega)⟩
      obtain ⟨eM, heM⟩ : ∃ e, tr[mo]? = some e := ⟨_, List.getElem?_eq_getElem moN⟩
      obtain ⟨bL1, bL2, bL3, bL4⟩ := htr eL (List.mem_of_getElem? heL)
      obtain ⟨bM1, bM2, bM3, bM4⟩ := htr eM (List.mem_of_getElem? heM)
      have gl1 : (tr.map fun e => Value.ref e.1)[(-1 + ((tr.map fun e => Value.ref e.1).length : Int)).toNat]? = some (.ref eL.1) := by
        rw [List.length_map, show (-1 + (tr.length : Int)).toNat = i by omega, List.getElem?_map, heL]; rfl
      have gl2 : (tr.map fun e => Value.ref e.2.1)[(-1 + ((tr.map fun e => Value.ref e.2.1).length : Int)).toNat]? = some (.ref eL.2.1) := by
        rw [List.length_map, show (-1 + (tr.length : Int)).toNat = i by omega, List.getElem?_map, heL]; rfl
      have gm1 : (tr.map fun e => Value.ref e.1)[((mo : Int)).toNat]? = some (.ref eM.1) := by rw [Int.toNat_natCast, List.getElem?_map, heM]; rfl
      have gm2 : (tr.map fun e => Value.ref e.2.1)[((mo : Int)).toNat]? = some (.ref eM.2.1) := by rw [Int.toNat_natCast, List.getElem?_map, heM]; rfl
      have nl1 : -((tr.map fun e => Value.ref e.1).length : Int) ≤ -1 := by rw [List.length_map]; omega
      have nl2 : -((tr.map fun e => Value.ref e.2.1).length : Int) ≤ -1 := by rw [List.length_map]; omega
      have lfL : (fw q r (kn + 1) eL.2.2).length = N := by rw [fw_length, bL3]
      have lfM : (fw q r (kn + 1) eM.2.2).length = N := by rw [fw_length, bM3]
      refine X.asgN S6 (EL.ch (n := N) (a := ad) R6 (OA.less (by decide)) (EV.glob R6 nm_ch rfl rfl rfl (by decide)) (EV.loc S6 md' rfl rfl rfl (by decide)) (hTd (S6.at' _ (.head _)))
        (EL.of (EV.itemN (EV.cel (S6.at' _ (.tail _ (.tail _ (.tail _ (.tail _ (.tail _ (.tail _ (.tail _ (.head _))))))))) rfl rfl rfl (by decide)) (S6.at' _ (.tail _ (.tail _ (.tail _ (.tail _ (.tail _ (.tail _ (.tail _ (.tail _ (.tail _ (.head _))))))))))).unv (EI.neg EI.const) (by decide) nl1 (by decide) gl1) (S6.at' _ (.tail _ (.tail _ (.tail _ (.tail _ (.tail _ (.tail _ (.tail _ (.tail _ (.tail _ (.tail _ (.tail _ bL1)))))))))))))
        (EL.of (EV.item (EV.cel (S6.at' _ (.tail _ (.tail _ (.tail _ (.tail _ (.tail _ (.tail _ (.tail _ (.head _))))))))) rfl rfl rfl (by decide)) (S6.at' _ (.tail _ (.tail _ (.tail _ (.tail _ (.tail _ (.tail _ (.tail _ (.tail _ (.tail _ (.head _))))))))))).unv (EI.loc S6 mm' rfl rfl rfl (by decide)) (by omega) (by omega) gm1) (S6.at' _ (.tail _ (.tail _ (.tail _ (.tail _ (.tail _ (.tail _ (.tail _ (.tail _ (.tail _ (.tail _ (.tail _ bM1)))))))))))))
        (EI.cel (S6.at' _ (.tail _ (.tail _ (.tail _ (.tail _ (.tail _ (.tail _ (.head _)))))))) rfl rfl rfl (by decide)) (EI.cel (S6.at' _ (.tail _ (.tail _ (.tail _ (.tail _ (.tail _ (.head _))))))) rfl rfl rfl (by decide)) bL3 bM3 N0 N32 ad32 u0.1 u1000 q00 q1 r0 r1000 bL4 rfl) fun h7 ro S7 => ?_
      have R7 := R.up S7.keep
      refine X.asgN S7 (EL.me (n := N) (a := ad) R7 (OA.less (by decide)) (EV.glob R7 nm_me rfl rfl rfl (by decide)) (EV.loc S7 (up_ne (by decide) md') rfl rfl rfl (by decide)) (hTd (S7.at' _ (.tail _ (.head _))))
        (EL.of (EV.itemN (EV.loc S7 (up_ne (by decide) mv) rfl rfl rfl (by decide)) (S7.at' _ (.tail _ (.tail _ (.tail _ (.tail _ (.tail _ (.tail _ (.tail _ (.tail _ (.tail _ (.tail _ (.tail _ (.head _))))))))))))).unv (EI.neg EI.const) (by decide) nl2 (by decide) gl2) (S7.at' _ (.tail _ (.tail _ (.tail _ (.tail _ (.tail _ (.tail _ (.tail _ (.tail _ (.tail _ (.tail _ (.tail _ (.tail _ bL2))))))))))))))
        (EL.of (EV.item (EV.loc S7 (up_ne (by decide) mv) rfl rfl rfl (by decide)) (S7.at' _ (.tail _ (.tail _ (.tail _ (.tail _ (.tail _ (.tail _ (.tail _ (.tail _ (.tail _ (.tail _ (.tail _ (.head _))))))))))))).unv (EI.loc S7 (up_ne (by decide) mm') rfl rfl rfl (by decide)) (by omega) (by omega) gm2) (S7.at' _ (.tail _ (.tail _ (.tail _ (.tail _ (.tail _ (.tail _ (.tail _ (.tail _ (.tail _ (.tail _ (.tail _ (.tail _ bM2))))))))))))))
        (EL.of (EV.loc S7 (up_ne (by decide) mp) rfl rfl rfl (by decide)) (S7.at' _ (.tail _ (.tail _ (.tail _ (.tail _ (.tail _ (.tail _ (.tail _ (.tail _ (.tail _ (.head _))))))))))))
        (EI.cel (S7.at' _ (.tail _ (.tail _ (.tail _ (.tail _ (.tail _ (.tail _ (.tail _ (.head _))))))))) rfl rfl rfl (by decide)) (EI.cel (S7.at' _ (.tail _ (.tail _ (.tail _ (.tail _ (.tail _ (.tail _ (.head _)))))))) rfl rfl rfl (by decide)) lfL lfM lp N0 N32 ad32 u0.1 u1000 q00 q1 r0 r1000 (fw_rg q00 _ _ _) prg rfl) fun h8 me S8 => ?_
      have hK3 := L2 (form := form) (num := num) (a := ad) Tt (hN ▸ bL3) (hN ▸ bM3) fr.1 fr.2 (hN ▸ aN) u0.1 u0.2 bL4
      rw [hN] at hK3
      have hg := L6 (form := form) (num := num) (a := ad) (ys := eM.2.2) Tt (hN ▸ bL3) bL4
      rw [hN] at hg
      have hB3 := L3 (xs := chg form ad num q r N eL.2.2 eM.2.2) Tt (by rw [chg_length, hN]) hg
      rw [← hK3] at S8
      generalize hxs : chg form ad num q r N eL.2.2 eM.2.2 = xs at S8 hK3 hg hB3
      have lxs : xs.length = N := by rw [← hxs, chg_length]
      obtain ⟨m6, mz, mp, mv, mr, mme, S8⟩ : ∃ m, m (Str.ofString "size") = some (.int (N : Int) t6) ∧ m (Str.ofString "places") = some (.ref pl) ∧ m (Str.ofString "values") = some (.ref vl) ∧ m (Str.ofString "row") = some (.ref ro) ∧ m (Str.ofString "mended") = some (.ref me) ∧ SS g L h8 m ((me, .ints (fw q r (kn + 1) xs)) :: (ro, .ints xs) :: (Td, .obj oT) :: (Bl, .vals [.int ((c + 2 : Nat) : Int) tb2, .ref sl]) :: (sl, .ints st) :: (I, .obj o) :: (L + 1, .cell (.ref Bl)) :: (L + 2, .cellI q) :: (L + 3, .cellI r) :: (L + 4, .cell (.ref rl)) :: (pl, .ints (rvL (kn + 1))) :: (rl, .pvals (tr.map fun e => .ref e.1)) :: (vl, .pvals (tr.map fun e => .ref e.2.1)) :: objs) :=
        ⟨_, up_ne (by decide) (up_ne (by decide) mz), up_ne (by decide) (up_ne (by decide) mp), up_ne (by decide) (up_ne (by decide) mv), up_ne (by decide) up_self, up_self, S8⟩
      clear S6 S7 R6 R7 md' mm'
      have R8 := R.up S8.keep
      refine X.if (ET.or (ET.lne hu (EL.fw (K := kn + 1) R8 (OA.less (by decide)) (EV.glob R8 nm_fw rfl rfl rfl (by decide)) (EL.of (EV.loc S8 mr rfl rfl rfl (by decide)) (S8.at' _ (.tail _ (.head _)))) (EI.cel (S8.at' _ (.tail _ (.tail _ (.tail _ (.tail _ (.tail _ (.tail _ (.tail _ (.tail _ (.head _)))))))))) rfl rfl rfl (by decide)) (EI.cel (S8.at' _ (.tail _ (.tail _ (.tail _ (.tail _ (.tail _ (.tail _ (.tail _ (.head _))))))))) rfl rfl rfl (by decide)) (by rw [lxs, hN]) kn5 q00 q1 r0 r1000 rfl).el (EL.of (EV.loc S8 mme rfl rfl rfl (by decide)) (S8.at' _ (.head _))))
        (ET.lne hu (EL.bw (K := kn + 1) R8 (OA.less (by decide)) (EV.glob R8 nm_bw rfl rfl rfl (by decide)) (EL.of (EV.loc S8 mme rfl rfl rfl (by decide)) (S8.at' _ (.head _))) (EI.cel (S8.at' _ (.tail _ (.tail _ (.tail _ (.tail _ (.tail _ (.tail _ (.tail _ (.tail _ (.head _)))))))))) rfl rfl rfl (by decide)) (EI.cel (S8.at' _ (.tail _ (.tail _ (.tail _ (.tail _ (.tail _ (.tail _ (.tail _ (.head _))))))))) rfl rfl rfl (by decide)) (by rw [fw_length, lxs, hN]) kn5 q0 q1 r0 r1000 rfl).el (EL.of (EV.loc S8 mr rfl rfl rfl (by decide)) (S8.at' _ (.tail _ (.head _)))))) fun h9 x9 => ?_
      rw [hB3, decide_eq_true rfl, decide_eq_true rfl, if_neg (by decide)]
      refine X.nil ?_
      have S9 := SS.pull [_, _, _, _, _, _, _, _, _, _, _] (S8.up x9)
      refine X.app S9 (EV.cel (S9.at' _ (.tail _ (.tail _ (.tail _ (.tail _ (.tail _ (.tail _ (.tail _ (.tail _ (.tail _ (.tail _ (.head _)))))))))))) rfl rfl rfl (by decide)) (EV.loc S9 mr rfl rfl rfl (by decide)) (by rw [List.length_map, sizeLine_eq]; omega) (fun h10 h11 h12 v y1 ev y2 _ S12 _ => ?_) rfl
      subst ev
      have S12 := SS.pull [_, _, _, _, _, _, _, _, _, _, _, _] (SS.push' [_, _, _, _, _, _, _, _, _, _, _] S12)
      refine X.app S12 (EV.loc S12 mv rfl rfl rfl (by decide)) (EV.loc S12 mme rfl rfl rfl (by decide)) (by rw [List.length_map, sizeLine_eq]; omega) (fun h13 h14 h15 v y1' ev y2' _ S15 _ => ?_) rfl
      subst ev
      have S15 := SS.push' [_, _, _, _, _, _, _, _, _, _, _, _] S15
      have S15 := SS.pull [_, _, _, _, _] S15
      have S15 := S15.perm (List.Perm.cons _ (List.perm_append_comm_assoc [(me, .ints (fw q r (kn + 1) xs)), (ro, .ints xs), (Td, .obj oT)] [_, _, _, _, _, _, _, _, _] objs))
      refine X.nil ⟨_, _, S15, c + 2, tb2, tr ++ [(ro, me, xs)], (me, .ints (fw q r (kn + 1) xs)) :: (ro, .ints xs) :: (Td, .obj oT) :: objs, ?_, ?_, by rw [List.length_append, hlr]; rfl, by omega, mz, mp, mv⟩
      · rw [List.map_append, List.map_append]
        rfl
      · intro e he
        rcases List.mem_append.mp he with he | he
        · obtain ⟨a1, a2, a3, a4⟩ := htr e he
          exact ⟨.tail _ (.tail _ (.tail _ a1)), .tail _ (.tail _ (.tail _ a2)), a3, a4⟩
        · rw [List.mem_singleton.mp he]
          exact ⟨.tail _ (.head _), .head _, lxs, hg⟩
    · rintro h' m' own' ⟨c, tb, tr, objs, rfl, htr, hlr, hc, mz, mp, mv⟩ S
      have R0 := R.up S.keep
      obtain ⟨eL, heL⟩ : ∃ e, tr[tn]? = some e := ⟨_, List.getElem?_eq_getElem (by omega)⟩
      obtain ⟨eM, heM⟩ : ∃ e, tr[tn - 1]? = some e := ⟨_, List.getElem?_eq_getElem (by omega)⟩
      obtain ⟨bL1, bL2, bL3, bL4⟩ := htr eL (List.mem_of_getElem? heL)
      obtain ⟨bM1, bM2, bM3, bM4⟩ := htr eM (List.mem_of_getElem? heM)
      have gl1 : (tr.map fun e => Value.ref e.1)[(-1 + ((tr.map fun e => Value.ref e.1).length : Int)).toNat]? = some (.ref eL.1) := by
        rw [List.length_map, show (-1 + (tr.length : Int)).toNat = tn by omega, List.getElem?_map, heL]; rfl
      have gl2 : (tr.map fun e => Value.ref e.2.1)[(-1 + ((tr.map fun e => Value.ref e.2.1).length : Int)).toNat]? = some (.ref eL.2.1) := by
        rw [List.length_map, show (-1 + (tr.length : Int)).toNat = tn by omega, List.getElem?_map, heL]; rfl
      have gm1 : (tr.map fun e => Value.ref e.1)[(-2 + ((tr.map fun e => Value.ref e.1).length : Int)).toNat]? = some (.ref eM.1) := by
        rw [List.length_map, show (-2 + (tr.length : Int)).toNat = tn - 1 by omega, List.getElem?_map, heM]; rfl
      have gm2 : (tr.map fun e => Value.ref e.2.1)[(-2 + ((tr.map fun e => Value.ref e.2.1).length : Int)).toNat]? = some (.ref eM.2.1) := by
        rw [List.length_map, show (-2 + (tr.length : Int)).toNat = tn - 1 by omega, List.getElem?_map, heM]; rfl
      have nl1 : -((tr.map fun e => Value.ref e.1).length : Int) ≤ -1 := by rw [List.length_map]; omega
      have nl2 : -((tr.map fun e => Value.ref e.2.1).length : Int) ≤ -1 := by rw [List.length_map]; omega
      have nm1 : -((tr.map fun e => Value.ref e.1).length : Int) ≤ -2 := by rw [List.length_map]; omega
      have nm2 : -((tr.map fun e => Value.ref e.2.1).length : Int) ≤ -2 := by rw [List.length_map]; omega
      have lfL : (fw q r (kn + 1) eL.2.2).length = N := by rw [fw_length, bL3]
      have lfM : (fw q r (kn + 1) eM.2.2).length = N := by rw [fw_length, bM3]
      have lzw : (List.zipWith (fun a b => a * b % q) (fw q r (kn + 1) eL.2.2) (fw q r (kn + 1) eM.2.2)).length = N := by rw [List.length_zipWith, lfL, lfM, Nat.min_self]
      refine X.asgC (cl := [(Str.ofString "p", L + 2)]) (ns := List.zipWith (fun a b => a * b % q) (fw q r (kn + 1) eL.2.2) (fw q r (kn + 1) eM.2.2)) S (Src.zip OA.hh (by decide) (EV.bui R0 nm_zip bo_zip (by decide) rfl rfl rfl rfl (by decide))
        (EL.of (EV.itemN (EV.loc S mv rfl rfl rfl (by decide)) (S.at' _ (.tail _ (.tail _ (.tail _ (.tail _ (.tail _ (.tail _ (.tail _ (.tail _ (.head _)))))))))).unv (EI.neg EI.const) (by decide) nl2 (by decide) gl2) (S.at' _ (.tail _ (.tail _ (.tail _ (.tail _ (.tail _ (.tail _ (.tail _ (.tail _ (.tail _ bL2)))))))))))
        (EL.of (EV.itemN (EV.loc S mv rfl rfl rfl (by decide)) (S.at' _ (.tail _ (.tail _ (.tail _ (.tail _ (.tail _ (.tail _ (.tail _ (.tail _ (.head _)))))))))).unv (EI.neg EI.const) (by decide) nm2 (by decide) gm2) (S.at' _ (.tail _ (.tail _ (.tail _ (.tail _ (.tail _ (.tail _ (.tail _ (.tail _ (.tail _ bM2))))))))))) (by rw [lfL, lfM]) rfl) (fun C => ⟨rfl, rfl⟩) (by rw [lzw, lfL]) ?_ ?_ rfl (by decide) rfl (by decide) (by rw [lfL, sizeLine_eq]; omega) rfl rfl rfl rfl
      · rintro i C h' k x hk ⟨m', k0, k1, t, u, hn', h0, h1, m1, m2'⟩
        have g1 := fw_rg q00 r (kn + 1) eL.2.2 k0 (List.mem_of_getElem? h0)
        exact EI.cast (EI.mod (EI.mul (EI.of (EV.ns hn' m1 rfl rfl (by decide))) (EI.of (EV.ns hn' m2' rfl rfl (by decide))) (mul_ok (by omega) (by omega))) (EI.cel ((S.up x).at' _ (.tail _ (.tail _ (.tail _ (.head _))))) rfl rfl rfl (by decide)) q00) (zw_some (f := fun a b => a * b % q) hk h0 h1)
      intro h2 pr S2
      have R2 := R.up S2.keep
      have gz : Rg q (List.zipWith (fun a b => a * b % q) (fw q r (kn + 1) eL.2.2) (fw q r (kn + 1) eM.2.2)) := fun x hx => by
        obtain ⟨i, hi, rfl⟩ := List.getElem_of_mem hx
        rw [List.getElem_zipWith]
        exact md q00 _
      have h4 := L4 Tt (by rw [lzw, hN]) gz
      have h5 := L5 Tt (by rw [bL3, hN]) (by rw [bM3, hN])
      rw [eN, hN] at h5
      refine X.if (ET.lne hu (EL.fw (K := kn + 1) R2 (OA.less (by decide)) (EV.glob R2 nm_fw rfl rfl rfl (by decide)) (EL.cv (z := (N : Int)) (K := kn + 1) R2 (OA.less (by decide)) (EV.glob R2 nm_cv rfl rfl rfl (by decide))
        (EL.of (EV.itemN (EV.cel (S2.at' _ (.tail _ (.tail _ (.tail _ (.tail _ (.tail _ (.tail _ (.head _)))))))) rfl rfl rfl (by decide)) (S2.at' _ (.tail _ (.tail _ (.tail _ (.tail _ (.tail _ (.tail _ (.tail _ (.tail _ (.head _)))))))))).unv (EI.neg EI.const) (by decide) nl1 (by decide) gl1) (S2.at' _ (.tail _ (.tail _ (.tail _ (.tail _ (.tail _ (.tail _ (.tail _ (.tail _ (.tail _ (.tail _ bL1))))))))))))
        (EL.of (EV.itemN (EV.cel (S2.at' _ (.tail _ (.tail _ (.tail _ (.tail _ (.tail _ (.tail _ (.head _)))))))) rfl rfl rfl (by decide)) (S2.at' _ (.tail _ (.tail _ (.tail _ (.tail _ (.tail _ (.tail _ (.tail _ (.tail _ (.head _)))))))))).unv (EI.neg EI.const) (by decide) nm1 (by decide) gm1) (S2.at' _ (.tail _ (.tail _ (.tail _ (.tail _ (.tail _ (.tail _ (.tail _ (.tail _ (.tail _ (.tail _ bM1))))))))))))
        (EI.loc S2 (up_ne (by decide) mz) rfl rfl rfl (by decide)) (EI.cel (S2.at' _ (.tail _ (.tail _ (.tail _ (.tail _ (.head _)))))) rfl rfl rfl (by decide)) (by rw [hN]) (by rw [bL3, hN]) (by rw [bM3, hN]) (Nat.succ_pos kn) kn5 q0 q1 e2 (by rw [hN]; exact e3) rfl).el (EI.cel (S2.at' _ (.tail _ (.tail _ (.tail _ (.tail _ (.tail _ (.head _))))))) rfl rfl rfl (by decide)) (EI.cel (S2.at' _ (.tail _ (.tail _ (.tail _ (.tail _ (.head _)))))) rfl rfl rfl (by decide)) (by rw [cv, bw_length, hN, hr, lzw]) kn5 q00 q1 r0 r1000 rfl).el (EL.of (EV.loc S2 up_self rfl rfl rfl (by decide)) (S2.at' _ (.head _)))) fun h3 x3 => ?_
      rw [hN, hr, cv, h4, decide_eq_true rfl, if_neg (by decide)]
      refine X.nil ?_
      have S3 := S2.up x3
      have R3 := R.up S3.keep
      refine X.ret (EV.eq (EI.mod (EI.sum (EV.bui R3 nm_sum bo_sum (by decide) rfl rfl rfl rfl (by decide)) OA.hh (EL.of (EV.loc S3 up_self rfl rfl rfl (by decide)) (S3.at' _ (.head _))) rfl) (EI.cel (S3.at' _ (.tail _ (.tail _ (.tail _ (.tail _ (.head _)))))) rfl rfl rfl (by decide)) (by omega))
        (EI.mod (EI.mul (EI.loc S3 (up_ne (by decide) mz) rfl rfl rfl (by decide)) (EI.sum (EV.bui R3 nm_sum bo_sum (by decide) rfl rfl rfl rfl (by decide)) OA.hh (E1.comp (cl := [(Str.ofString "rows", L + 4)]) (ns := (List.range N).map fun i => eL.2.2.getD i 0 * eM.2.2.getD ((N - i) % N) 0) (Src.enum OA.hh (by decide) (EV.bui R3 nm_enum bo_enum (by decide) rfl rfl rfl rfl (by decide)) (EL.of (EV.itemN (EV.cel (S3.at' _ (.tail _ (.tail _ (.tail _ (.tail _ (.tail _ (.tail _ (.head _)))))))) rfl rfl rfl (by decide)) (S3.at' _ (.tail _ (.tail _ (.tail _ (.tail _ (.tail _ (.tail _ (.tail _ (.tail _ (.head _)))))))))).unv (EI.neg EI.const) (by decide) nl1 (by decide) gl1) (S3.at' _ (.tail _ (.tail _ (.tail _ (.tail _ (.tail _ (.tail _ (.tail _ (.tail _ (.tail _ (.tail _ bL1)))))))))))) rfl) (fun C => ⟨rfl, rfl⟩) (by simp [bL3]) ?_ rfl (by decide) rfl (by decide) (by rw [bL3, sizeLine_eq]; omega)).el rfl) (mul_ok (by omega) (by omega))) (EI.cel (S3.at' _ (.tail _ (.tail _ (.tail _ (.tail _ (.head _)))))) rfl rfl rfl (by decide)) (by omega))) fun v h4' x4 ev => ?_
      · rintro i C h' k x hk ⟨m', k0, t, u, hn', h0, m1, m2'⟩
        have g1 := bL4 k0 (List.mem_of_getElem? h0)
        have ii := (rg_some hk).1
        have S4 := S3.up x
        refine EI.cast (EI.mul (EI.of (EV.ns hn' m2' rfl rfl (by decide))) (?_ : EI _ _ _ _ _ _ (eM.2.2.getD ((N - i) % N) 0)) (mul_ok (by omega) (by omega))) (by rw [← (rg_some hk).2, getD_of h0])
        by_cases i0 : i = 0
        · refine EI.item (j := 0 - (i : Int)) (EL.of (EV.itemN (EV.cel (S4.at' _ (.tail _ (.tail _ (.tail _ (.tail _ (.tail _ (.tail _ (.head _)))))))) rfl rfl rfl (by decide)) (S4.at' _ (.tail _ (.tail _ (.tail _ (.tail _ (.tail _ (.tail _ (.tail _ (.tail _ (.head _)))))))))).unv (EI.neg EI.const) (by decide) nm1 (by decide) gm1) (S4.at' _ (.tail _ (.tail _ (.tail _ (.tail _ (.tail _ (.tail _ (.tail _ (.tail _ (.tail _ (.tail _ bM1)))))))))))) (EI.sub EI.const (EI.of (EV.ns hn' m1 rfl rfl (by decide)))) (by omega) (by omega) ?_
          rw [i0, Nat.sub_zero, Nat.mod_self]
          exact getD_some (by omega)
        · refine EI.itemN (j := 0 - (i : Int)) (EL.of (EV.itemN (EV.cel (S4.at' _ (.tail _ (.tail _ (.tail _ (.tail _ (.tail _ (.tail _ (.head _)))))))) rfl rfl rfl (by decide)) (S4.at' _ (.tail _ (.tail _ (.tail _ (.tail _ (.tail _ (.tail _ (.tail _ (.tail _ (.head _)))))))))).unv (EI.neg EI.const) (by decide) nm1 (by decide) gm1) (S4.at' _ (.tail _ (.tail _ (.tail _ (.tail _ (.tail _ (.tail _ (.tail _ (.tail _ (.tail _ (.tail _ bM1)))))))))))) (EI.sub EI.const (EI.of (EV.ns hn' m1 rfl rfl (by decide)))) (by omega) (by omega) (by omega) ?_
          rw [bM3, show (0 - (i : Int) + (N : Int)).toNat = (N - i) % N from by rw [Nat.mod_eq_of_lt (by omega)]; omega]
          exact getD_some (by rw [bM3]; exact Nat.mod_lt _ (by omega))
      · refine ⟨?_, S3.keep.trans x4⟩
        rw [ev, h5, decide_eq_true rfl]
  · rintro v h' tk' ⟨e, x⟩
    subst e
    refine ⟨.inl ⟨.bool true, _, [], rfl, fun _ => rfl, .bool true, ?_, fun hu => ?_⟩, x, rfl, hg⟩
    · first | rfl | decide | (show _ = _; kernel_rfl) | simp [PySem.Challenge.rw_sj0071_01]
    exact ⟨List.Pairwise.nil, fun a h => nomatch h⟩
end Mine

theorem PySem.Challenge.cw_sj0071_01_holds : PySem.Challenge.rw_sj0071_01.Holds := by
  exact Mine.walked
