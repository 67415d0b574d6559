import PyProof.Rows.All
import Wide.All
import OpenK.AllK
import Wide.FinOn
import PySem.Challenge.RW_ok0014_01
open PySem PySem.W PyProof.Rows
set_option Elab.async false
set_option compiler.extract_closed false
set_option linter.all false
namespace Mine
section
local macro_rules | `(tactic| refine $f:ident (q := $q) (loose := $l) (Xt := $x) (XP := $xp) (Yf := $yf) (Ya := $ya) (YP := $yp) (N := $n) ?$hl $a1 $a2 $a3 $a4 $a5 $a6 $a7 $a8 $a9 $b1 $b2 $b3 ?$hw ?$hc) => `(tactic| refine $f:ident (q := $q) (loose := $l) (Xt := $x) (XP := $xp) (Yf := $yf) (Ya := $ya) (YP := $yp) (N := $n) (fun w => by kernel_rfl) $a1 $a2 $a3 $a4 $a5 $a6 $a7 $a8 $a9 $b1 $b2 $b3 ?$hw ?$hc)
local macro_rules | `(tactic| o_law) => `(tactic| (refine holds_law (by decide +kernel) fun said => ?_))
set_option maxRecDepth 100000 in
set_option maxHeartbeats 0 in
open_top hd for PySem.Challenge.rw_ok0014_01
end
section
/-- what every contract is told of the world around -/
structure Cx where
  w : World
  p : Program
  loose : List PySem.Str
  mean : ExcName → Option Value
  mg : PySem.Str → Option Value
  mb : PySem.Str → Option Value

abbrev PR : Program := PySem.Challenge.rw_ok0014_01.row.prog

/-- a contract: a call of f with these arguments, from any frame, the ledger at hand being news -/
noncomputable def Ct (c : Cx) (f : Addr) (dn un : Nat) (args : List Value) (news : List (Addr × Obj)) (post : Value → List (Addr × Obj) → Prop) : Prop :=
  ∀ (A : Around) (env : Env) (outer : List Env) (A₀ : Around) (base h₀ : Heap) (L : Addr) (m : PySem.Str → Option Value) (s : Shared) (Q E : Value → Shared → Prop),
    A.handled = none → A.frames = some (env :: outer) → env.frame = some L → env.scope.kind = .function → A.depth + dn < recursionLimit → A.units + un < cLine →
    Below A₀ base outer h₀ → Fr h₀ L s.heap m → (hd.heap_1 c.w.params).In h₀ → News h₀ L s.heap news → Top c.p c.loose c.mean c.mg c.mb h₀ →
    (∀ r news' h' tk', Fr h₀ L h' m → News h₀ L h' news' → post r news' → Q r { s with heap := h', toks := tk' }) →
    wpAny (model PR c.w) A (call (.ref f) args) Q E s

theorem ct_use {c : Cx} {f : Addr} {dn un : Nat} {args : List Value} {news : List (Addr × Obj)} {post : Value → List (Addr × Obj) → Prop}
    {A : Around} {env : Env} {outer : List Env} {A₀ : Around} {base h₀ : Heap} {L : Addr} {m : PySem.Str → Option Value} {s : Shared} {Q E : Value → Shared → Prop}
    (C : Ct c f dn un args news post)
    (hh : A.handled = none) (hA : A.frames = some (env :: outer)) (hf : env.frame = some L) (hke : env.scope.kind = .function) (hdp : A.depth + dn < recursionLimit) (hu : A.units + un < cLine)
    (B : Below A₀ base outer h₀) (F : Fr h₀ L s.heap m) (X : (hd.heap_1 c.w.params).In h₀) (N : News h₀ L s.heap news) (T : Top c.p c.loose c.mean c.mg c.mb h₀)
    (k : ∀ r news' h' tk', Fr h₀ L h' m → News h₀ L h' news' → post r news' → Q r { s with heap := h', toks := tk' }) :
    wpAny (model PR c.w) A (call (.ref f) args) Q E s := C A env outer A₀ base h₀ L m s Q E hh hA hf hke hdp hu B F X N T k

abbrev Off (d : Addr) (keep : List (Addr × Obj)) : Prop := ∀ q ∈ keep, q.1 ≠ d

theorem News.sub {h₀ h : Heap} {L : Addr} {news news' : List (Addr × Obj)} (N : News h₀ L h news) (hs : ∀ p ∈ news', p ∈ news) : News h₀ L h news' := fun p hp => N p (hs p hp)

abbrev tupOf (its : Array Value) (n : Nat) : Obj := { cls := .type "tuple", data := .seq its n }

inductive All2 {α β : Type} (R : α → β → Prop) : List α → List β → Prop
  | nil : All2 R [] []
  | cons {a : α} {b : β} {as : List α} {bs : List β} : R a b → All2 R as bs → All2 R (a :: as) (b :: bs)

/-- an operand: its letter and its number -/
inductive Op where
  | t (k : Int)
  | a (k : Int)
  | y (k : Int)
  | x (k : Int)
  deriving DecidableEq
noncomputable def Op.tag : Op → PySem.Str
  | .t _ => PySem.Str.ofString "t"
  | .a _ => PySem.Str.ofString "a"
  | .y _ => PySem.Str.ofString "y"
  | .x _ => PySem.Str.ofString "x"
noncomputable def Op.num : Op → Int
  | .t k => k
  | .a k => k
  | .y k => k
  | .x k => k
/-- a part of an instruction -/
inductive Pt where
  | int (n : Int)
  | op (o : Op)
  deriving DecidableEq
/-- the instructions' names -/
inductive Kd where
  | getVar | getVal | getStr | uniVar | putVal | putVar | putList | setLoc | setVar | putCon | putStr | putVoid | call
  deriving DecidableEq
noncomputable def Kd.name : Kd → PySem.Str
  | .getVar => PySem.Str.ofString "get_variable"
  | .getVal => PySem.Str.ofString "get_value"
  | .getStr => PySem.Str.ofString "get_structure"
  | .uniVar => PySem.Str.ofString "unify_variable"
  | .putVal => PySem.Str.ofString "put_value"
  | .putVar => PySem.Str.ofString "put_variable"
  | .putList => PySem.Str.ofString "put_list"
  | .setLoc => PySem.Str.ofString "set_local_value"
  | .setVar => PySem.Str.ofString "set_variable"
  | .putCon => PySem.Str.ofString "put_constant"
  | .putStr => PySem.Str.ofString "put_structure"
  | .putVoid => PySem.Str.ofString "put_void"
  | .call => PySem.Str.ofString "call"
theorem Kd.name_beq (j k : Kd) : (j.name == k.name) = decide (j = k) := by
  cases j <;> cases k <;> decide +kernel
structure Row where
  k : Kd
  ps : List Pt

/-- the ledger bears the operand o at v -/
inductive OpAt (news : List (Addr × Obj)) : Value → Op → Prop where
  | t {a : Addr} {t1 t2 : Tok} {n : Nat} {k : Int} : (a, tupOf #[.str (PySem.Str.ofString "t") t1, .int k t2] n) ∈ news → OpAt news (.ref a) (.t k)
  | a {a : Addr} {t1 t2 : Tok} {n : Nat} {k : Int} : (a, tupOf #[.str (PySem.Str.ofString "a") t1, .int k t2] n) ∈ news → OpAt news (.ref a) (.a k)
  | y {a : Addr} {t1 t2 : Tok} {n : Nat} {k : Int} : (a, tupOf #[.str (PySem.Str.ofString "y") t1, .int k t2] n) ∈ news → OpAt news (.ref a) (.y k)
  | x {a : Addr} {t1 t2 : Tok} {n : Nat} {k : Int} : (a, tupOf #[.str (PySem.Str.ofString "x") t1, .int k t2] n) ∈ news → OpAt news (.ref a) (.x k)
inductive PtAt (news : List (Addr × Obj)) : Value → Pt → Prop where
  | int {n : Int} {t : Tok} : PtAt news (.int n t) (.int n)
  | op {v : Value} {o : Op} : OpAt news v o → PtAt news v (.op o)
inductive RowAt (news : List (Addr × Obj)) : Value → Row → Prop where
  | mk {a : Addr} {t : Tok} {n : Nat} {x : Kd} {vs : List Value} {ps : List Pt} : (a, tupOf (Value.str x.name t :: vs).toArray n) ∈ news → All2 (PtAt news) vs ps → RowAt news (.ref a) ⟨x, ps⟩

theorem All2.mono {α β : Type} {R S : α → β → Prop} (h : ∀ a b, R a b → S a b) : ∀ {l : List α} {r : List β}, All2 R l r → All2 S l r
  | _, _, .nil => .nil
  | _, _, .cons x y => .cons (h _ _ x) (All2.mono h y)
theorem OpAt.mono {news news' : List (Addr × Obj)} (hs : ∀ p ∈ news, p ∈ news') {v : Value} {o : Op} (h : OpAt news v o) : OpAt news' v o := by
  cases h with
  | t h => exact .t (hs _ h)
  | a h => exact .a (hs _ h)
  | y h => exact .y (hs _ h)
  | x h => exact .x (hs _ h)
theorem PtAt.mono {news news' : List (Addr × Obj)} (hs : ∀ p ∈ news, p ∈ news') {v : Value} {o : Pt} (h : PtAt news v o) : PtAt news' v o := by
  cases h with
  | int => exact .int
  | op h => exact .op (h.mono hs)
theorem RowAt.mono {news news' : List (Addr × Obj)} (hs : ∀ p ∈ news, p ∈ news') {v : Value} {o : Row} (h : RowAt news v o) : RowAt news' v o := by
  cases h with
  | mk h r => exact .mk (hs _ h) (r.mono fun _ _ x => x.mono hs)

/-- the ints that a dict of ints bears -/
noncomputable def DI (w : World) (o : Obj) (al : List (Int × Int)) : Prop := ∃ kvs, o.IsDictOf (PySem.intKind PR w) kvs ∧ All2 (fun (kv : Int × Value) (p : Int × Int) => kv.1 = p.1 ∧ ∃ t, kv.2 = .int p.2 t) kvs al
/-- the strs that a dict of strs bears -/
noncomputable def DS (w : World) (o : Obj) (al : List (Int × PySem.Str)) : Prop := ∃ kvs, o.IsDictOf (PySem.intKind PR w) kvs ∧ All2 (fun (kv : Int × Value) (p : Int × PySem.Str) => kv.1 = p.1 ∧ ∃ t, kv.2 = .str p.2 t) kvs al

noncomputable def lk {α : Type} (al : List (Int × α)) (k : Int) : Option α := (al.find? fun kv => decide (kv.1 = k)).map (·.2)
noncomputable def put {α : Type} (al : List (Int × α)) (k : Int) (v : α) : List (Int × α) :=
  if al.any (fun kv => decide (kv.1 = k)) then al.map (fun kv => if kv.1 = k then (kv.1, v) else kv) else al ++ [(k, v)]

section
variable {α : Type} {V : Value → α → Prop}
theorem all2_lk {kvs : List (Int × Value)} {al : List (Int × α)} (h : All2 (fun (kv : Int × Value) (p : Int × α) => kv.1 = p.1 ∧ V kv.2 p.2) kvs al) (k : Int) :
    (valueAt kvs k = none ∧ lk al k = none) ∨ ∃ v a, valueAt kvs k = some v ∧ lk al k = some a ∧ V v a := by
  induction h with
  | nil => exact .inl ⟨rfl, rfl⟩
  | @cons kv p kvs al h1 h2 ih =>
    obtain ⟨e, hv⟩ := h1
    unfold valueAt lk at *
    simp only [List.find?_cons]
    by_cases hk : p.1 = k
    · rw [e]
      simp only [hk, decide_true, Option.map_some]
      exact .inr ⟨_, _, rfl, rfl, hv⟩
    · rw [e]
      simp only [hk, decide_false]
      exact ih
theorem all2_any {kvs : List (Int × Value)} {al : List (Int × α)} (h : All2 (fun (kv : Int × Value) (p : Int × α) => kv.1 = p.1 ∧ V kv.2 p.2) kvs al) (k : Int) :
    kvs.any (fun kv => decide (kv.1 = k)) = al.any (fun kv => decide (kv.1 = k)) := by
  induction h with
  | nil => rfl
  | cons h1 _ ih => rw [List.any_cons, List.any_cons, ih, h1.1]
theorem all2_append {β γ : Type} {R : β → γ → Prop} {as : List β} {bs : List γ} {a : β} {b : γ} (h : All2 R as bs) (x : R a b) : All2 R (as ++ [a]) (bs ++ [b]) := by
  induction h with
  | nil => exact .cons x .nil
  | cons h1 _ ih => exact .cons h1 ih
theorem all2_mapPut {kvs : List (Int × Value)} {al : List (Int × α)} (h : All2 (fun (kv : Int × Value) (p : Int × α) => kv.1 = p.1 ∧ V kv.2 p.2) kvs al) (k : Int) {v : Value} {a : α} (hv : V v a) :
    All2 (fun (kv : Int × Value) (p : Int × α) => kv.1 = p.1 ∧ V kv.2 p.2) (kvs.map fun kv => if kv.1 = k then (kv.1, v) else kv) (al.map fun kv => if kv.1 = k then (kv.1, a) else kv) := by
  induction h with
  | nil => exact .nil
  | @cons kv p kvs al h1 _ ih =>
    refine .cons ?_ ih
    obtain ⟨e, hv'⟩ := h1
    dsimp only
    by_cases hk : p.1 = k
    · rw [if_pos hk, if_pos (e.trans hk)]; exact ⟨e, hv⟩
    · rw [if_neg hk, if_neg fun q => hk (e.symm.trans q)]; exact ⟨e, hv'⟩
theorem all2_put {kvs : List (Int × Value)} {al : List (Int × α)} (h : All2 (fun (kv : Int × Value) (p : Int × α) => kv.1 = p.1 ∧ V kv.2 p.2) kvs al) (k : Int) {v : Value} {a : α} (hv : V v a) :
    All2 (fun (kv : Int × Value) (p : Int × α) => kv.1 = p.1 ∧ V kv.2 p.2) (stored kvs k v) (put al k a) := by
  unfold stored put
  rw [all2_any h k]
  split
  · exact all2_mapPut h k hv
  · exact all2_append h ⟨rfl, hv⟩
theorem all2_length {β γ : Type} {R : β → γ → Prop} {as : List β} {bs : List γ} (h : All2 R as bs) : as.length = bs.length := by
  induction h with
  | nil => rfl
  | cons _ _ ih => simp [ih]
theorem put_length (al : List (Int × α)) (k : Int) (a : α) : (put al k a).length ≤ al.length + 1 := by
  unfold put
  split
  · simp
  · simp
end

section
variable {w : World} {A : Around} {E : Value → Shared → Prop} {s : Shared} {h₀ : Heap} {L d : Addr} {m : PySem.Str → Option Value} {news : List (Addr × Obj)} {g : Obj → List (Addr × Obj)} {o : Obj} {k : Int} {tk : Tok}
theorem di_method {al : List (Int × Int)} {pl : Sem Bool} {Q : Value × List Value → Shared → Prop} (N : News h₀ L s.heap news) (hp : (d, o) ∈ news) (hd : DI w o al) (h : Q (.builtin "dict.get", [.ref d]) s) : wpAny (model PR w) A (getMethod (.ref d) (PySem.Str.ofString "get") pl) Q E s :=
  let ⟨_, hd, _⟩ := hd; kdg_method N hp hd h
theorem ds_method {al : List (Int × PySem.Str)} {pl : Sem Bool} {Q : Value × List Value → Shared → Prop} (N : News h₀ L s.heap news) (hp : (d, o) ∈ news) (hd : DS w o al) (h : Q (.builtin "dict.get", [.ref d]) s) : wpAny (model PR w) A (getMethod (.ref d) (PySem.Str.ofString "get") pl) Q E s :=
  let ⟨_, hd, _⟩ := hd; kdg_method N hp hd h
theorem di_get {al : List (Int × Int)} {n : Int} {tn : Tok} {Q : Value → Shared → Prop} (N : News h₀ L s.heap news) (hp : (d, o) ∈ news) (hd : DI w o al) (lo : (d == sysModules) = false) (h : ∀ t, Q (.int ((lk al k).getD n) t) { s with toks := s.toks + 1 }) :
    wpAny (model PR w) A (call (.builtin "dict.get") [.ref d, .int k tk, .int n tn]) Q E s := by
  obtain ⟨kvs, hd, ha⟩ := hd
  refine kdg_get2 (knd := PySem.intKind _ _) N hp hd lo (intKind_is _ _ _ _) _ rfl ?_
  rcases all2_lk (V := fun v a => ∃ t, v = .int a t) ha k with ⟨e1, e2⟩ | ⟨v, a, e1, e2, t, rfl⟩
  · rw [e1]; have := h tn; rw [e2] at this; exact this
  · rw [e1]; have := h t; rw [e2] at this; exact this
theorem ds_get {al : List (Int × PySem.Str)} {n : PySem.Str} {tn : Tok} {Q : Value → Shared → Prop} (N : News h₀ L s.heap news) (hp : (d, o) ∈ news) (hd : DS w o al) (lo : (d == sysModules) = false) (h : ∀ t, Q (.str ((lk al k).getD n) t) { s with toks := s.toks + 1 }) :
    wpAny (model PR w) A (call (.builtin "dict.get") [.ref d, .int k tk, .str n tn]) Q E s := by
  obtain ⟨kvs, hd, ha⟩ := hd
  refine kdg_get2 (knd := PySem.intKind _ _) N hp hd lo (intKind_is _ _ _ _) _ rfl ?_
  rcases all2_lk (V := fun v a => ∃ t, v = .str a t) ha k with ⟨e1, e2⟩ | ⟨v, a, e1, e2, t, rfl⟩
  · rw [e1]; have := h tn; rw [e2] at this; exact this
  · rw [e1]; have := h t; rw [e2] at this; exact this
theorem di_notin {al : List (Int × Int)} {Q : Value → Shared → Prop} (N : News h₀ L s.heap news) (hp : (d, o) ∈ news) (hd : DI w o al) (lo : (d == sysModules) = false) (h : Q (.bool (!(lk al k).isSome)) { s with toks := s.toks + 1 }) :
    wpAny (model PR w) A (compareOp .NotIn (.int k tk) (.ref d)) Q E s := by
  obtain ⟨kvs, hd, ha⟩ := hd
  refine kdg_notin (knd := PySem.intKind _ _) N hp hd lo (intKind_is _ _ _ _) _ rfl ?_
  rcases all2_lk (V := fun v a => ∃ t, v = .int a t) ha k with ⟨e1, e2⟩ | ⟨v, a, e1, e2, t, rfl⟩
  · rw [e1]; rw [e2] at h; exact h
  · rw [e1]; rw [e2] at h; exact h
theorem di_notin2 {al : List (Int × Int)} {Q : Value → Shared → Prop} (N : News h₀ L s.heap news) (hp : (d, o) ∈ news) (hd : DI w o al) (lo : (d == sysModules) = false)
    (h0 : lk al k = none → Q (.bool true) { s with toks := s.toks + 1 }) (h1 : ∀ v, lk al k = some v → Q (.bool false) { s with toks := s.toks + 1 }) :
    wpAny (model PR w) A (compareOp .NotIn (.int k tk) (.ref d)) Q E s := by
  refine di_notin N hp hd lo ?_
  cases e : lk al k with
  | none => exact h0 e
  | some v => exact h1 v e
theorem di_item {al : List (Int × Int)} {v : Int} {value slice : PySem.Expr} {Q : Value → Shared → Prop} (N : News h₀ L s.heap news) (hp : (d, o) ∈ news) (hd : DI w o al) (hv : lk al k = some v) (h : ∀ t, Q (.int v t) { s with toks := s.toks + 1 })
    (hs : subscripted slice false (.ref d) (.int k tk) = operate [.ref d, .int k tk] (getItem (.ref d) (.int k tk)) := by with_unfolding_all rfl) :
    wpAny (model PR w) A (subscriptTail value slice (.ref d) (.int k tk)) Q E s := by
  obtain ⟨kvs, hd, ha⟩ := hd
  rcases all2_lk (V := fun v a => ∃ t, v = .int a t) ha k with ⟨_, e2⟩ | ⟨u, a, e1, e2, t, rfl⟩
  · rw [e2] at hv; cases hv
  · rw [e2] at hv; cases hv
    exact kdt_tail (knd := PySem.intKind _ _) N hp hd (kdt_getItem (knd := PySem.intKind _ _) N hp hd (intKind_is _ _ _ _) e1 (h t)) hs
theorem ds_item {al : List (Int × PySem.Str)} {v : PySem.Str} {value slice : PySem.Expr} {Q : Value → Shared → Prop} (N : News h₀ L s.heap news) (hp : (d, o) ∈ news) (hd : DS w o al) (hv : lk al k = some v) (h : ∀ t, Q (.str v t) { s with toks := s.toks + 1 })
    (hs : subscripted slice false (.ref d) (.int k tk) = operate [.ref d, .int k tk] (getItem (.ref d) (.int k tk)) := by with_unfolding_all rfl) :
    wpAny (model PR w) A (subscriptTail value slice (.ref d) (.int k tk)) Q E s := by
  obtain ⟨kvs, hd, ha⟩ := hd
  rcases all2_lk (V := fun v a => ∃ t, v = .str a t) ha k with ⟨_, e2⟩ | ⟨u, a, e1, e2, t, rfl⟩
  · rw [e2] at hv; cases hv
  · rw [e2] at hv; cases hv
    exact kdt_tail (knd := PySem.intKind _ _) N hp hd (kdt_getItem (knd := PySem.intKind _ _) N hp hd (intKind_is _ _ _ _) e1 (h t)) hs
theorem di_set {al : List (Int × Int)} {v : Int} {tv : Tok} {Q : Unit → Shared → Prop} (F : Fr h₀ L s.heap m) (N : News h₀ L s.heap news) (U : UpdF d o news g) (hd : DI w o al) (hsz : al.length ≤ 1000)
    (h : ∀ h' o', Fr h₀ L h' m → News h₀ L h' (g o') → DI w o' (put al k v) → Q () { s with heap := h', toks := s.toks + 1 }) : wpAny (model PR w) A (setItem (.ref d) (.int k tk) (.int v tv)) Q E s := by
  obtain ⟨kvs, hd, ha⟩ := hd
  refine kda_set (knd := PySem.intKind _ _) F N U hd (intKind_is _ _ _ _) (by rw [all2_length ha, sizeLine_eq]; omega) fun h' o' F' N' hd' => h h' o' F' N' ⟨_, hd', all2_put (V := fun v a => ∃ t, v = .int a t) ha k ⟨_, rfl⟩⟩
theorem ds_set {al : List (Int × PySem.Str)} {v : PySem.Str} {tv : Tok} {Q : Unit → Shared → Prop} (F : Fr h₀ L s.heap m) (N : News h₀ L s.heap news) (U : UpdF d o news g) (hd : DS w o al) (hsz : al.length ≤ 1000)
    (h : ∀ h' o', Fr h₀ L h' m → News h₀ L h' (g o') → DS w o' (put al k v) → Q () { s with heap := h', toks := s.toks + 1 }) : wpAny (model PR w) A (setItem (.ref d) (.int k tk) (.str v tv)) Q E s := by
  obtain ⟨kvs, hd, ha⟩ := hd
  refine kda_set (knd := PySem.intKind _ _) F N U hd (intKind_is _ _ _ _) (by rw [all2_length ha, sizeLine_eq]; omega) fun h' o' F' N' hd' => h h' o' F' N' ⟨_, hd', all2_put (V := fun v a => ∃ t, v = .str a t) ha k ⟨_, rfl⟩⟩
theorem sub_tup {l : List Value} {n j : Nat} {i : Int} {u : Tok} {x : Value} {prog : Program} {value slice : PySem.Expr} {Q : Value → Shared → Prop} (N : News h₀ L s.heap news) (hp : (d, tupOf l.toArray n) ∈ news)
    (hi : i = (j : Int)) (hj : j < 1000) (hx : l[j]? = some x) (h : Q x s)
    (hs : subscripted slice false (.ref d) (.int i u) = operate [.ref d, .int i u] (getItem (.ref d) (.int i u)) := by with_unfolding_all rfl) :
    wpAny (model prog w) A (subscriptTail value slice (.ref d) (.int i u)) Q E s := by
  subst hi
  refine item_tupleT (News.isTup N hp) (by omega) (by omega) (j := j) ?_ hx h hs
  obtain ⟨hl, _⟩ := List.getElem?_eq_some_iff.mp hx
  unfold seqIndex?
  simp; omega
theorem sub_list {l : List Value} {n j : Nat} {i : Int} {u : Tok} {x : Value} {prog : Program} {value slice : PySem.Expr} {Q : Value → Shared → Prop} (N : News h₀ L s.heap news) (hp : (d, listOf l.toArray n) ∈ news)
    (hi : i = (j : Int)) (hj : j < 1000) (hx : l[j]? = some x) (h : Q x s)
    (hs : subscripted slice false (.ref d) (.int i u) = operate [.ref d, .int i u] (getItem (.ref d) (.int i u)) := by with_unfolding_all rfl) :
    wpAny (model prog w) A (subscriptTail value slice (.ref d) (.int i u)) Q E s := by
  subst hi
  exact item_litK (News.isList N hp) (by omega) (by omega) (by simpa using hx) h hs
end

section
variable {prog : Program} {w : World} {A : Around} {E : Value → Shared → Prop} {s : Shared} {name : PySem.Str} {scope : Scope} {L a : Addr} {cd : Value} {h₀ : Heap} {m : PySem.Str → Option Value} {x y lit lit2 : PySem.Str} {t : Tok} {k k2 : Nat} {p1 p2 p3 p4 p5 p6 pos : Pos} {whole : Sem Value}
theorem it_name {Q : Bool → Shared → Prop} (F : Fr h₀ L s.heap m) (hv : m x = some (.str y t)) (h : Q (y == lit) { s with toks := s.toks + 1 })
    (hk : scope.kind = .function) (hl : (envOf name scope L a cd).kindOf x = some .local) (hd : (x == ("__debug__" : PySem.Str)) = false) :
    wpAny (model prog w) A (isTrue (.Compare (.Name x p1) [.Eq] [.Constant (.str lit) k p2] p3) (envOf name scope L a cd) whole) Q E s :=
  wpAny_isTrue_Compare1 (ld F hv (Calls.Constant_str (eq_str (wpAny_truthy_bool h))) hk hl hd)
variable {hp : Heap} {gg : Array GenState} {dd : Drawn} {tt : Nat} {oo : OsState}
theorem if_ne {body rest : List Stmt} {Q : Flow → Shared → Prop} (F : Fr h₀ L hp m) (hv : m x = some (.str y t)) (hne : (y == lit) = false)
    (h : ∀ tk, wpAny (model prog w) A (execs rest (envOf name scope L a cd)) Q E ⟨hp, gg, dd, tk, oo⟩)
    (hk : scope.kind = .function) (hl : (envOf name scope L a cd).kindOf x = some .local) (hd : (x == ("__debug__" : PySem.Str)) = false) :
    wpAny (model prog w) A (execs (.If (.Compare (.Name x p1) [.Eq] [.Constant (.str lit) k p2] p3) body [] pos :: rest) (envOf name scope L a cd)) Q E ⟨hp, gg, dd, tt, oo⟩ := by
  refine wpAny_execs_cons (wpAny_If (it_name (s := ⟨hp, gg, dd, tt, oo⟩) F hv ?_ hk hl hd))
  rw [hne, if_neg Bool.false_ne_true]
  exact wpAny_execs_nil (h _)
theorem if_eq {body rest : List Stmt} {Q : Flow → Shared → Prop} (F : Fr h₀ L hp m) (hv : m x = some (.str y t)) (hne : (y == lit) = true)
    (h : ∀ tk, wpAny (model prog w) A (execs body (envOf name scope L a cd)) (fun f s' => match f with | .next => wpAny (model prog w) A (execs rest (envOf name scope L a cd)) Q E s' | f => Q f s') E ⟨hp, gg, dd, tk, oo⟩)
    (hk : scope.kind = .function) (hl : (envOf name scope L a cd).kindOf x = some .local) (hd : (x == ("__debug__" : PySem.Str)) = false) :
    wpAny (model prog w) A (execs (.If (.Compare (.Name x p1) [.Eq] [.Constant (.str lit) k p2] p3) body [] pos :: rest) (envOf name scope L a cd)) Q E ⟨hp, gg, dd, tt, oo⟩ := by
  refine wpAny_execs_cons (wpAny_If (it_name (s := ⟨hp, gg, dd, tt, oo⟩) F hv ?_ hk hl hd))
  rw [hne, if_pos rfl]
  exact h _
theorem it_or {Q : Bool → Shared → Prop} (F : Fr h₀ L hp m) (hv : m x = some (.str y t)) (b : Bool) (hb : ((y == lit) || (y == lit2)) = b) (h : ∀ tk, Q b ⟨hp, gg, dd, tk, oo⟩)
    (hk : scope.kind = .function) (hl : (envOf name scope L a cd).kindOf x = some .local) (hd : (x == ("__debug__" : PySem.Str)) = false) :
    wpAny (model prog w) A (isTrue (.BoolOp .Or [.Compare (.Name x p1) [.Eq] [.Constant (.str lit) k p2] p3, .Compare (.Name x p4) [.Eq] [.Constant (.str lit2) k2 p5] p6] pos) (envOf name scope L a cd) whole) Q E ⟨hp, gg, dd, tt, oo⟩ := by
  subst hb
  refine isTrue_or (it_name (s := ⟨hp, gg, dd, tt, oo⟩) F hv ?_ hk hl hd)
  cases h1 : (y == lit) with
  | true => rw [if_pos rfl]; rw [h1] at h; exact h _
  | false =>
    rw [if_neg Bool.false_ne_true]
    refine isTrue_or (it_name (s := ⟨hp, gg, dd, tt + 1, oo⟩) F hv ?_ hk hl hd)
    rw [h1, Bool.false_or] at h
    cases h2 : (y == lit2) with
    | true => rw [if_pos rfl]; rw [h2] at h; exact h _
    | false => rw [if_neg Bool.false_ne_true]; rw [h2] at h; exact isTrue_or_nil (h _)
theorem ifo_ne {body rest : List Stmt} {pi : Pos} {Q : Flow → Shared → Prop} (F : Fr h₀ L hp m) (hv : m x = some (.str y t)) (hne : ((y == lit) || (y == lit2)) = false)
    (h : ∀ tk, wpAny (model prog w) A (execs rest (envOf name scope L a cd)) Q E ⟨hp, gg, dd, tk, oo⟩)
    (hk : scope.kind = .function) (hl : (envOf name scope L a cd).kindOf x = some .local) (hd : (x == ("__debug__" : PySem.Str)) = false) :
    wpAny (model prog w) A (execs (.If (.BoolOp .Or [.Compare (.Name x p1) [.Eq] [.Constant (.str lit) k p2] p3, .Compare (.Name x p4) [.Eq] [.Constant (.str lit2) k2 p5] p6] pos) body [] pi :: rest) (envOf name scope L a cd)) Q E ⟨hp, gg, dd, tt, oo⟩ := by
  refine wpAny_execs_cons (wpAny_If (it_or F hv false hne (fun tk => ?_) hk hl hd))
  rw [if_neg Bool.false_ne_true]
  exact wpAny_execs_nil (h tk)
theorem ifo_eq {body rest : List Stmt} {pi : Pos} {Q : Flow → Shared → Prop} (F : Fr h₀ L hp m) (hv : m x = some (.str y t)) (hne : ((y == lit) || (y == lit2)) = true)
    (h : ∀ tk, wpAny (model prog w) A (execs body (envOf name scope L a cd)) (fun f s' => match f with | .next => wpAny (model prog w) A (execs rest (envOf name scope L a cd)) Q E s' | f => Q f s') E ⟨hp, gg, dd, tk, oo⟩)
    (hk : scope.kind = .function) (hl : (envOf name scope L a cd).kindOf x = some .local) (hd : (x == ("__debug__" : PySem.Str)) = false) :
    wpAny (model prog w) A (execs (.If (.BoolOp .Or [.Compare (.Name x p1) [.Eq] [.Constant (.str lit) k p2] p3, .Compare (.Name x p4) [.Eq] [.Constant (.str lit2) k2 p5] p6] pos) body [] pi :: rest) (envOf name scope L a cd)) Q E ⟨hp, gg, dd, tt, oo⟩ := by
  refine wpAny_execs_cons (wpAny_If (it_or F hv true hne (fun tk => ?_) hk hl hd))
  rw [if_pos rfl]
  exact h tk
end
theorem ite_t {P Q : Prop} (h : P) : if true = true then P else Q := by rw [if_pos rfl]; exact h
theorem ite_bt {b : Bool} {P Q : Prop} (hb : b = true) (h : P) : if b = true then P else Q := by rw [if_pos hb]; exact h
theorem ite_bf {b : Bool} {P Q : Prop} (hb : b = false) (h : Q) : if b = true then P else Q := by rw [hb, if_neg Bool.false_ne_true]; exact h
theorem ite_f {P Q : Prop} (h : Q) : if false = true then P else Q := by rw [if_neg Bool.false_ne_true]; exact h

noncomputable def pdOf : Pt → PyData
  | .int n => .int n
  | .op o => .tuple [.str o.tag, .int o.num]
theorem pdOf_shaped (p : Pt) : SeqAt.shaped (pdOf p) = true := by
  cases p with
  | int n => rfl
  | op o => have h : PyData.strOk o.tag = true := by cases o <;> (dsimp only [Op.tag]; decide +kernel)
            simp [h, pdOf, SeqAt.shaped, PyData.canLay0, PyData.canLayAll0, PyData.depth, PyData.depthAll]
theorem pdOf_lay (p : Pt) : (pdOf p).canLay0 = true ∧ (pdOf p).depth ≤ 1 := by
  cases p with
  | int n => exact ⟨rfl, Nat.zero_le _⟩
  | op o => have h : PyData.strOk o.tag = true := by cases o <;> (dsimp only [Op.tag]; decide +kernel)
            simp [h, pdOf, PyData.canLay0, PyData.canLayAll0, PyData.depth, PyData.depthAll]
theorem OpAt.reads {h₀ h : Heap} {L : Addr} {news : List (Addr × Obj)} (N : News h₀ L h news) {v : Value} {o : Op} (x : OpAt news v o) : Reads h v (pdOf (.op o)) [] := by
  cases x with
  | t m => exact reads_tuple_at (N.get m) rfl rfl (.cons (.str _ _) (.cons (.int _ _) .nil))
  | a m => exact reads_tuple_at (N.get m) rfl rfl (.cons (.str _ _) (.cons (.int _ _) .nil))
  | y m => exact reads_tuple_at (N.get m) rfl rfl (.cons (.str _ _) (.cons (.int _ _) .nil))
  | x m => exact reads_tuple_at (N.get m) rfl rfl (.cons (.str _ _) (.cons (.int _ _) .nil))
theorem PtAt.reads {h₀ h : Heap} {L : Addr} {news : List (Addr × Obj)} (N : News h₀ L h news) {v : Value} {p : Pt} (x : PtAt news v p) : Reads h v (pdOf p) [] := by
  cases x with
  | int => exact .int _ _
  | op x => exact x.reads N
theorem pdOf_eqv (p q : Pt) : PyData.eqv (pdOf p) (pdOf q) = decide (p = q) := by
  cases p with
  | int a => cases q with
    | int b => simp only [pdOf, PyData.eqv, Pt.int.injEq]; rfl
    | op o => simp [pdOf, PyData.eqv]
  | op o => cases q with
    | int b => simp [pdOf, PyData.eqv]
    | op r =>
      cases o <;> cases r <;> simp only [pdOf, PyData.eqv, PyData.eqvAll, Op.tag, Op.num, Pt.op.injEq, Op.t.injEq, Op.a.injEq, Op.y.injEq, Op.x.injEq, Bool.and_true, beq_self_eq_true, Bool.true_and, reduceCtorEq, decide_false]
      all_goals first | rfl | (rw [Bool.and_eq_false_iff]; left; decide)
section
variable {prog : Program} {w : World} {A : Around} {E : Value → Shared → Prop} {s : Shared} {h₀ : Heap} {L : Addr} {news : List (Addr × Obj)} {u v : Value} {p q : Pt} {o r : Op} {Q : Value → Shared → Prop}
theorem pt_eq (N : News h₀ L s.heap news) (hp : PtAt news u p) (hq : PtAt news v q) (hu : A.units + 64 < cLine) (h : Q (.bool (decide (p = q))) s) : wpAny (model prog w) A (compareOp .Eq u v) Q E s :=
  eq_dataH (hp.reads N) (hq.reads N) (pdOf_shaped p) (pdOf_shaped q) hu (by rw [pdOf_eqv]; exact h)
theorem pt_ne (N : News h₀ L s.heap news) (hp : PtAt news u p) (hq : PtAt news v q) (hu : A.units + 64 < cLine) (h : Q (.bool (!decide (p = q))) s) : wpAny (model prog w) A (compareOp .NotEq u v) Q E s :=
  ne_dataH (hp.reads N) (hq.reads N) (pdOf_shaped p) (pdOf_shaped q) hu (by rw [pdOf_eqv]; exact h)
theorem op_eq (N : News h₀ L s.heap news) (hp : OpAt news u o) (hq : OpAt news v r) (hu : A.units + 64 < cLine) (h : Q (.bool (decide (o = r))) s) : wpAny (model prog w) A (compareOp .Eq u v) Q E s :=
  pt_eq N (.op hp) (.op hq) hu (by simpa only [Pt.op.injEq] using h)
theorem op_ne (N : News h₀ L s.heap news) (hp : OpAt news u o) (hq : OpAt news v r) (hu : A.units + 64 < cLine) (h : Q (.bool (!decide (o = r))) s) : wpAny (model prog w) A (compareOp .NotEq u v) Q E s :=
  pt_ne N (.op hp) (.op hq) hu (by simpa only [Pt.op.injEq] using h)
end

noncomputable def FreshOver (tl news : List (Addr × Obj)) : Prop := ∀ q ∈ tl, ∀ p ∈ news, p.1 < q.1
theorem FreshOver.nil {news : List (Addr × Obj)} : FreshOver [] news := fun _ h => nomatch h
theorem FreshOver.cons {q : Addr × Obj} {tl news : List (Addr × Obj)} (h : ∀ p ∈ news, p.1 < q.1) (k : FreshOver tl news) : FreshOver (q :: tl) news := by
  intro x hx p hp
  rcases List.mem_cons.mp hx with rfl | hx
  · exact h p hp
  · exact k x hx p hp
inductive PairAt (news : List (Addr × Obj)) : Value → Int × Value → Prop where
  | mk {p : Addr} {r : Int} {t : Tok} {v : Value} {n : Nat} : (p, tupOf #[.int r t, v] n) ∈ news → PairAt news (.ref p) (r, v)
theorem PairAt.mono {news news' : List (Addr × Obj)} (hs : ∀ p ∈ news, p ∈ news') {v : Value} {o : Int × Value} (h : PairAt news v o) : PairAt news' v o := by
  cases h with
  | mk h => exact .mk (hs _ h)
noncomputable def Kd.ar : Kd → Nat
  | .uniVar | .putList | .setLoc | .setVar | .putVoid => 1
  | _ => 2
/-- the operands' roles: 1 reads, 2 writes, 3 both; and the part -/
noncomputable def Kd.roles : Kd → List (Int × Nat)
  | .getVar => [(1, 1), (2, 0)]
  | .getVal => [(1, 0), (1, 1)]
  | .getStr => [(1, 1)]
  | .uniVar => [(2, 0)]
  | .putVal => [(1, 0), (2, 1)]
  | .putVar => [(2, 0), (2, 1)]
  | .putList => [(2, 0)]
  | .setLoc => [(3, 0)]
  | .setVar => [(2, 0)]
  | .putCon => [(2, 1)]
  | .putStr => [(2, 1)]
  | .putVoid => [(2, 0)]
  | .call => []

theorem len1 {α : Type} {l : List α} (h : l.length = 1) : ∃ a, l = [a] := by
  rcases l with _ | ⟨a, _ | ⟨b, l⟩⟩
  · cases h
  · exact ⟨a, rfl⟩
  · simp at h
theorem len2 {α : Type} {l : List α} (h : l.length = 2) : ∃ a b, l = [a, b] := by
  rcases l with _ | ⟨a, _ | ⟨b, _ | ⟨c, l⟩⟩⟩
  · cases h
  · simp at h
  · exact ⟨a, b, rfl⟩
  · simp at h
theorem All2.two {α β : Type} {R : α → β → Prop} {as : List α} {p q : β} (h : All2 R as [p, q]) : ∃ a b, as = [a, b] ∧ R a p ∧ R b q := by
  cases h with
  | cons x h => cases h with
    | cons y h => cases h; exact ⟨_, _, rfl, x, y⟩
theorem All2.one {α β : Type} {R : α → β → Prop} {as : List α} {p : β} (h : All2 R as [p]) : ∃ a, as = [a] ∧ R a p := by
  cases h with
  | cons x h => cases h; exact ⟨_, rfl, x⟩
theorem PtAt.toOp {news : List (Addr × Obj)} {v : Value} {o : Op} (h : PtAt news v (.op o)) : OpAt news v o := by
  cases h; assumption
theorem PtAt.toInt {news : List (Addr × Obj)} {v : Value} {n : Int} (h : PtAt news v (.int n)) : ∃ t, v = .int n t := by
  cases h; exact ⟨_, rfl⟩
end
section
section
variable {w : World} {A : Around} {E : Value → Shared → Prop} {s : Shared} {h₀ : Heap} {L a : Addr} {m : PySem.Str → Option Value} {news : List (Addr × Obj)} {its : Array Value} {n : Nat} {i : Int} {u : Tok} {Q : Value → Shared → Prop}
set_option maxRecDepth 100000 in
set_option maxHeartbeats 0 in
theorem isi_tup (F : Fr h₀ L s.heap m) (X : (hd.heap_1 w.params).In h₀) (N : News h₀ L s.heap news) (hm : (a, tupOf its n) ∈ news) (h : ∀ tk, Q (.bool true) { s with toks := tk }) :
    wpAny (model PR w) A (call (.builtin "isinstance") [.ref a, .type "tuple"]) Q E s := by
  unfold PR
  k_fill
  exact kia_one (K := hd.heap_1 w.params) kitx_tuple (X.keeps F.keep) ⟨_, (N _ hm).1, rfl⟩ (by unfold kitOne; rw [if_pos (by decide)]) (by intro q; cases q) h
set_option maxRecDepth 100000 in
set_option maxHeartbeats 0 in
theorem isi_int (F : Fr h₀ L s.heap m) (X : (hd.heap_1 w.params).In h₀) (N : News h₀ L s.heap news) (h : ∀ tk, Q (.bool false) { s with toks := tk }) :
    wpAny (model PR w) A (call (.builtin "isinstance") [.int i u, .type "tuple"]) Q E s := by
  unfold PR
  k_fill
  walk1
  exact h _
end

theorem ldq {M : Model} {A : Around} {E : Value → Shared → Prop} {s : Shared} {name : PySem.Str} {scope : Scope} {L a : Addr} {cd : Value} {h₀ : Heap} {m : PySem.Str → Option Value} {x : PySem.Str} {pos : Pos} {v : Value} {Q : Value → Shared → Prop}
    (F : Fr h₀ L s.heap m) (hv : m x = some v) (hk : scope.kind = .function) (hl : scope.names.lookup x = some .local) (hd : (x == ("__debug__" : PySem.Str)) = false) (h : Q v s) :
    wpAny M A (eval (.Name x pos) (envOf name scope L a cd)) Q E s := ld F hv h hk hl hd
theorem frames_deeper {A : Around} {e : Env} {l : List Env} (h : A.frames = some l) : (A.deeper e).frames = some (e :: l) := congrArg (Option.map (e :: ·)) h

theorem upd_app {d : Addr} {o o' : Obj} {tl l l' : List (Addr × Obj)} (h : ∀ p ∈ tl, p.1 ≠ d) (u : Upd d o o' l l') : Upd d o o' (tl ++ l) (tl ++ l') := by
  induction tl with
  | nil => exact u
  | cons q tl ih => exact .tail (h q (.head _)) (ih fun p hp => h p (.tail _ hp))
theorem ne_of_lt_all {d : Addr} {l : List (Addr × Obj)} (h : ∀ p ∈ l, p.1 < d) : ∀ p ∈ l, p.1 ≠ d := fun p hp => Nat.ne_of_lt (h p hp)
theorem ne_of_fresh {d : Addr} {o : Obj} {tl l : List (Addr × Obj)} (h : FreshOver tl l) (m : (d, o) ∈ l) : ∀ p ∈ tl, p.1 ≠ d := fun p hp e => Nat.lt_irrefl _ (e ▸ h p hp _ m)
theorem in_ops {prog : Program} {w : World} {A : Around} {E : Value → Shared → Prop} {s : Shared} {h₀ : Heap} {L l : Addr} {news : List (Addr × Obj)} {v : Value} {o : Op} {vs : List Value} {os : List Op} {n : Nat} {Q : Value → Shared → Prop}
    (N : News h₀ L s.heap news) (hl : (l, listOf vs.toArray n) ∈ news) (hv : All2 (OpAt news) vs os) (ho : OpAt news v o) (hu : A.units + 64 < cLine) (h : Q (.bool (decide (o ∈ os))) s) :
    wpAny (model prog w) A (compareOp .In v (.ref l)) Q E s := by
  have rr : ∀ {vs : List Value} {os : List Op}, All2 (OpAt news) vs os → ReadsAll s.heap vs (os.map fun o => pdOf (.op o)) [] := by
    intro vs os h
    induction h with
    | nil => exact .nil
    | cons x _ ih => exact .cons (x.reads N) ih
  have lay : ∀ os : List Op, PyData.canLayAll0 (os.map fun o => pdOf (.op o)) = true ∧ PyData.depthAll (os.map fun o => pdOf (.op o)) ≤ 1 := by
    intro os
    induction os with
    | nil => exact ⟨rfl, Nat.zero_le _⟩
    | cons o os ih =>
      have a := pdOf_lay (.op o)
      simp only [List.map_cons, PyData.canLayAll0, PyData.depthAll, Bool.and_eq_true]
      exact ⟨⟨a.1, ih.1⟩, Nat.max_le.mpr ⟨a.2, ih.2⟩⟩
  have e : ((os.map fun o => pdOf (.op o)).any fun y => PyData.eqv y (pdOf (.op o))) = decide (o ∈ os) := by
    clear hv h rr hl
    induction os with
    | nil => simp
    | cons p os ih =>
      rw [List.map_cons, List.any_cons, ih, pdOf_eqv]
      by_cases h1 : p = o
      · subst h1; simp
      · have h2 : ¬ o = p := fun q => h1 q.symm
        simp [h1, h2]
  refine SeqAt.in_list_reads (reads_list_at (N.get hl) rfl rfl (by simpa using rr hv)) (ho.reads N) (lay os).1 (pdOf_lay _).1 ?_ (by rw [e]; exact h)
  have a := Nat.min_le_right (PyData.depthAll (os.map fun o => pdOf (.op o))) (pdOf (.op o)).depth
  have b := (pdOf_lay (.op o)).2
  omega

theorem app_l {prog : Program} {w : World} {A : Around} {E : Value → Shared → Prop} {s : Shared} {h₀ : Heap} {L D : Addr} {m : PySem.Str → Option Value} {news news' : List (Addr × Obj)} {vs : List Value} {n : Nat} {x : Value} {Q : Value → Shared → Prop} (F : Fr h₀ L s.heap m) (N : News h₀ L s.heap news) (U : Upd D (listOf vs.toArray n) (listOf (vs ++ [x]).toArray (n + 1)) news news')
    (hz : vs.length ≤ 100000) (h : ∀ h', Fr h₀ L h' m → News h₀ L h' news' → Q .none { s with heap := h' }) : wpAny (model prog w) A (call (.builtin "list.append") [.ref D, x]) Q E s :=
  append_K (its := vs.toArray) (n := n) F N (by simpa using U) h (by rw [sizeLine_eq]; simp; omega)
theorem in_ops0 {prog : Program} {w : World} {A : Around} {E : Value → Shared → Prop} {s : Shared} {h₀ : Heap} {L l : Addr} {news : List (Addr × Obj)} {v : Value} {o : Op} {n : Nat} {Q : Value → Shared → Prop}
    (N : News h₀ L s.heap news) (hl : (l, listOf ([] : List Value).toArray n) ∈ news) (ho : OpAt news v o) (hu : A.units + 64 < cLine) (h : Q (.bool false) s) :
    wpAny (model prog w) A (compareOp .In v (.ref l)) Q E s := in_ops N hl .nil ho hu (by simpa using h)
theorem in_ops1 {prog : Program} {w : World} {A : Around} {E : Value → Shared → Prop} {s : Shared} {h₀ : Heap} {L l : Addr} {news : List (Addr × Obj)} {v v' : Value} {o o' : Op} {n : Nat} {Q : Value → Shared → Prop}
    (N : News h₀ L s.heap news) (hl : (l, listOf [v'].toArray n) ∈ news) (hv : OpAt news v' o') (ho : OpAt news v o) (hu : A.units + 64 < cLine) (h : Q (.bool (decide (o = o'))) s) :
    wpAny (model prog w) A (compareOp .In v (.ref l)) Q E s := in_ops N hl (.cons hv .nil) ho hu (by simpa using h)
theorem sub_refl {l : List (Addr × Obj)} : ∀ p ∈ l, p ∈ l := fun _ h => h
theorem sub_cons {x : Addr × Obj} {l l' : List (Addr × Obj)} (h : ∀ p ∈ l, p ∈ l') : ∀ p ∈ l, p ∈ x :: l' := fun p hp => .tail _ (h p hp)
theorem sub_app {tl l l' : List (Addr × Obj)} (h : ∀ p ∈ l, p ∈ l') : ∀ p ∈ l, p ∈ tl ++ l' := fun p hp => List.mem_append_right _ (h p hp)
theorem All2.zero {α β : Type} {R : α → β → Prop} {as : List α} (h : All2 R as []) : as = [] := by cases h; rfl
theorem PairAt.inv {news : List (Addr × Obj)} {v x : Value} {r : Int} (h : PairAt news v (r, x)) : ∃ p t n, v = .ref p ∧ (p, tupOf #[.int r t, x] n) ∈ news := by
  cases h with
  | mk h => exact ⟨_, _, _, rfl, h⟩

theorem len_l {prog : Program} {w : World} {A : Around} {E : Value → Shared → Prop} {s : Shared} {h₀ : Heap} {L l : Addr} {news : List (Addr × Obj)} {vs : List Value} {n : Nat} {Q : Value → Shared → Prop}
    (N : News h₀ L s.heap news) (hm : (l, listOf vs.toArray n) ∈ news) (hz : vs.length ≤ 1000000) (h : ∀ t tk, Q (.int (vs.length : Int) t) { s with toks := tk }) : wpAny (model prog w) A (call (.builtin "len") [.ref l]) Q E s :=
  len_list (News.isList N hm) (by simp; omega) (by simpa using h _ _)

theorem ldnq {M : Model} {A : Around} {E : Value → Shared → Prop} {s : Shared} {name : PySem.Str} {scope : Scope} {L a : Addr} {cd : Value} {h₀ : Heap} {m : PySem.Str → Option Value} {x : PySem.Str} {v : Value} {Q : Value → Shared → Prop}
    (F : Fr h₀ L s.heap m) (hv : m x = some v) (hk : scope.kind = .function) (hl : scope.names.lookup x = some .local) (h : Q v s) :
    wpAny M A (loadName (envOf name scope L a cd) x) Q E s := ldn F hv h hk hl
end
section
theorem all2_get {β γ : Type} {R : β → γ → Prop} {as : List β} {bs : List γ} (h : All2 R as bs) : ∀ {i : Nat} {a : β}, as[i]? = some a → ∃ b, bs[i]? = some b ∧ R a b := by
  induction h with
  | nil => intro i a e; simp at e
  | cons x _ ih =>
    intro i a e
    cases i with
    | zero => simp at e; subst e; exact ⟨_, rfl, x⟩
    | succ i => simp at e; simpa using ih e
noncomputable def TurnEnd (h₀ : Heap) (L : Addr) (J : (PySem.Str → Option Value) → List (Addr × Obj) → Prop) (own : List (Addr × Obj)) (s₁ s₂ : Shared) : Prop := InvEndG h₀ L J own s₁ s₂
noncomputable def TurnPost (h₀ : Heap) (L : Addr) (J : (PySem.Str → Option Value) → List (Addr × Obj) → Prop) (own : List (Addr × Obj)) (s₁ : Shared) (Q : Flow → Shared → Prop) (f : Flow) (s₂ : Shared) : Prop :=
  match f with
  | .ret v => Q (.ret v) s₂
  | .brk => Q .next s₂
  | _ => TurnEnd h₀ L J own s₁ s₂
section
variable {h₀ : Heap} {L : Addr} {J : (PySem.Str → Option Value) → List (Addr × Obj) → Prop} {own : List (Addr × Obj)} {s₁ s₂ : Shared} {Q : Flow → Shared → Prop}
theorem TurnPost.inv {f : Flow} (h : TurnPost h₀ L J own s₁ Q f s₂) : InvPostG h₀ L J own s₁ Q f s₂ := by cases f <;> exact h
theorem TurnPost.retI {v : Value} (h : Q (.ret v) s₂) : TurnPost h₀ L J own s₁ Q (.ret v) s₂ := h
theorem TurnPost.nextI (h : TurnEnd h₀ L J own s₁ s₂) : TurnPost h₀ L J own s₁ Q .next s₂ := h
theorem TurnEnd.intro {m' : PySem.Str → Option Value} {news' nx : List (Addr × Obj)} {h' : Heap} {tk : Nat} (F : Fr h₀ L h' m') (N : News h₀ L h' news')
    (hn : ∀ p ∈ nx, p ∈ news') (ho : ∀ p ∈ own, p ∈ news') (ha : OwnOff own (nx.map (·.1))) (hj : J m' nx) : TurnEnd h₀ L J own s₁ { s₁ with heap := h', toks := tk } := ⟨h', tk, m', news', nx, rfl, F, N, hn, ho, ha, hj⟩
end
section
variable {w : World} {A : Around} {E : Value → Shared → Prop} {s : Shared} {env : Env} {h₀ : Heap} {x : PySem.Str} {body : List Stmt} {Q : Flow → Shared → Prop}
theorem dk_iter {d : Addr} {o : Obj} {al : List (Int × Int)} {m₀ : PySem.Str → Option Value} {news : List (Addr × Obj)} (J : Nat → (PySem.Str → Option Value) → List (Addr × Obj) → Prop)
    (hh : A.handled = none) (hl : (d, o) ∈ news) (hD : DI w o al) (lo : (d == sysModules) = false) (F : Fr h₀ env.locals s.heap m₀) (N : News h₀ env.locals s.heap news) (hj : J 0 m₀ news)
    (turn : ∀ i k v t m₁ news₁ h tk own, al[i]? = some (k, v) → OwnOff own (news₁.map (·.1)) → (d, o) ∈ news₁ → J i m₁ news₁ → Fr h₀ env.locals h (fun y => if y = x then some (.int k t) else m₁ y) → News h₀ env.locals h (news₁ ++ own) →
      wpAny (model PR w) A (execs body env) (TurnPost h₀ env.locals (fun m' nx => (d, o) ∈ nx ∧ J (i + 1) m' nx) own { s with heap := h, toks := tk } Q) E { s with heap := h, toks := tk })
    (done : ∀ m₁ news₁ h tk, J al.length m₁ news₁ → Fr h₀ env.locals h m₁ → News h₀ env.locals h news₁ → Q .next { s with heap := h, toks := tk }) :
    wpAny (model PR w) A (pyIter (.ref d)) (fun it s₂ => LoopAtV PR w A h₀ env x body Q E it s₂) E s := by
  have hol : s.heap.get? d = some o := (N _ hl).1
  obtain ⟨kvs, hD, ha⟩ := hD
  obtain ⟨es, ep, c1, c2, c3, c4, c5⟩ := id hD
  have hA : s.heap.DictAt (PySem.intKind PR w) d kvs ep := ⟨o, es, hol, c1, c2, c3, c4, c5⟩
  have hne : d ≠ s.heap.objs.size := Nat.ne_of_lt (Heap.lt_size hol)
  refine wpAny_pyIter_dict lo hA ?_
  have W := Walks.dictKeys (prog := PR) (w := w) (knd := PySem.intKind PR w) hh s.heap.objs.size d hne kvs ep
  have hlen : kvs.length = al.length := all2_length ha
  refine ⟨_, _, _, kvs.length, _, _, m₀, news, (fun i m nx => (d, o) ∈ nx ∧ J i m nx), rfl, W, ?_, ?_, ?_, ⟨⟨_, Heap.get?_push_size _ rfl, rfl, rfl⟩, hA.keep fun b o e => Heap.get?_push_of_some _ e⟩, F.push _, (fun p hp => ⟨Heap.get?_push_of_some _ (N p hp).1, (N p hp).2⟩), ⟨hl, hj⟩, ?_, ?_⟩
  · intro hm
    rcases List.mem_cons.mp hm with e | hm
    · exact absurd F.ns.lt (e ▸ Nat.lt_irrefl _)
    · exact (N _ hl).2.1 ((List.mem_singleton.mp hm).symm)
  · intro b hb
    rw [List.mem_singleton.mp hb]
    exact next_is_new F
  · intro p hp hI
    exact absurd (Heap.lt_size (N p hp).1) ((List.mem_singleton.mp hI) ▸ Nat.lt_irrefl _)
  · rintro i v m₁ news₁ s₁ own ⟨hh', tk', rfl⟩ hin hP hlJ hoff hown hget hfp hst F₁ N₁
    (show (let gG : Prop := _; gG)); intro gG; obtain ⟨hl₁, hJ⟩ := hlJ
    obtain ⟨k, xv, hkx, hkey⟩ := hP
    obtain ⟨⟨k', a⟩, hka, hke, -⟩ := all2_get ha hkx
    dsimp only at hke
    subst hke
    obtain ⟨t, rfl⟩ := Value.isInt_shape hkey
    have hI0 : h₀.get? s.heap.objs.size = none := next_is_new F
    obtain ⟨⟨oI, hoI, _⟩, _⟩ := id hst
    have hIown : (s.heap.objs.size, oI) ∈ own.filter fun p => decide (p.1 = s.heap.objs.size) := List.mem_filter.mpr ⟨hfp _ (List.mem_cons.mpr (.inl rfl)) hI0 _ hoI, by simp⟩
    have hsep : OwnOff (own.filter fun p => decide (p.1 = s.heap.objs.size)) (news₁.map (·.1)) := by
      intro p hp b hb e
      obtain ⟨q, hq, rfl⟩ := List.mem_map.mp hb
      have h1 : p.1 = s.heap.objs.size := by simpa using (List.mem_filter.mp hp).2
      exact hoff q hq (List.mem_singleton.mpr (e ▸ h1))
    have N₂ : News h₀ env.locals hh' (news₁ ++ own.filter fun p => decide (p.1 = s.heap.objs.size)) := fun p hp => N₁ p ((List.mem_append.mp hp).elim (fun h => List.mem_append.mpr (.inr h)) fun h => List.mem_append.mpr (.inl ((List.mem_filter.mp h).1)))
    have hlo : hh'.get? d = some o := (N₁ _ (List.mem_append.mpr (.inr hl₁))).1
    (try k_unmd); k_unfold; clear gG
    refine wpAny_mono (turn i k a t m₁ news₁ hh' tk' _ hka hsep hl₁ hJ F₁ N₂) (fun f s₂ p => ?_) fun _ _ e => e
    replace p := p.inv
    have fin : InvEndG h₀ env.locals (fun m' nx => (d, o) ∈ nx ∧ J (i + 1) m' nx) (own.filter fun p => decide (p.1 = s.heap.objs.size)) { s with heap := hh', toks := tk' } s₂ →
        LoopStepU h₀ env.locals [s.heap.objs.size] own (fun m nx => (d, o) ∈ nx ∧ J (i + 1) m nx) { s with heap := hh', toks := tk' } .next s₂ := by
      rintro ⟨h', tk, m', news', nx, e, F', N', hn, ho, ha, hm⟩
      refine ⟨rfl, h', tk, m', nx, e, F', fun p hp => ?_, fun p hp hq => ?_, hm⟩
      · rcases List.mem_append.mp hp with h | h
        · by_cases hI : p.1 = s.heap.objs.size
          · exact N' p (ho p (List.mem_filter.mpr ⟨h, by simpa using hI⟩))
          · have h1 : p.1 = d := by
              rcases List.mem_cons.mp (hown p h) with h2 | h2
              · exact absurd h2 hI
              · exact List.mem_singleton.mp h2
            have h2 : hh'.get? p.1 = some p.2 := hget p h
            rw [h1, hlo] at h2
            have h3 : p = (d, o) := Prod.ext h1 (Option.some.inj h2).symm
            rw [h3]
            exact N' _ (hn _ hm.1)
        · exact N' p (hn p h)
      · exact ha _ hIown p.1 (List.mem_map.mpr ⟨p, hp, rfl⟩) (List.mem_singleton.mp hq).symm
    cases f with
    | ret v => exact .ret p
    | brk => exact .brk p
    | next => exact .next (fin p)
    | cont => exact .cont (fin p)
  · rintro h' tk m' news' F' N' _ ⟨_, hJ⟩
    rw [hlen] at hJ
    exact done m' news' h' tk hJ F' N'
theorem li_iter {l : Addr} {vs : List Value} {nn : Nat} {m₀ : PySem.Str → Option Value} {news : List (Addr × Obj)} (J : Nat → (PySem.Str → Option Value) → List (Addr × Obj) → Prop)
    (hh : A.handled = none) (hl : (l, listOf vs.toArray nn) ∈ news) (F : Fr h₀ env.locals s.heap m₀) (N : News h₀ env.locals s.heap news) (hj : J 0 m₀ news)
    (turn : ∀ i v m₁ news₁ h tk own, vs[i]? = some v → OwnOff own (news₁.map (·.1)) → (l, listOf vs.toArray nn) ∈ news₁ → J i m₁ news₁ → Fr h₀ env.locals h (fun y => if y = x then some v else m₁ y) → News h₀ env.locals h (news₁ ++ own) →
      wpAny (model PR w) A (execs body env) (TurnPost h₀ env.locals (fun m' nx => (l, listOf vs.toArray nn) ∈ nx ∧ J (i + 1) m' nx) own { s with heap := h, toks := tk } Q) E { s with heap := h, toks := tk })
    (done : ∀ m₁ news₁ h tk, J vs.length m₁ news₁ → Fr h₀ env.locals h m₁ → News h₀ env.locals h news₁ → Q .next { s with heap := h, toks := tk }) :
    wpAny (model PR w) A (pyIter (.ref l)) (fun it s₂ => LoopAtV PR w A h₀ env x body Q E it s₂) E s :=
  kdl_iter J hh hl F N hj (fun i v m₁ news₁ h tk own a b c d e f => wpAny_mono (turn i v m₁ news₁ h tk own a b c d e f) (fun _ _ p => p.inv) fun _ _ e => e) done
theorem ra_iter {r : Addr} {a₀ b₀ : Int} {t₀ u₀ v₀ : Tok} {n : Nat} {m₀ : PySem.Str → Option Value} {news : List (Addr × Obj)} (J : Nat → (PySem.Str → Option Value) → List (Addr × Obj) → Prop)
    (hh : A.handled = none) (hr : IsRange s.heap r a₀ b₀ 1 t₀ u₀ v₀) (hsmall : Builtin.Range.small a₀ b₀ 1 = true) (hsz : Builtin.Range.rangeSize a₀ b₀ 1 = (n : Int)) (F : Fr h₀ env.locals s.heap m₀) (N : News h₀ env.locals s.heap news) (hj : J 0 m₀ news)
    (turn : ∀ i t m₁ news₁ h tk own, i < n → OwnOff own (news₁.map (·.1)) → J i m₁ news₁ → Fr h₀ env.locals h (fun y => if y = x then some (.int (a₀ + (i : Int)) t) else m₁ y) → News h₀ env.locals h (news₁ ++ own) →
      wpAny (model PR w) A (execs body env) (TurnPost h₀ env.locals (J (i + 1)) own { s with heap := h, toks := tk } Q) E { s with heap := h, toks := tk })
    (done : ∀ m₁ news₁ h tk, J n m₁ news₁ → Fr h₀ env.locals h m₁ → News h₀ env.locals h news₁ → Q .next { s with heap := h, toks := tk }) :
    wpAny (model PR w) A (pyIter (.ref r)) (fun it s₂ => LoopAtV PR w A h₀ env x body Q E it s₂) E s := by
  refine wpAny_pyIter_range hr hsmall ?_
  have W : Walks PR w A s.heap.objs.size [s.heap.objs.size] [s.heap.objs.size] n (fun i v => i < n ∧ ∃ t, v = .int (a₀ + i * 1) t)
      (fun i h => IsRangeIter h s.heap.objs.size (a₀ + (i : Nat) * 1) ((n : Int) - (i : Nat)) 1) := (Walks.range hh _ a₀ 1 n).bound
  refine kdr_loop J W (fun _ h => h) (fun _ h => h) ?_ ?_ ?_ ?_ (by show IsRangeIter _ _ _ _ _; rw [hsz]; simpa using Heap.get?_push_size _ rfl) (F.push _) (fun p hp => ⟨Heap.get?_push_of_some _ (N p hp).1, (N p hp).2⟩) hj ?_ done
  · intro i h hi b hb
    rw [List.mem_singleton.mp hb]
    exact ⟨_, hi⟩
  · intro hm
    exact absurd F.ns.lt ((List.mem_singleton.mp hm) ▸ Nat.lt_irrefl _)
  · intro b hb
    rw [List.mem_singleton.mp hb]
    exact next_is_new F
  · intro p hp hI
    exact absurd (Heap.lt_size (N p hp).1) ((List.mem_singleton.mp hI) ▸ Nat.lt_irrefl _)
  · rintro i v m₁ nx h tk own hi ⟨_, t, rfl⟩ hoff hJ F₁ N₁
    have e1 : a₀ + (i : Int) * 1 = a₀ + (i : Int) := by omega
    rw [e1] at F₁
    exact wpAny_mono (turn i t m₁ nx h tk own hi hoff hJ F₁ N₁) (fun _ _ p => p.inv) fun _ _ e => e
end

noncomputable def WEnd (h₀ : Heap) (L : Addr) (J : Nat → (PySem.Str → Option Value) → List (Addr × Obj) → Prop) (n : Nat) (s₁ s₂ : Shared) : Prop :=
  ∃ h' tk m' news' n', s₂ = { s₁ with heap := h', toks := tk } ∧ Fr h₀ L h' m' ∧ News h₀ L h' news' ∧ n' < n ∧ J n' m' news'
noncomputable def WPost (h₀ : Heap) (L : Addr) (J : Nat → (PySem.Str → Option Value) → List (Addr × Obj) → Prop) (n : Nat) (s₁ : Shared) (Q : Flow → Shared → Prop) (f : Flow) (s₂ : Shared) : Prop :=
  match f with
  | .ret v => Q (.ret v) s₂
  | .brk => Q .next s₂
  | _ => WEnd h₀ L J n s₁ s₂
section
variable {h₀ : Heap} {L : Addr} {J : Nat → (PySem.Str → Option Value) → List (Addr × Obj) → Prop} {n : Nat} {s₁ s₂ : Shared} {Q : Flow → Shared → Prop}
theorem WPost.retI {v : Value} (h : Q (.ret v) s₂) : WPost h₀ L J n s₁ Q (.ret v) s₂ := h
theorem WPost.nextI (h : WEnd h₀ L J n s₁ s₂) : WPost h₀ L J n s₁ Q .next s₂ := h
theorem WEnd.intro {m' : PySem.Str → Option Value} {news' : List (Addr × Obj)} {h' : Heap} {tk n' : Nat} (F : Fr h₀ L h' m') (N : News h₀ L h' news') (hn : n' < n) (hj : J n' m' news') :
    WEnd h₀ L J n s₁ { s₁ with heap := h', toks := tk } := ⟨h', tk, m', news', n', rfl, F, N, hn, hj⟩
end
theorem while_J {w : World} {A : Around} {E : Value → Shared → Prop} {s : Shared} {env : Env} {h₀ : Heap} {L : Addr} {test : PySem.Expr} {body : List Stmt} {pos : Pos} {Q : Flow → Shared → Prop} {m : PySem.Str → Option Value} {news : List (Addr × Obj)}
    (J : Nat → (PySem.Str → Option Value) → List (Addr × Obj) → Prop) (n₀ : Nat) (F : Fr h₀ L s.heap m) (N : News h₀ L s.heap news) (hj : J n₀ m news)
    (turn : ∀ n m₁ news₁ h₁ tk₁, Fr h₀ L h₁ m₁ → News h₀ L h₁ news₁ → J n m₁ news₁ →
      wpAny (model PR w) A (isTrue test env (eval test env)) (fun b s₂ => WhlIf b (wpAny (model PR w) A (execs body env) (WPost h₀ L J n s Q) E s₂) (Q .next s₂)) E { s with heap := h₁, toks := tk₁ })
    (hE : PassesOwn (model PR w) A env E) :
    wpAny (model PR w) A (exec (.While test body [] pos) env) Q E s := by
  have all : ∀ n, ∀ m₁ news₁ h₁ tk₁, Fr h₀ L h₁ m₁ → News h₀ L h₁ news₁ → J n m₁ news₁ → WhlRest PR w A E env test body [] Q 1 { s with heap := h₁, toks := tk₁ } := by
    intro n
    induction n using Nat.strongRecOn with
    | ind n ih =>
      intro m₁ news₁ h₁ tk₁ F₁ N₁ hj₁
      refine whl_turn (k := 0) hE (wpAny_mono (turn n m₁ news₁ h₁ tk₁ F₁ N₁ hj₁) (fun b s₂ h => ?_) fun _ _ e => e)
      cases b with
      | false => exact wpAny_execs_nil h
      | true =>
        refine wpAny_mono (show wpAny _ _ _ _ _ _ from h) (fun f s₃ p => ?_) fun _ _ e => e
        have fin : WEnd h₀ L J n s s₃ → WhlRest PR w A E env test body [] Q 0 s₃ := by
          rintro ⟨h', tk, m', news', n', rfl, F', N', hn, hj'⟩
          exact ih n' hn m' news' h' tk F' N' hj'
        cases f with
        | next => exact fin p
        | cont => exact fin p
        | brk => exact p
        | ret v => exact p
  exact whl_start 1 (all n₀ m news s.heap s.toks F N hj)

noncomputable def MidP (P : Flow → Shared → Prop) (f : Flow) (s : Shared) : Prop := P f s
section
variable {A : Around} {e e' : Env} {a b n : Nat}
theorem dp0 (h : A.depth + a < n) (hk : Nat.ble b a = true) : A.depth + b < n := by
  have := Nat.le_of_ble_eq_true hk
  omega
theorem dp1 (h : A.depth + a < n) (hk : Nat.ble (b + 1) a = true) : (A.deeper e).depth + b < n := by
  have := Nat.le_of_ble_eq_true hk
  show A.depth + 1 + b < n
  omega
theorem dp2 (h : A.depth + a < n) (hk : Nat.ble (b + 2) a = true) : ((A.deeper e).deeper e').depth + b < n := by
  have := Nat.le_of_ble_eq_true hk
  show A.depth + 1 + 1 + b < n
  omega
theorem un0 (h : A.units + a < n) (hk : Nat.ble b a = true) : A.units + b < n := by
  have := Nat.le_of_ble_eq_true hk
  omega
theorem un1 (h : A.units + a < n) (hk : Nat.ble (b + 3) a = true) : (A.deeper e).units + b < n := by
  have := Nat.le_of_ble_eq_true hk
  show A.units + 3 + b < n
  omega
theorem un2 (h : A.units + a < n) (hk : Nat.ble (b + 6) a = true) : ((A.deeper e).deeper e').units + b < n := by
  have := Nat.le_of_ble_eq_true hk
  show A.units + 3 + 3 + b < n
  omega
end
section
variable {c : Cx} {f : Addr} {dn un : Nat} {args : List Value} {news nn : List (Addr × Obj)}
    {A : Around} {env : Env} {outer : List Env} {A₀ : Around} {base h₀ : Heap} {L : Addr} {m : PySem.Str → Option Value} {s : Shared} {Q E : Value → Shared → Prop}
theorem ct_use_eq {V : Value} (C : Ct c f dn un args news (fun v news' => v = V ∧ news' = nn))
    (hh : A.handled = none) (hA : A.frames = some (env :: outer)) (hf : env.frame = some L) (hke : env.scope.kind = .function) (hdp : A.depth + dn < recursionLimit) (hu : A.units + un < cLine)
    (B : Below A₀ base outer h₀) (F : Fr h₀ L s.heap m) (X : (hd.heap_1 c.w.params).In h₀) (N : News h₀ L s.heap news) (T : Top c.p c.loose c.mean c.mg c.mb h₀)
    (k : ∀ h' tk', Fr h₀ L h' m → News h₀ L h' nn → Q V { s with heap := h', toks := tk' }) : wpAny (model PR c.w) A (call (.ref f) args) Q E s :=
  ct_use C hh hA hf hke hdp hu B F X N T fun _ _ h' tk' F' N' p => by
    obtain ⟨e1, e2⟩ := p; subst e1; subst e2; exact k h' tk' F' N'
theorem ct_use_t {W : Tok → Value} (C : Ct c f dn un args news (fun v news' => (∃ t, v = W t) ∧ news' = nn))
    (hh : A.handled = none) (hA : A.frames = some (env :: outer)) (hf : env.frame = some L) (hke : env.scope.kind = .function) (hdp : A.depth + dn < recursionLimit) (hu : A.units + un < cLine)
    (B : Below A₀ base outer h₀) (F : Fr h₀ L s.heap m) (X : (hd.heap_1 c.w.params).In h₀) (N : News h₀ L s.heap news) (T : Top c.p c.loose c.mean c.mg c.mb h₀)
    (k : ∀ t h' tk', Fr h₀ L h' m → News h₀ L h' nn → Q (W t) { s with heap := h', toks := tk' }) : wpAny (model PR c.w) A (call (.ref f) args) Q E s :=
  ct_use C hh hA hf hke hdp hu B F X N T fun _ _ h' tk' F' N' p => by
    obtain ⟨⟨t, e1⟩, e2⟩ := p; subst e1; subst e2; exact k t h' tk' F' N'
theorem ct_use_rd {lim : Int} {G : Nat → Tok → List (Addr × Obj)} (C : Ct c f dn un args news (fun r news' => ∃ (z : Int) (t : Tok) (p : Nat) (tp : Tok), r = .int z t ∧ 0 ≤ z ∧ z < lim ∧ news' = G p tp))
    (hh : A.handled = none) (hA : A.frames = some (env :: outer)) (hf : env.frame = some L) (hke : env.scope.kind = .function) (hdp : A.depth + dn < recursionLimit) (hu : A.units + un < cLine)
    (B : Below A₀ base outer h₀) (F : Fr h₀ L s.heap m) (X : (hd.heap_1 c.w.params).In h₀) (N : News h₀ L s.heap news) (T : Top c.p c.loose c.mean c.mg c.mb h₀)
    (k : ∀ z t p tp h' tk', Fr h₀ L h' m → News h₀ L h' (G p tp) → 0 ≤ z → z < lim → Q (.int z t) { s with heap := h', toks := tk' }) : wpAny (model PR c.w) A (call (.ref f) args) Q E s :=
  ct_use C hh hA hf hke hdp hu B F X N T fun _ _ h' tk' F' N' q => by
    obtain ⟨z, t, p, tp, e1, h0, h1, e2⟩ := q; subst e1; subst e2; exact k z t p tp h' tk' F' N' h0 h1
theorem ct_use_ro {P : Addr → Nat → List Value → List (Addr × Obj) → Prop} (C : Ct c f dn un args news (fun v news' => ∃ (l : Addr) (n : Nat) (ps : List Value) (tl : List (Addr × Obj)), v = .ref l ∧ news' = tl ++ nn ∧ P l n ps tl))
    (hh : A.handled = none) (hA : A.frames = some (env :: outer)) (hf : env.frame = some L) (hke : env.scope.kind = .function) (hdp : A.depth + dn < recursionLimit) (hu : A.units + un < cLine)
    (B : Below A₀ base outer h₀) (F : Fr h₀ L s.heap m) (X : (hd.heap_1 c.w.params).In h₀) (N : News h₀ L s.heap news) (T : Top c.p c.loose c.mean c.mg c.mb h₀)
    (k : ∀ l n ps tl h' tk', Fr h₀ L h' m → News h₀ L h' (tl ++ nn) → P l n ps tl → Q (.ref l) { s with heap := h', toks := tk' }) : wpAny (model PR c.w) A (call (.ref f) args) Q E s :=
  ct_use C hh hA hf hke hdp hu B F X N T fun _ _ h' tk' F' N' q => by
    obtain ⟨l, n, ps, tl, e1, e2, h⟩ := q; subst e1; subst e2; exact k l n ps tl h' tk' F' N' h
end
section
variable {M : Model} {A : Around} {E : Value → Shared → Prop} {s : Shared} {h₀ : Heap} {L a : Addr} {m : PySem.Str → Option Value} {cn : PySem.Str} {cs : Scope} {ccd : Value} {cl : List (PySem.Str × Addr)}
  {x : PySem.Str} {v : Value} {Q : Unit → Shared → Prop} {news : List (Addr × Obj)}
theorem store_let (F : Fr h₀ L s.heap m) (N : News h₀ L s.heap news)
    (h : let mk : PySem.Str → Option Value := fun y => if y = x then some v else m y; ∀ h', Fr h₀ L h' mk → News h₀ L h' news → Q () { s with heap := h', toks := s.toks + 1 })
    (hk : cs.kind = .function) (hx : (envX cn cs L a ccd cl).kindOf x = some .local) : wpAny M A (storeName (envX cn cs L a ccd cl) x v) Q E s :=
  storeX_L F N (fun h' F' N' => h h' F' N') hk hx
end
theorem lt_ne_1 {a b : Addr} {P : Prop} (h : a < b ∧ P) : b ≠ a := Nat.ne_of_gt h.1
theorem lt_ne_2 {a b : Addr} {A1 P : Prop} (h : A1 ∧ a < b ∧ P) : b ≠ a := Nat.ne_of_gt h.2.1
theorem lt_ne_3 {a b : Addr} {A1 A2 P : Prop} (h : A1 ∧ A2 ∧ a < b ∧ P) : b ≠ a := Nat.ne_of_gt h.2.2.1
theorem lt_ne_4 {a b : Addr} {A1 A2 A3 P : Prop} (h : A1 ∧ A2 ∧ A3 ∧ a < b ∧ P) : b ≠ a := Nat.ne_of_gt h.2.2.2.1
theorem lt_ne_5 {a b : Addr} {A1 A2 A3 A4 P : Prop} (h : A1 ∧ A2 ∧ A3 ∧ A4 ∧ a < b ∧ P) : b ≠ a := Nat.ne_of_gt h.2.2.2.2.1
theorem lt_ne_6 {a b : Addr} {A1 A2 A3 A4 A5 P : Prop} (h : A1 ∧ A2 ∧ A3 ∧ A4 ∧ A5 ∧ a < b ∧ P) : b ≠ a := Nat.ne_of_gt h.2.2.2.2.2.1
theorem lt_ne_7 {a b : Addr} {A1 A2 A3 A4 A5 A6 P : Prop} (h : A1 ∧ A2 ∧ A3 ∧ A4 ∧ A5 ∧ A6 ∧ a < b ∧ P) : b ≠ a := Nat.ne_of_gt h.2.2.2.2.2.2.1
theorem lt_ne_8 {a b : Addr} {A1 A2 A3 A4 A5 A6 A7 P : Prop} (h : A1 ∧ A2 ∧ A3 ∧ A4 ∧ A5 ∧ A6 ∧ A7 ∧ a < b ∧ P) : b ≠ a := Nat.ne_of_gt h.2.2.2.2.2.2.2.1
theorem bd1 {a i : Nat} {ar : Int} (h1 : a ≤ i) (h2 : i < ar.toNat) (h3 : ar ≤ 3) : a ≤ 1000 := by omega
theorem bd2 {i : Nat} : 0 ≤ 1 + (i : Int) := by omega
theorem bd3 {i : Nat} {ar : Int} (h2 : i < ar.toNat) (h3 : ar ≤ 3) : 1 + (i : Int) ≤ 1000 := by omega
theorem bd4 {i a b c d : Nat} (h : i < a) (h1 : a = b) (h2 : b = c) (h3 : d = c) : i < d := by omega
theorem bd5 {i a b : Nat} (h : i < a) (h1 : a = b) (h2 : b ≤ 50) : i < 1000 := by omega
theorem bd6 {i a b : Nat} (h : i < a) (h1 : a = b) (h2 : b ≤ 50) : 3 + 2 * i ≤ 800 := by omega
theorem bd7 {z : Int} {i : Nat} (h : z = (i : Int)) : 0 ≤ z := by omega
theorem bd8 {z : Int} {i a b : Nat} (h0 : z = (i : Int)) (h : i < a) (h1 : a = b) (h2 : b ≤ 50) : z ≤ 1000 := by omega
theorem bd9 {a b : Nat} (h1 : a = b) (h2 : b ≤ 50) : a < 1000 := by omega
theorem bd10 {ar : Int} (h : ar ≤ 3) : ar.toNat ≤ 3 := by omega
end
section
local macro_rules | `(tactic| k_all) => `(tactic| assumption)
local macro_rules | `(tactic| k_mem) => `(tactic| k_extra "mem")
local macro_rules | `(tactic| k_upd) => `(tactic| k_extra "upd")
local macro_rules | `(tactic| k_qdec) => `(tactic| decide +kernel)
local macro_rules | `(tactic| walk_at $s:str) => `(tactic| k_extra $s)
section
structure CS where
  nv : Int
  vo : List (Int × Int)
  held : List (Int × Int)
  inc : List (Int × Int)
  out : List (Int × Int)
structure CA where
  x : Addr
  dx : Addr
  V : Addr
  H : Addr
  I : Addr
  O : Addr
  t1 : Tok
  t2 : Tok
  t3 : Tok
  t4 : Tok
  t5 : Tok
  tn : Tok
  h1 : Int
  h2 : Int
  h3 : Int
  h4 : Int
  h5 : Int
  oV : Obj
  oH : Obj
  oI : Obj
  oO : Obj
abbrev ckEs (h1 h2 h3 h4 h5 : Int) (t1 t2 t3 t4 t5 tn : Tok) (nv : Int) (V H I O : Addr) : List DictEntry :=
  [⟨h1, .str (PySem.Str.ofString "next_value") t1, .int nv tn⟩, ⟨h2, .str (PySem.Str.ofString "value_of") t2, .ref V⟩, ⟨h3, .str (PySem.Str.ofString "held") t3, .ref H⟩,
   ⟨h4, .str (PySem.Str.ofString "incoming") t4, .ref I⟩, ⟨h5, .str (PySem.Str.ofString "outgoing") t5, .ref O⟩]
noncomputable def CA.fp (a : CA) (nv : Int) : List (Addr × Obj) :=
  [(a.x, instObj 115 a.dx), (a.dx, dictOf (ckEs a.h1 a.h2 a.h3 a.h4 a.h5 a.t1 a.t2 a.t3 a.t4 a.t5 a.tn nv a.V a.H a.I a.O) 5), (a.V, a.oV), (a.H, a.oH), (a.I, a.oI), (a.O, a.oO)]
structure CkS (w : World) (a : CA) (st : CS) : Prop where
  dV : DI w a.oV st.vo
  dH : DI w a.oH st.held
  dI : DI w a.oI st.inc
  dO : DI w a.oO st.out
  loV : (a.V == sysModules) = false
  loH : (a.H == sysModules) = false
  loI : (a.I == sysModules) = false
  loO : (a.O == sysModules) = false
  n1 : a.dx ≠ a.x
  n2 : a.V ≠ a.x
  n3 : a.H ≠ a.x
  n4 : a.I ≠ a.x
  n5 : a.O ≠ a.x
  n6 : a.V ≠ a.dx
  n7 : a.H ≠ a.dx
  n8 : a.I ≠ a.dx
  n9 : a.O ≠ a.dx
  n10 : a.H ≠ a.V
  n11 : a.I ≠ a.V
  n12 : a.O ≠ a.V
  n13 : a.I ≠ a.H
  n14 : a.O ≠ a.H
  n15 : a.O ≠ a.I
/-- nothing of keep stands where the checker's parts stand -/
structure CkOff (a : CA) (keep : List (Addr × Obj)) : Prop where
  x : Off a.x keep
  dx : Off a.dx keep
  V : Off a.V keep
  H : Off a.H keep
  I : Off a.I keep
  O : Off a.O keep
theorem CA.mems {a : CA} {nv : Int} {news : List (Addr × Obj)} (h : ∀ p ∈ a.fp nv, p ∈ news) :
    (a.x, instObj 115 a.dx) ∈ news ∧ (a.dx, dictOf (ckEs a.h1 a.h2 a.h3 a.h4 a.h5 a.t1 a.t2 a.t3 a.t4 a.t5 a.tn nv a.V a.H a.I a.O) 5) ∈ news ∧ (a.V, a.oV) ∈ news ∧ (a.H, a.oH) ∈ news ∧ (a.I, a.oI) ∈ news ∧ (a.O, a.oO) ∈ news := by
  refine ⟨h _ ?_, h _ ?_, h _ ?_, h _ ?_, h _ ?_, h _ ?_⟩ <;> simp [CA.fp]

noncomputable def sameRead (st : CS) : Op → Op → Bool
  | .t k, .x r => match lk st.held r with
    | none => false
    | some v => v == (lk st.vo k).getD 0
  | .a k, .x r => match lk st.held r with
    | none => false
    | some v => if k = r then v == (lk st.inc k).getD 0 else false
  | .y k, r => decide (r = .y k)
  | _, _ => false
noncomputable def sameWrite : Op → Op → Bool
  | .a k, r => decide (r = .x k)
  | _, _ => true
/-- the pairs of operands that are met -/
inductive OpsOk : Op → Op → Prop where
  | t {k r : Int} : OpsOk (.t k) (.x r)
  | a {k r : Int} : OpsOk (.a k) (.x r)
  | y {k r : Int} : OpsOk (.y k) (.y r)
set_option maxRecDepth 100000 in
set_option maxHeartbeats 0 in
theorem sread_ct (c : Cx) {a : CA} {st : CS} {news : List (Addr × Obj)} {ov rv : Value} {o r : Op} (hS : CkS c.w a st) (hsub : ∀ p ∈ a.fp st.nv, p ∈ news)
    (ho : OpAt news ov o) (hr : OpAt news rv r) (hok : OpsOk o r) :
    Ct c 56 3 100 [.ref a.x, ov, rv] news (fun v news' => v = .bool (sameRead st o r) ∧ news' = news) := by
  unfold Ct PR
  k_fill
  k_with_none
  k_with "mem" => (first | with_reducible assumption | with_reducible exact List.mem_cons_self | (with_reducible refine List.mem_cons_of_mem _ ?_; k_extra "mem") | (with_reducible refine List.mem_append_left _ ?_; k_extra "mem") | (with_reducible refine List.mem_append_right _ ?_; k_extra "mem"))
  k_with "my_enter" => ((refine' code_def ?r2zk1 ?r2zk2 ?r2zk3 ?r2zk4 ?r2zk5 ?r2zkA ?r2zkF ?r2zkK ?r2zk6 ?r2zk7 ?r2zk8 ?r2zk9 ?r2zkB ?_ ?r2zc2 ?r2zc3 ?r2zc4 ?r2zc5; (case r2zkA => assumption); (case r2zkF => assumption); (case r2zkK => assumption); (case r2zk1 => k_asm); (case r2zk2 => k_asm); (case r2zk3 => k_asm); (case r2zk4 => k_asm); (case r2zk5 => k_asm); (case r2zk6 => k_is); (case r2zk7 => k_is); (case r2zk8 => omega); (case r2zk9 => exact BindsTo.of_eq rfl); (case r2zc5 => decide); (case r2zkB => exact locs rfl); (case r2zc2 => exact rfl); (case r2zc3 => exact rfl); (case r2zc4 => exact rfl); k_whole; intro zq_g' zq_L' zq_h' zq_FG' zq_F' zq_N' zq_B' zq_X' zq_T'; (try dsimp only); (try k_fold)))
  k_with "mysub" => (((with_reducible show wpAny _ _ (subscriptTail _ _ (Value.ref _) (Value.int _ _)) _ _ _); (with_unfolding_all first | (refine' sub_tup ?r3zN ?r3zm ?r3zi ?r3zj ?r3zx ?_ ?r3zh6; (case r3zN => k_asm); (case r3zm => k_extra "mem"); (case r3zi => exact rfl); (case r3zj => decide); (case r3zx => exact rfl); (case r3zh6 => rfl); k_whole) | (refine' sub_list ?r3zN ?r3zm ?r3zi ?r3zj ?r3zx ?_ ?r3zh6; (case r3zN => k_asm); (case r3zm => k_extra "mem"); (case r3zi => exact rfl); (case r3zj => omega); (case r3zx => assumption); (case r3zh6 => rfl); k_whole) | (refine' sub_list ?r3zN ?r3zm ?r3zi ?r3zj ?r3zx ?_ ?r3zh6; (case r3zN => k_asm); (case r3zm => k_extra "mem"); (case r3zi => exact rfl); (case r3zj => decide); (case r3zx => exact rfl); (case r3zh6 => rfl); k_whole) | (refine' di_item ?r3zN ?r3zm ?r3zd ?r3zv ?_ ?r3zh6; (case r3zN => k_asm); (case r3zm => k_extra "mem"); (case r3zd => with_reducible assumption); (case r3zv => with_reducible assumption); (case r3zh6 => rfl); k_whole; intro _) | (refine' ds_item ?r3zN ?r3zm ?r3zd ?r3zv ?_ ?r3zh6; (case r3zN => k_asm); (case r3zm => k_extra "mem"); (case r3zd => with_reducible assumption); (case r3zv => with_reducible assumption); (case r3zh6 => rfl); k_whole; intro _))))
  k_with "subscriptTail" => (k_extra "mysub")
  k_with "subscriptTail Name Constant ref int" => (k_extra "mysub")
  k_with "subscriptTail Name Name ref int" => (k_extra "mysub")
  k_with "subscriptTail Attribute Name Subscript Name Constant ref int" => (k_extra "mysub")
  k_with "getMethod ref" => (((with_reducible show wpAny _ _ (getMethod (Value.ref _) (PySem.Str.ofString "get") _) _ _ _); k_dflt (first | (refine' di_method ?r8zN ?r8zm ?r8zd ?_; (case r8zN => k_asm); (case r8zm => k_extra "mem"); (case r8zd => with_reducible assumption)) | (refine' ds_method ?r8zN ?r8zm ?r8zd ?_; (case r8zN => k_asm); (case r8zm => k_extra "mem"); (case r8zd => with_reducible assumption)))))
  k_with "call builtin:dict.get" => ((k_dflt (first | (refine' di_get ?r9zN ?r9zm ?r9zd ?r9zlo ?_; (case r9zN => k_asm); (case r9zm => k_extra "mem"); (case r9zd => with_reducible assumption); (case r9zlo => with_reducible assumption)) | (refine' ds_get ?r9zN ?r9zm ?r9zd ?r9zlo ?_; (case r9zN => k_asm); (case r9zm => k_extra "mem"); (case r9zd => with_reducible assumption); (case r9zlo => with_reducible assumption))); intro _))
  k_with "compareOp NotIn int ref" => ((k_dflt (refine' di_notin2 ?r10zN ?r10zm ?r10zd ?r10zlo ?_ ?_; (case r10zN => k_asm); (case r10zm => k_extra "mem"); (case r10zd => with_reducible assumption); (case r10zlo => with_reducible assumption)); intros))
  k_with "ite" => (with_reducible first | refine ite_t ?_ | refine ite_f ?_ | (refine' ite_bt ?r11zh ?_; (case r11zh => assumption)) | (refine' ite_bf ?r11zh ?_; (case r11zh => assumption)))
  k_with "opAt" => (first | with_reducible assumption | (refine' OpAt.mono ?r12zs ?r12zh; (case r12zh => with_reducible assumption); (case r12zs => k_extra "sub")) | (refine' OpAt.t ?r12zq; (case r12zq => k_extra "mem")) | (refine' OpAt.a ?r12zq; (case r12zq => k_extra "mem")) | (refine' OpAt.y ?r12zq; (case r12zq => k_extra "mem")) | (refine' OpAt.x ?r12zq; (case r12zq => k_extra "mem")))
  k_with "units" => (first | exact un1 (by with_reducible assumption) rfl | exact un0 (by with_reducible assumption) rfl | exact un2 (by with_reducible assumption) rfl | (simp only [units_in1, units_deeper, Around.mark_units, units_caller] at *; omega))
  k_with "compareOp Eq ref ref" => ((k_dflt (refine' op_eq ?r14zN ?r14za ?r14zb ?r14zu ?_; (case r14zN => k_asm); (case r14za => k_extra "opAt"); (case r14zb => k_extra "opAt"); (case r14zu => k_extra "units"); k_whole)))
  k_with "compareOp NotEq ref ref" => ((k_dflt (refine' op_ne ?r15zN ?r15za ?r15zb ?r15zu ?_; (case r15zN => k_asm); (case r15za => k_extra "opAt"); (case r15zb => k_extra "opAt"); (case r15zu => k_extra "units"); k_whole)))
  k_with "ne" => (first | with_reducible assumption | with_reducible exact Ne.symm (by with_reducible assumption) | with_reducible exact lt_ne_1 (by with_reducible assumption) | with_reducible exact lt_ne_2 (by with_reducible assumption) | with_reducible exact lt_ne_3 (by with_reducible assumption) | with_reducible exact lt_ne_4 (by with_reducible assumption) | with_reducible exact lt_ne_5 (by with_reducible assumption) | with_reducible exact lt_ne_6 (by with_reducible assumption) | with_reducible exact lt_ne_7 (by with_reducible assumption) | with_reducible exact lt_ne_8 (by with_reducible assumption) | with_reducible exact Ne.symm (lt_ne_1 (by with_reducible assumption)) | with_reducible exact Ne.symm (lt_ne_2 (by with_reducible assumption)) | with_reducible exact Ne.symm (lt_ne_3 (by with_reducible assumption)) | with_reducible exact Ne.symm (lt_ne_4 (by with_reducible assumption)) | with_reducible exact Ne.symm (lt_ne_5 (by with_reducible assumption)) | with_reducible exact Ne.symm (lt_ne_6 (by with_reducible assumption)) | with_reducible exact Ne.symm (lt_ne_7 (by with_reducible assumption)) | with_reducible exact Ne.symm (lt_ne_8 (by with_reducible assumption)) | omega)
  k_with "allne" => (first | with_reducible assumption | (refine' ne_of_lt_all ?r17zz; (case r17zz => with_reducible assumption)) | (refine' ne_of_fresh ?r17zz ?r17zm; (case r17zz => with_reducible assumption); (case r17zm => k_extra "mem")) | exact List.forall_mem_nil _ | (refine' List.forall_mem_cons.mpr ⟨?r17za, ?r17zb⟩; (case r17za => ((try dsimp only); k_extra "ne")); (case r17zb => k_extra "allne")))
  k_with "updF" => (first | (refine' UpdF.head ?r18za; (case r18za => k_extra "allne")) | (refine' UpdF.tail ?r18za ?r18zb; (case r18za => ((try dsimp only); k_extra "ne")); (case r18zb => k_extra "updF")))
  k_with "setItem ref int" => ((k_dflt (first | (refine' di_set ?r19zF ?r19zN ?r19zU ?r19zd ?r19zz ?_; (case r19zF => k_asm); (case r19zN => k_asm); (case r19zU => k_extra "updF"); (case r19zd => with_reducible assumption); (case r19zz => omega)) | (refine' ds_set ?r19zF ?r19zN ?r19zU ?r19zd ?r19zz ?_; (case r19zF => k_asm); (case r19zN => k_asm); (case r19zU => k_extra "updF"); (case r19zd => with_reducible assumption); (case r19zz => omega))); intro zq_h' zq_o' zq_F' zq_N' zq_hd'; (try dsimp only at zq_N'); (try k_sweep)))
  k_with "ifline" => (first | ((with_reducible refine' if_ne ?r20zF ?r20zv ?r20zn ?_ ?r20zk ?r20zl ?r20zd); (case r20zF => k_asm); (case r20zv => with_unfolding_all rfl); (case r20zn => decide +kernel); (case r20zk => rfl); (case r20zl => rfl); (case r20zd => decide); intro _) | ((with_reducible refine' if_eq ?r20zF ?r20zv ?r20zn ?_ ?r20zk ?r20zl ?r20zd); (case r20zF => k_asm); (case r20zv => with_unfolding_all rfl); (case r20zn => decide +kernel); (case r20zk => rfl); (case r20zl => rfl); (case r20zd => decide); intro _; dsimp only) | ((with_reducible refine' ifo_ne ?r20zF ?r20zv ?r20zn ?_ ?r20zk ?r20zl ?r20zd); (case r20zF => k_asm); (case r20zv => with_unfolding_all rfl); (case r20zn => decide +kernel); (case r20zk => rfl); (case r20zl => rfl); (case r20zd => decide); intro _) | ((with_reducible refine' ifo_eq ?r20zF ?r20zv ?r20zn ?_ ?r20zk ?r20zl ?r20zd); (case r20zF => k_asm); (case r20zv => with_unfolding_all rfl); (case r20zn => decide +kernel); (case r20zk => rfl); (case r20zl => rfl); (case r20zd => decide); intro _; dsimp only))
  k_with "execs cons" => (((with_reducible show wpAny _ _ (execs (Stmt.If _ _ _ _ :: _) _) _ _ _); k_dflt (k_extra "ifline")))
  k_with "ltall" => (first | assumption | exact tb_ltOf (by assumption) | (refine' tb_ltOf (And.right ?r22zz); (case r22zz => assumption)) | (refine' tb_ltOf (And.right (And.right ?r22zz)); (case r22zz => assumption)) | (refine' tb_ltOf (And.right (And.right (And.right ?r22zz))); (case r22zz => assumption)))
  k_with "fresh" => (first | exact FreshOver.nil | (refine' FreshOver.cons ?r23za ?r23zb; (case r23za => ((try dsimp only); k_extra "ltall")); (case r23zb => k_extra "fresh")))
  k_with "pairs" => (first | exact All2.nil | (refine' All2.cons ?r24za ?r24zb; (case r24za => (refine' PairAt.mk ?r24zc; (case r24zc => k_extra "mem"))); (case r24zb => k_extra "pairs")))
  k_with "upd" => (first | (refine' upd_app ?r25za ?r25zb; (case r25za => k_extra "allne"); (case r25zb => k_extra "upd")) | (refine' Upd.head ?r25za; (case r25za => k_extra "allne")) | (refine' Upd.tail ?r25za ?r25zb; (case r25za => ((try dsimp only); k_extra "ne")); (case r25zb => k_extra "upd")))
  k_with "setAttr ref" => ((k_dflt (refine' set_dict ?r26zF ?r26zX ?r26zN ?r26zI ?r26zd ?r26zs ?r26zp ?r26zt ?r26zh ?r26zl ?r26ze ?r26zU ?r26zz ?_; (case r26zF => k_asm); (case r26zX => k_asm); (case r26zN => k_asm); (case r26zI => k_inst); (case r26zd => exact rfl); (case r26zs => k_is); (case r26zp => k_is); (case r26zt => k_is); (case r26zh => k_is); (case r26zl => k_get); (case r26ze => k_put); (case r26zU => k_extra "upd"); (case r26zz => exact Nat.le_of_ble_eq_true rfl)); intro zq_h' zq_F' zq_N'; (try k_sweep)))
  k_with "compareOp Eq" => ((k_dflt (refine' pt_eq ?r27zN ?r27za ?r27zb ?r27zu ?_; (case r27zN => k_asm); (case r27za => with_reducible assumption); (case r27zb => with_reducible assumption); (case r27zu => k_extra "units"); k_whole)))
  k_with "compareOp NotEq" => ((k_dflt (refine' pt_ne ?r28zN ?r28za ?r28zb ?r28zu ?_; (case r28zN => k_asm); (case r28za => with_reducible assumption); (case r28zb => with_reducible assumption); (case r28zu => k_extra "units"); k_whole)))
  k_with "exec While Compare cons nil" => (first | ((k_dflt (k_extra "while")); (all_goals ((try ((try k_unmd); k_unfold; clear gG)); (try k_unmd); (try k_fold)))) | (k_here; (try k_fold); k_dflt (refine whl_start 100 ?_)))
  k_with "call builtin:isinstance" => ((k_dflt (first | (refine' isi_tup ?r30zF ?r30zX ?r30zN ?r30zm ?_; (case r30zF => k_asm); (case r30zX => k_asm); (case r30zN => k_asm); (case r30zm => k_extra "mem")) | (refine' isi_int ?r30zF ?r30zX ?r30zN ?_; (case r30zF => k_asm); (case r30zX => k_asm); (case r30zN => k_asm))); intro _))
  k_with "eval Name" => (((with_reducible refine' ldq ?r31zF ?r31zv ?r31zk ?r31zl ?r31zd ?_); (case r31zF => with_reducible assumption); (case r31zl => decide +kernel); (case r31zd => decide +kernel); (case r31zv => k_dflt (first | with_reducible assumption | exact @rfl _ (some _) | assumption)); (case r31zk => exact rfl)))
  k_with "TurnPost" => ((first | (with_reducible refine TurnPost.retI ?_) | (with_reducible refine TurnPost.nextI ?_)))
  k_with "exec For" => (((rename Fr _ _ _ _ => zq_lF'); (with_unfolding_all refine' For_invVF zq_lF' ?r33zk1 ?r33zk2 ?_; (case r33zk1 => exact rfl); (case r33zk2 => exact rfl); k_whole)))
  k_with "exec For Name Attribute cons nil" => (walk_at "exec For")
  k_with "exec For Name Name cons nil" => (walk_at "exec For")
  k_with "exec For Name Call cons nil" => (walk_at "exec For")
  k_with "rowAt" => (with_reducible assumption)
  k_with "depth" => (first | exact dp1 (by with_reducible assumption) rfl | exact dp0 (by with_reducible assumption) rfl | exact dp2 (by with_reducible assumption) rfl | (simp only [depth_under_make, depth_under_kw, depth_in1, depth_deeper, depth_caller] at *; omega))
  k_with "exec If" => (first | k_dflt (k_extra "if") | ((with_reducible refine wpAny_If ?_); (try dsimp only)))
  k_with "exec If Compare cons nil" => (walk_at "exec If")
  k_with "exec If BoolOp cons nil" => (walk_at "exec If")
  k_with "exec If Call cons nil" => (walk_at "exec If")
  k_with "exec If UnaryOp cons nil" => (walk_at "exec If")
  k_with "exec If Compare cons cons" => (walk_at "exec If")
  k_with "exec If BoolOp cons cons" => (walk_at "exec If")
  k_with "eval Call" => (((fail_if_success (with_reducible show wpAny _ _ (eval (Expr.Call (Expr.Name (PySem.Str.ofString "range") _) _ _ _) _) _ _ _)); (with_reducible show wpAny _ _ (eval (Expr.Call (Expr.Name _ _) _ _ _) _) _ _ _); k_dflt (refine Call_ ?_)))
  k_with "eval Call Attribute" => ((k_dflt (refine MethodCall_ ?_)))
  k_with "handled" => (first | assumption | exact rfl)
  k_with "frames" => (first | exact rfl | (refine' frames_deeper ?r49zz; (case r49zz => assumption)))
  k_with "pyIter ref" => (((k_dflt (k_extra "loop")); (all_goals ((try ((try k_unmd); k_unfold; clear gG)); (try dsimp only); (try k_unmd); (try k_fold)))))
  k_with "call ref" => (k_dflt (k_extra "call"))
  k_with "sub" => (first | with_reducible assumption | with_reducible exact sub_refl | (with_reducible refine sub_cons ?_; k_extra "sub") | (with_reducible refine sub_app ?_; k_extra "sub"))
  k_with "call builtin:list.append" => ((k_dflt (refine' app_l ?r53zF ?r53zN ?r53zU ?r53zz ?_; (case r53zF => k_asm); (case r53zN => k_asm); (case r53zU => k_extra "upd"); (case r53zz => exact Nat.le_of_ble_eq_true rfl)); intro zq_h' zq_F' zq_N'; (try dsimp only [List.cons_append, List.nil_append] at zq_N'); (try k_sweep)))
  k_with "compareOp In ref ref" => ((k_dflt (first | (refine' in_ops0 ?r54zN ?r54zl ?r54zo ?r54zu ?_; (case r54zN => k_asm); (case r54zl => k_extra "mem"); (case r54zo => k_extra "opAt"); (case r54zu => k_extra "units")) | (refine' in_ops1 ?r54zN ?r54zl ?r54zv ?r54zo ?r54zu ?_; (case r54zN => k_asm); (case r54zl => k_extra "mem"); (case r54zv => k_extra "opAt"); (case r54zo => k_extra "opAt"); (case r54zu => k_extra "units")))))
  k_with "assign Tuple" => ((k_dflt (refine' unpackN_ ?r55zF ?r55zN ?r55zT ?r55zh ?r55z2 ?r55z3 ?_; (case r55zF => k_asm); (case r55zN => k_asm); (case r55zT => (refine' News.isTup ?r55zy1 ?r55zy2; (case r55zy1 => k_asm); (case r55zy2 => k_extra "mem"))); (case r55zh => k_extra "handled"); (case r55z2 => exact rfl); (case r55z3 => exact rfl)); intro zq_h' zq_F' zq_N'; (try k_sweep)))
  k_with "WPost" => ((first | (with_reducible refine WPost.retI ?_) | (with_reducible refine WPost.nextI ?_)))
  k_with "WhlIf" => (((first | (refine' WhlIf.yes ?r57zz ?_; (case r57zz => (refine decide_eq_true ?_; omega))) | (refine' WhlIf.no ?r57zz ?_; (case r57zz => (refine decide_eq_false ?_; omega)))); (try dsimp only); (try k_unmd); (try k_fold)))
  k_with "call builtin:len" => ((k_dflt (refine' len_l ?r58zN ?r58zm ?r58zz ?_; (case r58zN => k_asm); (case r58zm => k_extra "mem"); (case r58zz => first | exact Nat.le_of_ble_eq_true rfl | omega)); intro _ _))
  k_with "loadName" => (((with_reducible refine' ldnq ?r59zF ?r59zv ?r59zk ?r59zl ?_); (case r59zF => with_reducible assumption); (case r59zl => decide +kernel); (case r59zv => k_dflt (first | with_reducible assumption | exact @rfl _ (some _) | assumption)); (case r59zk => exact rfl)))
  k_with "kv" => (with_reducible first | exact kv_held | exact kv_temps | exact kv_given | exact kv_out | exact kv_count)
  k_with "stitem" => ((k_dflt (refine' st_item ?r61zN ?r61zm ?r61zd ?r61zv ?_ ?r61zh6; (case r61zN => k_asm); (case r61zm => k_extra "mem"); (case r61zd => with_reducible assumption); (case r61zv => k_extra "kv"); (case r61zh6 => with_unfolding_all rfl))))
  k_with "subscriptTail Name Constant ref str" => (k_extra "stitem")
  k_with "call type:range" => ((k_dflt (first | (refine' range1_rows ?r63zF ?r63zN ?_; (case r63zF => k_asm); (case r63zN => k_asm)) | (refine' range2_rows ?r63zF ?r63zN ?_; (case r63zF => k_asm); (case r63zN => k_asm))); intro zq_h' zq_tk' zq_t9 zq_u9 zq_w9 zq_R' zq_F' zq_N' zq_kp'; clear zq_kp'; (try k_sweep)))
  k_with "TurnPost" => ((with_reducible refine TurnPost.contI ?_))
  k_with "unpackItems ref" => ((k_dflt (refine' unpackItemsN_ ?r65zF ?r65zN ?r65zT ?r65zh ?r65z2 ?_; (case r65zF => k_asm); (case r65zN => k_asm); (case r65zT => (refine' News.isTup ?r65zy1 ?r65zy2; (case r65zy1 => k_asm); (case r65zy2 => k_extra "mem"))); (case r65zh => k_extra "handled"); (case r65z2 => exact rfl)); intro zq_h' zq_F' zq_N'; (try k_sweep)))
  k_with "storeName" => (((k_dflt (refine' store_let ?r66zF ?r66zN ?_ ?r66za ?r66zb; (case r66zF => k_asm); (case r66zN => k_asm); (case r66za => rfl); (case r66zb => rfl); k_whole)); (intro zq_mk zq_h' zq_F' zq_N'); (try k_sweep)))
  k_with "callWith" => (((with_reducible show wpAny _ _ (callWith _ (Value.builtin "list.append") _ _ _) _ _ _); (k_dflt (refine callWith_method1 ?_))))
  intro A env outer A₀ base h₀ L m s Q E hh hA hf hke hd hu B F X N T ret
  obtain ⟨m1, m2, m3, m4, m5, m6⟩ := CA.mems hsub
  clear hsub
  obtain ⟨x, dx, V, H, I, O, t1, t2, t3, t4, t5, tn, h1, h2, h3, h4, h5, oV, oH, oI, oO⟩ := a
  obtain ⟨dV, dH, dI, dO, loV, loH, loI, loO, n1, n2, n3, n4, n5, n6, n7, n8, n9, n10, n11, n12, n13, n14, n15⟩ := hS
  dsimp only at *
  clear n1 n2 n3 n4 n5 n6 n7 n8 n9 n10 n11 n12 n13 n14 n15
  cases hok <;> cases ho <;> cases hr
  all_goals (
    refine wpAny_call ?_
    k_dflt (k_extra "my_enter")
    k_steps
    all_goals (refine ret _ _ _ _ (by assumption) (by assumption) ⟨?_, rfl⟩)
    all_goals (simp only [sameRead, *, if_true, if_false, Bool.false_eq_true]))

set_option maxRecDepth 100000 in
set_option maxHeartbeats 0 in
theorem swrite_ct (c : Cx) {a : CA} {st : CS} {news : List (Addr × Obj)} {ov rv : Value} {o r : Op} (hsub : ∀ p ∈ a.fp st.nv, p ∈ news)
    (ho : OpAt news ov o) (hr : OpAt news rv r) (hok : OpsOk o r) (hy : ∀ k, o ≠ .y k) :
    Ct c 63 3 100 [.ref a.x, ov, rv] news (fun v news' => v = .bool (sameWrite o r) ∧ news' = news) := by
  unfold Ct PR
  k_fill
  intro A env outer A₀ base h₀ L m s Q E hh hA hf hke hd hu B F X N T ret
  obtain ⟨m1, m2, m3, m4, m5, m6⟩ := CA.mems hsub
  clear hsub
  obtain ⟨x, dx, V, H, I, O, t1, t2, t3, t4, t5, tn, h1, h2, h3, h4, h5, oV, oH, oI, oO⟩ := a
  dsimp only at *
  cases hok <;> cases ho <;> cases hr
  case y.y.y => exact absurd rfl (hy _)
  all_goals (
    refine wpAny_call ?_
    k_dflt (k_extra "my_enter")
    k_steps
    all_goals (refine ret _ _ _ _ (by assumption) (News.sub (by assumption) (by first | exact fun _ h => h | exact fun _ h => .tail _ h)) ⟨?_, rfl⟩)
    all_goals (simp only [sameWrite, *, beq_self_eq_true, if_true, if_false, Bool.false_eq_true]))
end
section
noncomputable def CS.write (st : CS) (o r : Op) (v : Int) : CS := match o, r with
  | .t k, .x j => { st with held := put st.held j v, vo := put st.vo k v }
  | .a k, .x j => { st with held := put st.held j v, out := put st.out k v }
  | _, _ => st
structure CS.Le (st : CS) (n : Nat) : Prop where
  vo : st.vo.length ≤ n
  held : st.held.length ≤ n
  inc : st.inc.length ≤ n
  out : st.out.length ≤ n

set_option maxRecDepth 100000 in
set_option maxHeartbeats 0 in
theorem write_ct (c : Cx) {a : CA} {st : CS} {keep : List (Addr × Obj)} {ov rv : Value} {o r : Op} {v : Int} {tv : Tok} {n : Nat} (hS : CkS c.w a st) (hK : CkOff a keep)
    (ho : OpAt keep ov o) (hr : OpAt keep rv r) (hok : OpsOk o r) (hy : ∀ k, o ≠ .y k) (hn : st.Le n) (hn' : n ≤ 900) :
    Ct c 70 3 100 [.ref a.x, ov, rv, .int v tv] (a.fp st.nv ++ keep)
      (fun _ news' => ∃ a', news' = a'.fp (st.write o r v).nv ++ keep ∧ a'.x = a.x ∧ CkS c.w a' (st.write o r v) ∧ CkOff a' keep ∧ (st.write o r v).Le (n + 1)) := by
  unfold Ct PR
  k_fill
  k_with_none
  k_with "mem" => (first | with_reducible assumption | with_reducible exact List.mem_cons_self | (with_reducible refine List.mem_cons_of_mem _ ?_; k_extra "mem") | (with_reducible refine List.mem_append_left _ ?_; k_extra "mem") | (with_reducible refine List.mem_append_right _ ?_; k_extra "mem"))
  k_with "my_enter" => ((refine' code_def ?r2zk1 ?r2zk2 ?r2zk3 ?r2zk4 ?r2zk5 ?r2zkA ?r2zkF ?r2zkK ?r2zk6 ?r2zk7 ?r2zk8 ?r2zk9 ?r2zkB ?_ ?r2zc2 ?r2zc3 ?r2zc4 ?r2zc5; (case r2zkA => assumption); (case r2zkF => assumption); (case r2zkK => assumption); (case r2zk1 => k_asm); (case r2zk2 => k_asm); (case r2zk3 => k_asm); (case r2zk4 => k_asm); (case r2zk5 => k_asm); (case r2zk6 => k_is); (case r2zk7 => k_is); (case r2zk8 => omega); (case r2zk9 => exact BindsTo.of_eq rfl); (case r2zc5 => decide); (case r2zkB => exact locs rfl); (case r2zc2 => exact rfl); (case r2zc3 => exact rfl); (case r2zc4 => exact rfl); k_whole; intro zq_g' zq_L' zq_h' zq_FG' zq_F' zq_N' zq_B' zq_X' zq_T'; (try dsimp only); (try k_fold)))
  k_with "mysub" => (((with_reducible show wpAny _ _ (subscriptTail _ _ (Value.ref _) (Value.int _ _)) _ _ _); (with_unfolding_all first | (refine' sub_tup ?r3zN ?r3zm ?r3zi ?r3zj ?r3zx ?_ ?r3zh6; (case r3zN => k_asm); (case r3zm => k_extra "mem"); (case r3zi => exact rfl); (case r3zj => decide); (case r3zx => exact rfl); (case r3zh6 => rfl); k_whole) | (refine' sub_list ?r3zN ?r3zm ?r3zi ?r3zj ?r3zx ?_ ?r3zh6; (case r3zN => k_asm); (case r3zm => k_extra "mem"); (case r3zi => exact rfl); (case r3zj => omega); (case r3zx => assumption); (case r3zh6 => rfl); k_whole) | (refine' sub_list ?r3zN ?r3zm ?r3zi ?r3zj ?r3zx ?_ ?r3zh6; (case r3zN => k_asm); (case r3zm => k_extra "mem"); (case r3zi => exact rfl); (case r3zj => decide); (case r3zx => exact rfl); (case r3zh6 => rfl); k_whole) | (refine' di_item ?r3zN ?r3zm ?r3zd ?r3zv ?_ ?r3zh6; (case r3zN => k_asm); (case r3zm => k_extra "mem"); (case r3zd => with_reducible assumption); (case r3zv => with_reducible assumption); (case r3zh6 => rfl); k_whole; intro _) | (refine' ds_item ?r3zN ?r3zm ?r3zd ?r3zv ?_ ?r3zh6; (case r3zN => k_asm); (case r3zm => k_extra "mem"); (case r3zd => with_reducible assumption); (case r3zv => with_reducible assumption); (case r3zh6 => rfl); k_whole; intro _))))
  k_with "subscriptTail" => (k_extra "mysub")
  k_with "subscriptTail Name Constant ref int" => (k_extra "mysub")
  k_with "subscriptTail Name Name ref int" => (k_extra "mysub")
  k_with "subscriptTail Attribute Name Subscript Name Constant ref int" => (k_extra "mysub")
  k_with "getMethod ref" => (((with_reducible show wpAny _ _ (getMethod (Value.ref _) (PySem.Str.ofString "get") _) _ _ _); k_dflt (first | (refine' di_method ?r8zN ?r8zm ?r8zd ?_; (case r8zN => k_asm); (case r8zm => k_extra "mem"); (case r8zd => with_reducible assumption)) | (refine' ds_method ?r8zN ?r8zm ?r8zd ?_; (case r8zN => k_asm); (case r8zm => k_extra "mem"); (case r8zd => with_reducible assumption)))))
  k_with "call builtin:dict.get" => ((k_dflt (first | (refine' di_get ?r9zN ?r9zm ?r9zd ?r9zlo ?_; (case r9zN => k_asm); (case r9zm => k_extra "mem"); (case r9zd => with_reducible assumption); (case r9zlo => with_reducible assumption)) | (refine' ds_get ?r9zN ?r9zm ?r9zd ?r9zlo ?_; (case r9zN => k_asm); (case r9zm => k_extra "mem"); (case r9zd => with_reducible assumption); (case r9zlo => with_reducible assumption))); intro _))
  k_with "compareOp NotIn int ref" => ((k_dflt (refine' di_notin2 ?r10zN ?r10zm ?r10zd ?r10zlo ?_ ?_; (case r10zN => k_asm); (case r10zm => k_extra "mem"); (case r10zd => with_reducible assumption); (case r10zlo => with_reducible assumption)); intros))
  k_with "ite" => (with_reducible first | refine ite_t ?_ | refine ite_f ?_ | (refine' ite_bt ?r11zh ?_; (case r11zh => assumption)) | (refine' ite_bf ?r11zh ?_; (case r11zh => assumption)))
  k_with "opAt" => (first | with_reducible assumption | (refine' OpAt.mono ?r12zs ?r12zh; (case r12zh => with_reducible assumption); (case r12zs => k_extra "sub")) | (refine' OpAt.t ?r12zq; (case r12zq => k_extra "mem")) | (refine' OpAt.a ?r12zq; (case r12zq => k_extra "mem")) | (refine' OpAt.y ?r12zq; (case r12zq => k_extra "mem")) | (refine' OpAt.x ?r12zq; (case r12zq => k_extra "mem")))
  k_with "units" => (first | exact un1 (by with_reducible assumption) rfl | exact un0 (by with_reducible assumption) rfl | exact un2 (by with_reducible assumption) rfl | (simp only [units_in1, units_deeper, Around.mark_units, units_caller] at *; omega))
  k_with "compareOp Eq ref ref" => ((k_dflt (refine' op_eq ?r14zN ?r14za ?r14zb ?r14zu ?_; (case r14zN => k_asm); (case r14za => k_extra "opAt"); (case r14zb => k_extra "opAt"); (case r14zu => k_extra "units"); k_whole)))
  k_with "compareOp NotEq ref ref" => ((k_dflt (refine' op_ne ?r15zN ?r15za ?r15zb ?r15zu ?_; (case r15zN => k_asm); (case r15za => k_extra "opAt"); (case r15zb => k_extra "opAt"); (case r15zu => k_extra "units"); k_whole)))
  k_with "ne" => (first | with_reducible assumption | with_reducible exact Ne.symm (by with_reducible assumption) | with_reducible exact lt_ne_1 (by with_reducible assumption) | with_reducible exact lt_ne_2 (by with_reducible assumption) | with_reducible exact lt_ne_3 (by with_reducible assumption) | with_reducible exact lt_ne_4 (by with_reducible assumption) | with_reducible exact lt_ne_5 (by with_reducible assumption) | with_reducible exact lt_ne_6 (by with_reducible assumption) | with_reducible exact lt_ne_7 (by with_reducible assumption) | with_reducible exact lt_ne_8 (by with_reducible assumption) | with_reducible exact Ne.symm (lt_ne_1 (by with_reducible assumption)) | with_reducible exact Ne.symm (lt_ne_2 (by with_reducible assumption)) | with_reducible exact Ne.symm (lt_ne_3 (by with_reducible assumption)) | with_reducible exact Ne.symm (lt_ne_4 (by with_reducible assumption)) | with_reducible exact Ne.symm (lt_ne_5 (by with_reducible assumption)) | with_reducible exact Ne.symm (lt_ne_6 (by with_reducible assumption)) | with_reducible exact Ne.symm (lt_ne_7 (by with_reducible assumption)) | with_reducible exact Ne.symm (lt_ne_8 (by with_reducible assumption)) | omega)
  k_with "allne" => (first | with_reducible assumption | (refine' ne_of_lt_all ?r17zz; (case r17zz => with_reducible assumption)) | (refine' ne_of_fresh ?r17zz ?r17zm; (case r17zz => with_reducible assumption); (case r17zm => k_extra "mem")) | exact List.forall_mem_nil _ | (refine' List.forall_mem_cons.mpr ⟨?r17za, ?r17zb⟩; (case r17za => ((try dsimp only); k_extra "ne")); (case r17zb => k_extra "allne")))
  k_with "updF" => (first | (refine' UpdF.head ?r18za; (case r18za => k_extra "allne")) | (refine' UpdF.tail ?r18za ?r18zb; (case r18za => ((try dsimp only); k_extra "ne")); (case r18zb => k_extra "updF")))
  k_with "setItem ref int" => ((k_dflt (first | (refine' di_set ?r19zF ?r19zN ?r19zU ?r19zd ?r19zz ?_; (case r19zF => k_asm); (case r19zN => k_asm); (case r19zU => k_extra "updF"); (case r19zd => with_reducible assumption); (case r19zz => omega)) | (refine' ds_set ?r19zF ?r19zN ?r19zU ?r19zd ?r19zz ?_; (case r19zF => k_asm); (case r19zN => k_asm); (case r19zU => k_extra "updF"); (case r19zd => with_reducible assumption); (case r19zz => omega))); intro zq_h' zq_o' zq_F' zq_N' zq_hd'; (try dsimp only at zq_N'); (try k_sweep)))
  k_with "ifline" => (first | ((with_reducible refine' if_ne ?r20zF ?r20zv ?r20zn ?_ ?r20zk ?r20zl ?r20zd); (case r20zF => k_asm); (case r20zv => with_unfolding_all rfl); (case r20zn => decide +kernel); (case r20zk => rfl); (case r20zl => rfl); (case r20zd => decide); intro _) | ((with_reducible refine' if_eq ?r20zF ?r20zv ?r20zn ?_ ?r20zk ?r20zl ?r20zd); (case r20zF => k_asm); (case r20zv => with_unfolding_all rfl); (case r20zn => decide +kernel); (case r20zk => rfl); (case r20zl => rfl); (case r20zd => decide); intro _; dsimp only) | ((with_reducible refine' ifo_ne ?r20zF ?r20zv ?r20zn ?_ ?r20zk ?r20zl ?r20zd); (case r20zF => k_asm); (case r20zv => with_unfolding_all rfl); (case r20zn => decide +kernel); (case r20zk => rfl); (case r20zl => rfl); (case r20zd => decide); intro _) | ((with_reducible refine' ifo_eq ?r20zF ?r20zv ?r20zn ?_ ?r20zk ?r20zl ?r20zd); (case r20zF => k_asm); (case r20zv => with_unfolding_all rfl); (case r20zn => decide +kernel); (case r20zk => rfl); (case r20zl => rfl); (case r20zd => decide); intro _; dsimp only))
  k_with "execs cons" => (((with_reducible show wpAny _ _ (execs (Stmt.If _ _ _ _ :: _) _) _ _ _); k_dflt (k_extra "ifline")))
  k_with "ltall" => (first | assumption | exact tb_ltOf (by assumption) | (refine' tb_ltOf (And.right ?r22zz); (case r22zz => assumption)) | (refine' tb_ltOf (And.right (And.right ?r22zz)); (case r22zz => assumption)) | (refine' tb_ltOf (And.right (And.right (And.right ?r22zz))); (case r22zz => assumption)))
  k_with "fresh" => (first | exact FreshOver.nil | (refine' FreshOver.cons ?r23za ?r23zb; (case r23za => ((try dsimp only); k_extra "ltall")); (case r23zb => k_extra "fresh")))
  k_with "pairs" => (first | exact All2.nil | (refine' All2.cons ?r24za ?r24zb; (case r24za => (refine' PairAt.mk ?r24zc; (case r24zc => k_extra "mem"))); (case r24zb => k_extra "pairs")))
  k_with "upd" => (first | (refine' upd_app ?r25za ?r25zb; (case r25za => k_extra "allne"); (case r25zb => k_extra "upd")) | (refine' Upd.head ?r25za; (case r25za => k_extra "allne")) | (refine' Upd.tail ?r25za ?r25zb; (case r25za => ((try dsimp only); k_extra "ne")); (case r25zb => k_extra "upd")))
  k_with "setAttr ref" => ((k_dflt (refine' set_dict ?r26zF ?r26zX ?r26zN ?r26zI ?r26zd ?r26zs ?r26zp ?r26zt ?r26zh ?r26zl ?r26ze ?r26zU ?r26zz ?_; (case r26zF => k_asm); (case r26zX => k_asm); (case r26zN => k_asm); (case r26zI => k_inst); (case r26zd => exact rfl); (case r26zs => k_is); (case r26zp => k_is); (case r26zt => k_is); (case r26zh => k_is); (case r26zl => k_get); (case r26ze => k_put); (case r26zU => k_extra "upd"); (case r26zz => exact Nat.le_of_ble_eq_true rfl)); intro zq_h' zq_F' zq_N'; (try k_sweep)))
  k_with "compareOp Eq" => ((k_dflt (refine' pt_eq ?r27zN ?r27za ?r27zb ?r27zu ?_; (case r27zN => k_asm); (case r27za => with_reducible assumption); (case r27zb => with_reducible assumption); (case r27zu => k_extra "units"); k_whole)))
  k_with "compareOp NotEq" => ((k_dflt (refine' pt_ne ?r28zN ?r28za ?r28zb ?r28zu ?_; (case r28zN => k_asm); (case r28za => with_reducible assumption); (case r28zb => with_reducible assumption); (case r28zu => k_extra "units"); k_whole)))
  k_with "exec While Compare cons nil" => (first | ((k_dflt (k_extra "while")); (all_goals ((try ((try k_unmd); k_unfold; clear gG)); (try k_unmd); (try k_fold)))) | (k_here; (try k_fold); k_dflt (refine whl_start 100 ?_)))
  k_with "call builtin:isinstance" => ((k_dflt (first | (refine' isi_tup ?r30zF ?r30zX ?r30zN ?r30zm ?_; (case r30zF => k_asm); (case r30zX => k_asm); (case r30zN => k_asm); (case r30zm => k_extra "mem")) | (refine' isi_int ?r30zF ?r30zX ?r30zN ?_; (case r30zF => k_asm); (case r30zX => k_asm); (case r30zN => k_asm))); intro _))
  k_with "eval Name" => (((with_reducible refine' ldq ?r31zF ?r31zv ?r31zk ?r31zl ?r31zd ?_); (case r31zF => with_reducible assumption); (case r31zl => decide +kernel); (case r31zd => decide +kernel); (case r31zv => k_dflt (first | with_reducible assumption | exact @rfl _ (some _) | assumption)); (case r31zk => exact rfl)))
  k_with "TurnPost" => ((first | (with_reducible refine TurnPost.retI ?_) | (with_reducible refine TurnPost.nextI ?_)))
  k_with "exec For" => (((rename Fr _ _ _ _ => zq_lF'); (with_unfolding_all refine' For_invVF zq_lF' ?r33zk1 ?r33zk2 ?_; (case r33zk1 => exact rfl); (case r33zk2 => exact rfl); k_whole)))
  k_with "exec For Name Attribute cons nil" => (walk_at "exec For")
  k_with "exec For Name Name cons nil" => (walk_at "exec For")
  k_with "exec For Name Call cons nil" => (walk_at "exec For")
  k_with "rowAt" => (with_reducible assumption)
  k_with "depth" => (first | exact dp1 (by with_reducible assumption) rfl | exact dp0 (by with_reducible assumption) rfl | exact dp2 (by with_reducible assumption) rfl | (simp only [depth_under_make, depth_under_kw, depth_in1, depth_deeper, depth_caller] at *; omega))
  k_with "exec If" => (first | k_dflt (k_extra "if") | ((with_reducible refine wpAny_If ?_); (try dsimp only)))
  k_with "exec If Compare cons nil" => (walk_at "exec If")
  k_with "exec If BoolOp cons nil" => (walk_at "exec If")
  k_with "exec If Call cons nil" => (walk_at "exec If")
  k_with "exec If UnaryOp cons nil" => (walk_at "exec If")
  k_with "exec If Compare cons cons" => (walk_at "exec If")
  k_with "exec If BoolOp cons cons" => (walk_at "exec If")
  k_with "eval Call" => (((fail_if_success (with_reducible show wpAny _ _ (eval (Expr.Call (Expr.Name (PySem.Str.ofString "range") _) _ _ _) _) _ _ _)); (with_reducible show wpAny _ _ (eval (Expr.Call (Expr.Name _ _) _ _ _) _) _ _ _); k_dflt (refine Call_ ?_)))
  k_with "eval Call Attribute" => ((k_dflt (refine MethodCall_ ?_)))
  k_with "handled" => (first | assumption | exact rfl)
  k_with "frames" => (first | exact rfl | (refine' frames_deeper ?r49zz; (case r49zz => assumption)))
  k_with "pyIter ref" => (((k_dflt (k_extra "loop")); (all_goals ((try ((try k_unmd); k_unfold; clear gG)); (try dsimp only); (try k_unmd); (try k_fold)))))
  k_with "call ref" => (k_dflt (k_extra "call"))
  k_with "sub" => (first | with_reducible assumption | with_reducible exact sub_refl | (with_reducible refine sub_cons ?_; k_extra "sub") | (with_reducible refine sub_app ?_; k_extra "sub"))
  k_with "call builtin:list.append" => ((k_dflt (refine' app_l ?r53zF ?r53zN ?r53zU ?r53zz ?_; (case r53zF => k_asm); (case r53zN => k_asm); (case r53zU => k_extra "upd"); (case r53zz => exact Nat.le_of_ble_eq_true rfl)); intro zq_h' zq_F' zq_N'; (try dsimp only [List.cons_append, List.nil_append] at zq_N'); (try k_sweep)))
  k_with "compareOp In ref ref" => ((k_dflt (first | (refine' in_ops0 ?r54zN ?r54zl ?r54zo ?r54zu ?_; (case r54zN => k_asm); (case r54zl => k_extra "mem"); (case r54zo => k_extra "opAt"); (case r54zu => k_extra "units")) | (refine' in_ops1 ?r54zN ?r54zl ?r54zv ?r54zo ?r54zu ?_; (case r54zN => k_asm); (case r54zl => k_extra "mem"); (case r54zv => k_extra "opAt"); (case r54zo => k_extra "opAt"); (case r54zu => k_extra "units")))))
  k_with "assign Tuple" => ((k_dflt (refine' unpackN_ ?r55zF ?r55zN ?r55zT ?r55zh ?r55z2 ?r55z3 ?_; (case r55zF => k_asm); (case r55zN => k_asm); (case r55zT => (refine' News.isTup ?r55zy1 ?r55zy2; (case r55zy1 => k_asm); (case r55zy2 => k_extra "mem"))); (case r55zh => k_extra "handled"); (case r55z2 => exact rfl); (case r55z3 => exact rfl)); intro zq_h' zq_F' zq_N'; (try k_sweep)))
  k_with "WPost" => ((first | (with_reducible refine WPost.retI ?_) | (with_reducible refine WPost.nextI ?_)))
  k_with "WhlIf" => (((first | (refine' WhlIf.yes ?r57zz ?_; (case r57zz => (refine decide_eq_true ?_; omega))) | (refine' WhlIf.no ?r57zz ?_; (case r57zz => (refine decide_eq_false ?_; omega)))); (try dsimp only); (try k_unmd); (try k_fold)))
  k_with "call builtin:len" => ((k_dflt (refine' len_l ?r58zN ?r58zm ?r58zz ?_; (case r58zN => k_asm); (case r58zm => k_extra "mem"); (case r58zz => first | exact Nat.le_of_ble_eq_true rfl | omega)); intro _ _))
  k_with "loadName" => (((with_reducible refine' ldnq ?r59zF ?r59zv ?r59zk ?r59zl ?_); (case r59zF => with_reducible assumption); (case r59zl => decide +kernel); (case r59zv => k_dflt (first | with_reducible assumption | exact @rfl _ (some _) | assumption)); (case r59zk => exact rfl)))
  k_with "kv" => (with_reducible first | exact kv_held | exact kv_temps | exact kv_given | exact kv_out | exact kv_count)
  k_with "stitem" => ((k_dflt (refine' st_item ?r61zN ?r61zm ?r61zd ?r61zv ?_ ?r61zh6; (case r61zN => k_asm); (case r61zm => k_extra "mem"); (case r61zd => with_reducible assumption); (case r61zv => k_extra "kv"); (case r61zh6 => with_unfolding_all rfl))))
  k_with "subscriptTail Name Constant ref str" => (k_extra "stitem")
  k_with "call type:range" => ((k_dflt (first | (refine' range1_rows ?r63zF ?r63zN ?_; (case r63zF => k_asm); (case r63zN => k_asm)) | (refine' range2_rows ?r63zF ?r63zN ?_; (case r63zF => k_asm); (case r63zN => k_asm))); intro zq_h' zq_tk' zq_t9 zq_u9 zq_w9 zq_R' zq_F' zq_N' zq_kp'; clear zq_kp'; (try k_sweep)))
  k_with "TurnPost" => ((with_reducible refine TurnPost.contI ?_))
  k_with "unpackItems ref" => ((k_dflt (refine' unpackItemsN_ ?r65zF ?r65zN ?r65zT ?r65zh ?r65z2 ?_; (case r65zF => k_asm); (case r65zN => k_asm); (case r65zT => (refine' News.isTup ?r65zy1 ?r65zy2; (case r65zy1 => k_asm); (case r65zy2 => k_extra "mem"))); (case r65zh => k_extra "handled"); (case r65z2 => exact rfl)); intro zq_h' zq_F' zq_N'; (try k_sweep)))
  k_with "storeName" => (((k_dflt (refine' store_let ?r66zF ?r66zN ?_ ?r66za ?r66zb; (case r66zF => k_asm); (case r66zN => k_asm); (case r66za => rfl); (case r66zb => rfl); k_whole)); (intro zq_mk zq_h' zq_F' zq_N'); (try k_sweep)))
  k_with "callWith" => (((with_reducible show wpAny _ _ (callWith _ (Value.builtin "list.append") _ _ _) _ _ _); (k_dflt (refine callWith_method1 ?_))))
  intro A env outer A₀ base h₀ L m s Q E hh hA hf hke hd hu B F X N T ret
  obtain ⟨x, dx, V, H, I, O, t1, t2, t3, t4, t5, tn, h1, h2, h3, h4, h5, oV, oH, oI, oO⟩ := a
  obtain ⟨dV, dH, dI, dO, loV, loH, loI, loO, n1, n2, n3, n4, n5, n6, n7, n8, n9, n10, n11, n12, n13, n14, n15⟩ := hS
  obtain ⟨k1, k2, k3, k4, k5, k6⟩ := hK
  obtain ⟨l1, l2, l3, l4⟩ := hn
  simp only [CA.fp, List.cons_append, List.nil_append] at *
  cases hok <;> cases ho <;> cases hr
  case y.y.y => exact absurd rfl (hy _)
  all_goals (
    refine wpAny_call ?_
    k_dflt (k_extra "my_enter")
    k_steps
    refine ret _ _ _ _ (by assumption) (by assumption) ⟨⟨x, dx, V, H, I, O, t1, t2, t3, t4, t5, tn, h1, h2, h3, h4, h5, _, _, _, _⟩, rfl, rfl, ?_, ?_, ?_⟩
    · constructor <;> assumption
    · constructor <;> assumption
    · constructor <;> dsimp only [CS.write] <;> first | omega | exact Nat.le_trans (put_length _ _ _) (by omega))
end
section
set_option maxRecDepth 100000 in
set_option maxHeartbeats 0 in
theorem roles_ct (c : Cx) {ia : Addr} {k : Kd} {vs : List Value} {tk : Tok} {n : Nat} {news : List (Addr × Obj)} (hm : (ia, tupOf (Value.str k.name tk :: vs).toArray n) ∈ news) (hl : vs.length = k.ar) :
    Ct c 21 3 100 [.ref ia] news (fun v news' => ∃ l n ps tl, v = .ref l ∧ news' = tl ++ news ∧ FreshOver tl news ∧ (l, listOf ps.toArray n) ∈ tl ∧
      All2 (PairAt tl) ps (k.roles.map fun r => (r.1, vs.getD r.2 .none))) := by
  unfold Ct PR
  k_fill
  k_with_none
  k_with "mem" => (first | with_reducible assumption | with_reducible exact List.mem_cons_self | (with_reducible refine List.mem_cons_of_mem _ ?_; k_extra "mem") | (with_reducible refine List.mem_append_left _ ?_; k_extra "mem") | (with_reducible refine List.mem_append_right _ ?_; k_extra "mem"))
  k_with "my_enter" => ((refine' code_def ?r2zk1 ?r2zk2 ?r2zk3 ?r2zk4 ?r2zk5 ?r2zkA ?r2zkF ?r2zkK ?r2zk6 ?r2zk7 ?r2zk8 ?r2zk9 ?r2zkB ?_ ?r2zc2 ?r2zc3 ?r2zc4 ?r2zc5; (case r2zkA => assumption); (case r2zkF => assumption); (case r2zkK => assumption); (case r2zk1 => k_asm); (case r2zk2 => k_asm); (case r2zk3 => k_asm); (case r2zk4 => k_asm); (case r2zk5 => k_asm); (case r2zk6 => k_is); (case r2zk7 => k_is); (case r2zk8 => omega); (case r2zk9 => exact BindsTo.of_eq rfl); (case r2zc5 => decide); (case r2zkB => exact locs rfl); (case r2zc2 => exact rfl); (case r2zc3 => exact rfl); (case r2zc4 => exact rfl); k_whole; intro zq_g' zq_L' zq_h' zq_FG' zq_F' zq_N' zq_B' zq_X' zq_T'; (try dsimp only); (try k_fold)))
  k_with "mysub" => (((with_reducible show wpAny _ _ (subscriptTail _ _ (Value.ref _) (Value.int _ _)) _ _ _); (with_unfolding_all first | (refine' sub_tup ?r3zN ?r3zm ?r3zi ?r3zj ?r3zx ?_ ?r3zh6; (case r3zN => k_asm); (case r3zm => k_extra "mem"); (case r3zi => exact rfl); (case r3zj => decide); (case r3zx => exact rfl); (case r3zh6 => rfl); k_whole) | (refine' sub_list ?r3zN ?r3zm ?r3zi ?r3zj ?r3zx ?_ ?r3zh6; (case r3zN => k_asm); (case r3zm => k_extra "mem"); (case r3zi => exact rfl); (case r3zj => omega); (case r3zx => assumption); (case r3zh6 => rfl); k_whole) | (refine' sub_list ?r3zN ?r3zm ?r3zi ?r3zj ?r3zx ?_ ?r3zh6; (case r3zN => k_asm); (case r3zm => k_extra "mem"); (case r3zi => exact rfl); (case r3zj => decide); (case r3zx => exact rfl); (case r3zh6 => rfl); k_whole) | (refine' di_item ?r3zN ?r3zm ?r3zd ?r3zv ?_ ?r3zh6; (case r3zN => k_asm); (case r3zm => k_extra "mem"); (case r3zd => with_reducible assumption); (case r3zv => with_reducible assumption); (case r3zh6 => rfl); k_whole; intro _) | (refine' ds_item ?r3zN ?r3zm ?r3zd ?r3zv ?_ ?r3zh6; (case r3zN => k_asm); (case r3zm => k_extra "mem"); (case r3zd => with_reducible assumption); (case r3zv => with_reducible assumption); (case r3zh6 => rfl); k_whole; intro _))))
  k_with "subscriptTail" => (k_extra "mysub")
  k_with "subscriptTail Name Constant ref int" => (k_extra "mysub")
  k_with "subscriptTail Name Name ref int" => (k_extra "mysub")
  k_with "subscriptTail Attribute Name Subscript Name Constant ref int" => (k_extra "mysub")
  k_with "getMethod ref" => (((with_reducible show wpAny _ _ (getMethod (Value.ref _) (PySem.Str.ofString "get") _) _ _ _); k_dflt (first | (refine' di_method ?r8zN ?r8zm ?r8zd ?_; (case r8zN => k_asm); (case r8zm => k_extra "mem"); (case r8zd => with_reducible assumption)) | (refine' ds_method ?r8zN ?r8zm ?r8zd ?_; (case r8zN => k_asm); (case r8zm => k_extra "mem"); (case r8zd => with_reducible assumption)))))
  k_with "call builtin:dict.get" => ((k_dflt (first | (refine' di_get ?r9zN ?r9zm ?r9zd ?r9zlo ?_; (case r9zN => k_asm); (case r9zm => k_extra "mem"); (case r9zd => with_reducible assumption); (case r9zlo => with_reducible assumption)) | (refine' ds_get ?r9zN ?r9zm ?r9zd ?r9zlo ?_; (case r9zN => k_asm); (case r9zm => k_extra "mem"); (case r9zd => with_reducible assumption); (case r9zlo => with_reducible assumption))); intro _))
  k_with "compareOp NotIn int ref" => ((k_dflt (refine' di_notin2 ?r10zN ?r10zm ?r10zd ?r10zlo ?_ ?_; (case r10zN => k_asm); (case r10zm => k_extra "mem"); (case r10zd => with_reducible assumption); (case r10zlo => with_reducible assumption)); intros))
  k_with "ite" => (with_reducible first | refine ite_t ?_ | refine ite_f ?_ | (refine' ite_bt ?r11zh ?_; (case r11zh => assumption)) | (refine' ite_bf ?r11zh ?_; (case r11zh => assumption)))
  k_with "opAt" => (first | with_reducible assumption | (refine' OpAt.mono ?r12zs ?r12zh; (case r12zh => with_reducible assumption); (case r12zs => k_extra "sub")) | (refine' OpAt.t ?r12zq; (case r12zq => k_extra "mem")) | (refine' OpAt.a ?r12zq; (case r12zq => k_extra "mem")) | (refine' OpAt.y ?r12zq; (case r12zq => k_extra "mem")) | (refine' OpAt.x ?r12zq; (case r12zq => k_extra "mem")))
  k_with "units" => (first | exact un1 (by with_reducible assumption) rfl | exact un0 (by with_reducible assumption) rfl | exact un2 (by with_reducible assumption) rfl | (simp only [units_in1, units_deeper, Around.mark_units, units_caller] at *; omega))
  k_with "compareOp Eq ref ref" => ((k_dflt (refine' op_eq ?r14zN ?r14za ?r14zb ?r14zu ?_; (case r14zN => k_asm); (case r14za => k_extra "opAt"); (case r14zb => k_extra "opAt"); (case r14zu => k_extra "units"); k_whole)))
  k_with "compareOp NotEq ref ref" => ((k_dflt (refine' op_ne ?r15zN ?r15za ?r15zb ?r15zu ?_; (case r15zN => k_asm); (case r15za => k_extra "opAt"); (case r15zb => k_extra "opAt"); (case r15zu => k_extra "units"); k_whole)))
  k_with "ne" => (first | with_reducible assumption | with_reducible exact Ne.symm (by with_reducible assumption) | with_reducible exact lt_ne_1 (by with_reducible assumption) | with_reducible exact lt_ne_2 (by with_reducible assumption) | with_reducible exact lt_ne_3 (by with_reducible assumption) | with_reducible exact lt_ne_4 (by with_reducible assumption) | with_reducible exact lt_ne_5 (by with_reducible assumption) | with_reducible exact lt_ne_6 (by with_reducible assumption) | with_reducible exact lt_ne_7 (by with_reducible assumption) | with_reducible exact lt_ne_8 (by with_reducible assumption) | with_reducible exact Ne.symm (lt_ne_1 (by with_reducible assumption)) | with_reducible exact Ne.symm (lt_ne_2 (by with_reducible assumption)) | with_reducible exact Ne.symm (lt_ne_3 (by with_reducible assumption)) | with_reducible exact Ne.symm (lt_ne_4 (by with_reducible assumption)) | with_reducible exact Ne.symm (lt_ne_5 (by with_reducible assumption)) | with_reducible exact Ne.symm (lt_ne_6 (by with_reducible assumption)) | with_reducible exact Ne.symm (lt_ne_7 (by with_reducible assumption)) | with_reducible exact Ne.symm (lt_ne_8 (by with_reducible assumption)) | omega)
  k_with "allne" => (first | with_reducible assumption | (refine' ne_of_lt_all ?r17zz; (case r17zz => with_reducible assumption)) | (refine' ne_of_fresh ?r17zz ?r17zm; (case r17zz => with_reducible assumption); (case r17zm => k_extra "mem")) | exact List.forall_mem_nil _ | (refine' List.forall_mem_cons.mpr ⟨?r17za, ?r17zb⟩; (case r17za => ((try dsimp only); k_extra "ne")); (case r17zb => k_extra "allne")))
  k_with "updF" => (first | (refine' UpdF.head ?r18za; (case r18za => k_extra "allne")) | (refine' UpdF.tail ?r18za ?r18zb; (case r18za => ((try dsimp only); k_extra "ne")); (case r18zb => k_extra "updF")))
  k_with "setItem ref int" => ((k_dflt (first | (refine' di_set ?r19zF ?r19zN ?r19zU ?r19zd ?r19zz ?_; (case r19zF => k_asm); (case r19zN => k_asm); (case r19zU => k_extra "updF"); (case r19zd => with_reducible assumption); (case r19zz => omega)) | (refine' ds_set ?r19zF ?r19zN ?r19zU ?r19zd ?r19zz ?_; (case r19zF => k_asm); (case r19zN => k_asm); (case r19zU => k_extra "updF"); (case r19zd => with_reducible assumption); (case r19zz => omega))); intro zq_h' zq_o' zq_F' zq_N' zq_hd'; (try dsimp only at zq_N'); (try k_sweep)))
  k_with "ifline" => (first | ((with_reducible refine' if_ne ?r20zF ?r20zv ?r20zn ?_ ?r20zk ?r20zl ?r20zd); (case r20zF => k_asm); (case r20zv => with_unfolding_all rfl); (case r20zn => decide +kernel); (case r20zk => rfl); (case r20zl => rfl); (case r20zd => decide); intro _) | ((with_reducible refine' if_eq ?r20zF ?r20zv ?r20zn ?_ ?r20zk ?r20zl ?r20zd); (case r20zF => k_asm); (case r20zv => with_unfolding_all rfl); (case r20zn => decide +kernel); (case r20zk => rfl); (case r20zl => rfl); (case r20zd => decide); intro _; dsimp only) | ((with_reducible refine' ifo_ne ?r20zF ?r20zv ?r20zn ?_ ?r20zk ?r20zl ?r20zd); (case r20zF => k_asm); (case r20zv => with_unfolding_all rfl); (case r20zn => decide +kernel); (case r20zk => rfl); (case r20zl => rfl); (case r20zd => decide); intro _) | ((with_reducible refine' ifo_eq ?r20zF ?r20zv ?r20zn ?_ ?r20zk ?r20zl ?r20zd); (case r20zF => k_asm); (case r20zv => with_unfolding_all rfl); (case r20zn => decide +kernel); (case r20zk => rfl); (case r20zl => rfl); (case r20zd => decide); intro _; dsimp only))
  k_with "execs cons" => (((with_reducible show wpAny _ _ (execs (Stmt.If _ _ _ _ :: _) _) _ _ _); k_dflt (k_extra "ifline")))
  k_with "ltall" => (first | assumption | exact tb_ltOf (by assumption) | (refine' tb_ltOf (And.right ?r22zz); (case r22zz => assumption)) | (refine' tb_ltOf (And.right (And.right ?r22zz)); (case r22zz => assumption)) | (refine' tb_ltOf (And.right (And.right (And.right ?r22zz))); (case r22zz => assumption)))
  k_with "fresh" => (first | exact FreshOver.nil | (refine' FreshOver.cons ?r23za ?r23zb; (case r23za => ((try dsimp only); k_extra "ltall")); (case r23zb => k_extra "fresh")))
  k_with "pairs" => (first | exact All2.nil | (refine' All2.cons ?r24za ?r24zb; (case r24za => (refine' PairAt.mk ?r24zc; (case r24zc => k_extra "mem"))); (case r24zb => k_extra "pairs")))
  k_with "upd" => (first | (refine' upd_app ?r25za ?r25zb; (case r25za => k_extra "allne"); (case r25zb => k_extra "upd")) | (refine' Upd.head ?r25za; (case r25za => k_extra "allne")) | (refine' Upd.tail ?r25za ?r25zb; (case r25za => ((try dsimp only); k_extra "ne")); (case r25zb => k_extra "upd")))
  k_with "setAttr ref" => ((k_dflt (refine' set_dict ?r26zF ?r26zX ?r26zN ?r26zI ?r26zd ?r26zs ?r26zp ?r26zt ?r26zh ?r26zl ?r26ze ?r26zU ?r26zz ?_; (case r26zF => k_asm); (case r26zX => k_asm); (case r26zN => k_asm); (case r26zI => k_inst); (case r26zd => exact rfl); (case r26zs => k_is); (case r26zp => k_is); (case r26zt => k_is); (case r26zh => k_is); (case r26zl => k_get); (case r26ze => k_put); (case r26zU => k_extra "upd"); (case r26zz => exact Nat.le_of_ble_eq_true rfl)); intro zq_h' zq_F' zq_N'; (try k_sweep)))
  k_with "compareOp Eq" => ((k_dflt (refine' pt_eq ?r27zN ?r27za ?r27zb ?r27zu ?_; (case r27zN => k_asm); (case r27za => with_reducible assumption); (case r27zb => with_reducible assumption); (case r27zu => k_extra "units"); k_whole)))
  k_with "compareOp NotEq" => ((k_dflt (refine' pt_ne ?r28zN ?r28za ?r28zb ?r28zu ?_; (case r28zN => k_asm); (case r28za => with_reducible assumption); (case r28zb => with_reducible assumption); (case r28zu => k_extra "units"); k_whole)))
  k_with "exec While Compare cons nil" => (first | ((k_dflt (k_extra "while")); (all_goals ((try ((try k_unmd); k_unfold; clear gG)); (try k_unmd); (try k_fold)))) | (k_here; (try k_fold); k_dflt (refine whl_start 100 ?_)))
  k_with "call builtin:isinstance" => ((k_dflt (first | (refine' isi_tup ?r30zF ?r30zX ?r30zN ?r30zm ?_; (case r30zF => k_asm); (case r30zX => k_asm); (case r30zN => k_asm); (case r30zm => k_extra "mem")) | (refine' isi_int ?r30zF ?r30zX ?r30zN ?_; (case r30zF => k_asm); (case r30zX => k_asm); (case r30zN => k_asm))); intro _))
  k_with "eval Name" => (((with_reducible refine' ldq ?r31zF ?r31zv ?r31zk ?r31zl ?r31zd ?_); (case r31zF => with_reducible assumption); (case r31zl => decide +kernel); (case r31zd => decide +kernel); (case r31zv => k_dflt (first | with_reducible assumption | exact @rfl _ (some _) | assumption)); (case r31zk => exact rfl)))
  k_with "TurnPost" => ((first | (with_reducible refine TurnPost.retI ?_) | (with_reducible refine TurnPost.nextI ?_)))
  k_with "exec For" => (((rename Fr _ _ _ _ => zq_lF'); (with_unfolding_all refine' For_invVF zq_lF' ?r33zk1 ?r33zk2 ?_; (case r33zk1 => exact rfl); (case r33zk2 => exact rfl); k_whole)))
  k_with "exec For Name Attribute cons nil" => (walk_at "exec For")
  k_with "exec For Name Name cons nil" => (walk_at "exec For")
  k_with "exec For Name Call cons nil" => (walk_at "exec For")
  k_with "rowAt" => (with_reducible assumption)
  k_with "depth" => (first | exact dp1 (by with_reducible assumption) rfl | exact dp0 (by with_reducible assumption) rfl | exact dp2 (by with_reducible assumption) rfl | (simp only [depth_under_make, depth_under_kw, depth_in1, depth_deeper, depth_caller] at *; omega))
  k_with "exec If" => (first | k_dflt (k_extra "if") | ((with_reducible refine wpAny_If ?_); (try dsimp only)))
  k_with "exec If Compare cons nil" => (walk_at "exec If")
  k_with "exec If BoolOp cons nil" => (walk_at "exec If")
  k_with "exec If Call cons nil" => (walk_at "exec If")
  k_with "exec If UnaryOp cons nil" => (walk_at "exec If")
  k_with "exec If Compare cons cons" => (walk_at "exec If")
  k_with "exec If BoolOp cons cons" => (walk_at "exec If")
  k_with "eval Call" => (((fail_if_success (with_reducible show wpAny _ _ (eval (Expr.Call (Expr.Name (PySem.Str.ofString "range") _) _ _ _) _) _ _ _)); (with_reducible show wpAny _ _ (eval (Expr.Call (Expr.Name _ _) _ _ _) _) _ _ _); k_dflt (refine Call_ ?_)))
  k_with "eval Call Attribute" => ((k_dflt (refine MethodCall_ ?_)))
  k_with "handled" => (first | assumption | exact rfl)
  k_with "frames" => (first | exact rfl | (refine' frames_deeper ?r49zz; (case r49zz => assumption)))
  k_with "pyIter ref" => (((k_dflt (k_extra "loop")); (all_goals ((try ((try k_unmd); k_unfold; clear gG)); (try dsimp only); (try k_unmd); (try k_fold)))))
  k_with "call ref" => (k_dflt (k_extra "call"))
  k_with "sub" => (first | with_reducible assumption | with_reducible exact sub_refl | (with_reducible refine sub_cons ?_; k_extra "sub") | (with_reducible refine sub_app ?_; k_extra "sub"))
  k_with "call builtin:list.append" => ((k_dflt (refine' app_l ?r53zF ?r53zN ?r53zU ?r53zz ?_; (case r53zF => k_asm); (case r53zN => k_asm); (case r53zU => k_extra "upd"); (case r53zz => exact Nat.le_of_ble_eq_true rfl)); intro zq_h' zq_F' zq_N'; (try dsimp only [List.cons_append, List.nil_append] at zq_N'); (try k_sweep)))
  k_with "compareOp In ref ref" => ((k_dflt (first | (refine' in_ops0 ?r54zN ?r54zl ?r54zo ?r54zu ?_; (case r54zN => k_asm); (case r54zl => k_extra "mem"); (case r54zo => k_extra "opAt"); (case r54zu => k_extra "units")) | (refine' in_ops1 ?r54zN ?r54zl ?r54zv ?r54zo ?r54zu ?_; (case r54zN => k_asm); (case r54zl => k_extra "mem"); (case r54zv => k_extra "opAt"); (case r54zo => k_extra "opAt"); (case r54zu => k_extra "units")))))
  k_with "assign Tuple" => ((k_dflt (refine' unpackN_ ?r55zF ?r55zN ?r55zT ?r55zh ?r55z2 ?r55z3 ?_; (case r55zF => k_asm); (case r55zN => k_asm); (case r55zT => (refine' News.isTup ?r55zy1 ?r55zy2; (case r55zy1 => k_asm); (case r55zy2 => k_extra "mem"))); (case r55zh => k_extra "handled"); (case r55z2 => exact rfl); (case r55z3 => exact rfl)); intro zq_h' zq_F' zq_N'; (try k_sweep)))
  k_with "WPost" => ((first | (with_reducible refine WPost.retI ?_) | (with_reducible refine WPost.nextI ?_)))
  k_with "WhlIf" => (((first | (refine' WhlIf.yes ?r57zz ?_; (case r57zz => (refine decide_eq_true ?_; omega))) | (refine' WhlIf.no ?r57zz ?_; (case r57zz => (refine decide_eq_false ?_; omega)))); (try dsimp only); (try k_unmd); (try k_fold)))
  k_with "call builtin:len" => ((k_dflt (refine' len_l ?r58zN ?r58zm ?r58zz ?_; (case r58zN => k_asm); (case r58zm => k_extra "mem"); (case r58zz => first | exact Nat.le_of_ble_eq_true rfl | omega)); intro _ _))
  k_with "loadName" => (((with_reducible refine' ldnq ?r59zF ?r59zv ?r59zk ?r59zl ?_); (case r59zF => with_reducible assumption); (case r59zl => decide +kernel); (case r59zv => k_dflt (first | with_reducible assumption | exact @rfl _ (some _) | assumption)); (case r59zk => exact rfl)))
  k_with "kv" => (with_reducible first | exact kv_held | exact kv_temps | exact kv_given | exact kv_out | exact kv_count)
  k_with "stitem" => ((k_dflt (refine' st_item ?r61zN ?r61zm ?r61zd ?r61zv ?_ ?r61zh6; (case r61zN => k_asm); (case r61zm => k_extra "mem"); (case r61zd => with_reducible assumption); (case r61zv => k_extra "kv"); (case r61zh6 => with_unfolding_all rfl))))
  k_with "subscriptTail Name Constant ref str" => (k_extra "stitem")
  k_with "call type:range" => ((k_dflt (first | (refine' range1_rows ?r63zF ?r63zN ?_; (case r63zF => k_asm); (case r63zN => k_asm)) | (refine' range2_rows ?r63zF ?r63zN ?_; (case r63zF => k_asm); (case r63zN => k_asm))); intro zq_h' zq_tk' zq_t9 zq_u9 zq_w9 zq_R' zq_F' zq_N' zq_kp'; clear zq_kp'; (try k_sweep)))
  k_with "TurnPost" => ((with_reducible refine TurnPost.contI ?_))
  k_with "unpackItems ref" => ((k_dflt (refine' unpackItemsN_ ?r65zF ?r65zN ?r65zT ?r65zh ?r65z2 ?_; (case r65zF => k_asm); (case r65zN => k_asm); (case r65zT => (refine' News.isTup ?r65zy1 ?r65zy2; (case r65zy1 => k_asm); (case r65zy2 => k_extra "mem"))); (case r65zh => k_extra "handled"); (case r65z2 => exact rfl)); intro zq_h' zq_F' zq_N'; (try k_sweep)))
  k_with "storeName" => (((k_dflt (refine' store_let ?r66zF ?r66zN ?_ ?r66za ?r66zb; (case r66zF => k_asm); (case r66zN => k_asm); (case r66za => rfl); (case r66zb => rfl); k_whole)); (intro zq_mk zq_h' zq_F' zq_N'); (try k_sweep)))
  k_with "callWith" => (((with_reducible show wpAny _ _ (callWith _ (Value.builtin "list.append") _ _ _) _ _ _); (k_dflt (refine callWith_method1 ?_))))
  intro A env outer A₀ base h₀ L m s Q E hh hA hf hke hd hu B F X N T ret
  cases k
  all_goals (first
    | (obtain ⟨v1, v2, rfl⟩ := len2 hl)
    | (obtain ⟨v1, rfl⟩ := len1 hl))
  all_goals (
    clear hl
    dsimp only [Kd.name] at hm
    refine wpAny_call ?_
    k_dflt (k_extra "my_enter")
    k_steps
    (first
      | refine ret _ _ _ _ (by assumption) (by assumption) ⟨_, _, _, [_, _, _], rfl, rfl, ?_, List.mem_cons_self, ?_⟩
      | refine ret _ _ _ _ (by assumption) (by assumption) ⟨_, _, _, [_, _], rfl, rfl, ?_, List.mem_cons_self, ?_⟩
      | refine ret _ _ _ _ (by assumption) (by assumption) ⟨_, _, _, [_], rfl, rfl, ?_, List.mem_cons_self, ?_⟩)
    · k_extra "fresh"
    · simp only [Kd.roles, List.map_cons, List.map_nil, List.getD_cons_succ, List.getD_cons_zero, List.cons_append, List.nil_append]
      k_extra "pairs")
end
section
set_option maxRecDepth 100000 in
set_option maxHeartbeats 0 in
theorem ends_call (c : Cx) {ia : Addr} {vs : List Value} {tk : Tok} {n : Nat} {news : List (Addr × Obj)} (hm : (ia, tupOf (Value.str (PySem.Str.ofString "call") tk :: vs).toArray n) ∈ news) :
    Ct c 28 3 100 [.ref ia] news (fun v news' => v = .bool true ∧ news' = news) := by
  unfold Ct PR
  k_fill
  k_with_none
  k_with "mem" => (first | with_reducible assumption | with_reducible exact List.mem_cons_self | (with_reducible refine List.mem_cons_of_mem _ ?_; k_extra "mem") | (with_reducible refine List.mem_append_left _ ?_; k_extra "mem") | (with_reducible refine List.mem_append_right _ ?_; k_extra "mem"))
  k_with "my_enter" => ((refine' code_def ?r2zk1 ?r2zk2 ?r2zk3 ?r2zk4 ?r2zk5 ?r2zkA ?r2zkF ?r2zkK ?r2zk6 ?r2zk7 ?r2zk8 ?r2zk9 ?r2zkB ?_ ?r2zc2 ?r2zc3 ?r2zc4 ?r2zc5; (case r2zkA => assumption); (case r2zkF => assumption); (case r2zkK => assumption); (case r2zk1 => k_asm); (case r2zk2 => k_asm); (case r2zk3 => k_asm); (case r2zk4 => k_asm); (case r2zk5 => k_asm); (case r2zk6 => k_is); (case r2zk7 => k_is); (case r2zk8 => omega); (case r2zk9 => exact BindsTo.of_eq rfl); (case r2zc5 => decide); (case r2zkB => exact locs rfl); (case r2zc2 => exact rfl); (case r2zc3 => exact rfl); (case r2zc4 => exact rfl); k_whole; intro zq_g' zq_L' zq_h' zq_FG' zq_F' zq_N' zq_B' zq_X' zq_T'; (try dsimp only); (try k_fold)))
  k_with "mysub" => (((with_reducible show wpAny _ _ (subscriptTail _ _ (Value.ref _) (Value.int _ _)) _ _ _); (with_unfolding_all first | (refine' sub_tup ?r3zN ?r3zm ?r3zi ?r3zj ?r3zx ?_ ?r3zh6; (case r3zN => k_asm); (case r3zm => k_extra "mem"); (case r3zi => exact rfl); (case r3zj => decide); (case r3zx => exact rfl); (case r3zh6 => rfl); k_whole) | (refine' sub_list ?r3zN ?r3zm ?r3zi ?r3zj ?r3zx ?_ ?r3zh6; (case r3zN => k_asm); (case r3zm => k_extra "mem"); (case r3zi => exact rfl); (case r3zj => omega); (case r3zx => assumption); (case r3zh6 => rfl); k_whole) | (refine' sub_list ?r3zN ?r3zm ?r3zi ?r3zj ?r3zx ?_ ?r3zh6; (case r3zN => k_asm); (case r3zm => k_extra "mem"); (case r3zi => exact rfl); (case r3zj => decide); (case r3zx => exact rfl); (case r3zh6 => rfl); k_whole) | (refine' di_item ?r3zN ?r3zm ?r3zd ?r3zv ?_ ?r3zh6; (case r3zN => k_asm); (case r3zm => k_extra "mem"); (case r3zd => with_reducible assumption); (case r3zv => with_reducible assumption); (case r3zh6 => rfl); k_whole; intro _) | (refine' ds_item ?r3zN ?r3zm ?r3zd ?r3zv ?_ ?r3zh6; (case r3zN => k_asm); (case r3zm => k_extra "mem"); (case r3zd => with_reducible assumption); (case r3zv => with_reducible assumption); (case r3zh6 => rfl); k_whole; intro _))))
  k_with "subscriptTail" => (k_extra "mysub")
  k_with "subscriptTail Name Constant ref int" => (k_extra "mysub")
  k_with "subscriptTail Name Name ref int" => (k_extra "mysub")
  k_with "subscriptTail Attribute Name Subscript Name Constant ref int" => (k_extra "mysub")
  k_with "getMethod ref" => (((with_reducible show wpAny _ _ (getMethod (Value.ref _) (PySem.Str.ofString "get") _) _ _ _); k_dflt (first | (refine' di_method ?r8zN ?r8zm ?r8zd ?_; (case r8zN => k_asm); (case r8zm => k_extra "mem"); (case r8zd => with_reducible assumption)) | (refine' ds_method ?r8zN ?r8zm ?r8zd ?_; (case r8zN => k_asm); (case r8zm => k_extra "mem"); (case r8zd => with_reducible assumption)))))
  k_with "call builtin:dict.get" => ((k_dflt (first | (refine' di_get ?r9zN ?r9zm ?r9zd ?r9zlo ?_; (case r9zN => k_asm); (case r9zm => k_extra "mem"); (case r9zd => with_reducible assumption); (case r9zlo => with_reducible assumption)) | (refine' ds_get ?r9zN ?r9zm ?r9zd ?r9zlo ?_; (case r9zN => k_asm); (case r9zm => k_extra "mem"); (case r9zd => with_reducible assumption); (case r9zlo => with_reducible assumption))); intro _))
  k_with "compareOp NotIn int ref" => ((k_dflt (refine' di_notin2 ?r10zN ?r10zm ?r10zd ?r10zlo ?_ ?_; (case r10zN => k_asm); (case r10zm => k_extra "mem"); (case r10zd => with_reducible assumption); (case r10zlo => with_reducible assumption)); intros))
  k_with "ite" => (with_reducible first | refine ite_t ?_ | refine ite_f ?_ | (refine' ite_bt ?r11zh ?_; (case r11zh => assumption)) | (refine' ite_bf ?r11zh ?_; (case r11zh => assumption)))
  k_with "opAt" => (first | with_reducible assumption | (refine' OpAt.mono ?r12zs ?r12zh; (case r12zh => with_reducible assumption); (case r12zs => k_extra "sub")) | (refine' OpAt.t ?r12zq; (case r12zq => k_extra "mem")) | (refine' OpAt.a ?r12zq; (case r12zq => k_extra "mem")) | (refine' OpAt.y ?r12zq; (case r12zq => k_extra "mem")) | (refine' OpAt.x ?r12zq; (case r12zq => k_extra "mem")))
  k_with "units" => (first | exact un1 (by with_reducible assumption) rfl | exact un0 (by with_reducible assumption) rfl | exact un2 (by with_reducible assumption) rfl | (simp only [units_in1, units_deeper, Around.mark_units, units_caller] at *; omega))
  k_with "compareOp Eq ref ref" => ((k_dflt (refine' op_eq ?r14zN ?r14za ?r14zb ?r14zu ?_; (case r14zN => k_asm); (case r14za => k_extra "opAt"); (case r14zb => k_extra "opAt"); (case r14zu => k_extra "units"); k_whole)))
  k_with "compareOp NotEq ref ref" => ((k_dflt (refine' op_ne ?r15zN ?r15za ?r15zb ?r15zu ?_; (case r15zN => k_asm); (case r15za => k_extra "opAt"); (case r15zb => k_extra "opAt"); (case r15zu => k_extra "units"); k_whole)))
  k_with "ne" => (first | with_reducible assumption | with_reducible exact Ne.symm (by with_reducible assumption) | with_reducible exact lt_ne_1 (by with_reducible assumption) | with_reducible exact lt_ne_2 (by with_reducible assumption) | with_reducible exact lt_ne_3 (by with_reducible assumption) | with_reducible exact lt_ne_4 (by with_reducible assumption) | with_reducible exact lt_ne_5 (by with_reducible assumption) | with_reducible exact lt_ne_6 (by with_reducible assumption) | with_reducible exact lt_ne_7 (by with_reducible assumption) | with_reducible exact lt_ne_8 (by with_reducible assumption) | with_reducible exact Ne.symm (lt_ne_1 (by with_reducible assumption)) | with_reducible exact Ne.symm (lt_ne_2 (by with_reducible assumption)) | with_reducible exact Ne.symm (lt_ne_3 (by with_reducible assumption)) | with_reducible exact Ne.symm (lt_ne_4 (by with_reducible assumption)) | with_reducible exact Ne.symm (lt_ne_5 (by with_reducible assumption)) | with_reducible exact Ne.symm (lt_ne_6 (by with_reducible assumption)) | with_reducible exact Ne.symm (lt_ne_7 (by with_reducible assumption)) | with_reducible exact Ne.symm (lt_ne_8 (by with_reducible assumption)) | omega)
  k_with "allne" => (first | with_reducible assumption | (refine' ne_of_lt_all ?r17zz; (case r17zz => with_reducible assumption)) | (refine' ne_of_fresh ?r17zz ?r17zm; (case r17zz => with_reducible assumption); (case r17zm => k_extra "mem")) | exact List.forall_mem_nil _ | (refine' List.forall_mem_cons.mpr ⟨?r17za, ?r17zb⟩; (case r17za => ((try dsimp only); k_extra "ne")); (case r17zb => k_extra "allne")))
  k_with "updF" => (first | (refine' UpdF.head ?r18za; (case r18za => k_extra "allne")) | (refine' UpdF.tail ?r18za ?r18zb; (case r18za => ((try dsimp only); k_extra "ne")); (case r18zb => k_extra "updF")))
  k_with "setItem ref int" => ((k_dflt (first | (refine' di_set ?r19zF ?r19zN ?r19zU ?r19zd ?r19zz ?_; (case r19zF => k_asm); (case r19zN => k_asm); (case r19zU => k_extra "updF"); (case r19zd => with_reducible assumption); (case r19zz => omega)) | (refine' ds_set ?r19zF ?r19zN ?r19zU ?r19zd ?r19zz ?_; (case r19zF => k_asm); (case r19zN => k_asm); (case r19zU => k_extra "updF"); (case r19zd => with_reducible assumption); (case r19zz => omega))); intro zq_h' zq_o' zq_F' zq_N' zq_hd'; (try dsimp only at zq_N'); (try k_sweep)))
  k_with "ifline" => (first | ((with_reducible refine' if_ne ?r20zF ?r20zv ?r20zn ?_ ?r20zk ?r20zl ?r20zd); (case r20zF => k_asm); (case r20zv => with_unfolding_all rfl); (case r20zn => decide +kernel); (case r20zk => rfl); (case r20zl => rfl); (case r20zd => decide); intro _) | ((with_reducible refine' if_eq ?r20zF ?r20zv ?r20zn ?_ ?r20zk ?r20zl ?r20zd); (case r20zF => k_asm); (case r20zv => with_unfolding_all rfl); (case r20zn => decide +kernel); (case r20zk => rfl); (case r20zl => rfl); (case r20zd => decide); intro _; dsimp only) | ((with_reducible refine' ifo_ne ?r20zF ?r20zv ?r20zn ?_ ?r20zk ?r20zl ?r20zd); (case r20zF => k_asm); (case r20zv => with_unfolding_all rfl); (case r20zn => decide +kernel); (case r20zk => rfl); (case r20zl => rfl); (case r20zd => decide); intro _) | ((with_reducible refine' ifo_eq ?r20zF ?r20zv ?r20zn ?_ ?r20zk ?r20zl ?r20zd); (case r20zF => k_asm); (case r20zv => with_unfolding_all rfl); (case r20zn => decide +kernel); (case r20zk => rfl); (case r20zl => rfl); (case r20zd => decide); intro _; dsimp only))
  k_with "execs cons" => (((with_reducible show wpAny _ _ (execs (Stmt.If _ _ _ _ :: _) _) _ _ _); k_dflt (k_extra "ifline")))
  k_with "ltall" => (first | assumption | exact tb_ltOf (by assumption) | (refine' tb_ltOf (And.right ?r22zz); (case r22zz => assumption)) | (refine' tb_ltOf (And.right (And.right ?r22zz)); (case r22zz => assumption)) | (refine' tb_ltOf (And.right (And.right (And.right ?r22zz))); (case r22zz => assumption)))
  k_with "fresh" => (first | exact FreshOver.nil | (refine' FreshOver.cons ?r23za ?r23zb; (case r23za => ((try dsimp only); k_extra "ltall")); (case r23zb => k_extra "fresh")))
  k_with "pairs" => (first | exact All2.nil | (refine' All2.cons ?r24za ?r24zb; (case r24za => (refine' PairAt.mk ?r24zc; (case r24zc => k_extra "mem"))); (case r24zb => k_extra "pairs")))
  k_with "upd" => (first | (refine' upd_app ?r25za ?r25zb; (case r25za => k_extra "allne"); (case r25zb => k_extra "upd")) | (refine' Upd.head ?r25za; (case r25za => k_extra "allne")) | (refine' Upd.tail ?r25za ?r25zb; (case r25za => ((try dsimp only); k_extra "ne")); (case r25zb => k_extra "upd")))
  k_with "setAttr ref" => ((k_dflt (refine' set_dict ?r26zF ?r26zX ?r26zN ?r26zI ?r26zd ?r26zs ?r26zp ?r26zt ?r26zh ?r26zl ?r26ze ?r26zU ?r26zz ?_; (case r26zF => k_asm); (case r26zX => k_asm); (case r26zN => k_asm); (case r26zI => k_inst); (case r26zd => exact rfl); (case r26zs => k_is); (case r26zp => k_is); (case r26zt => k_is); (case r26zh => k_is); (case r26zl => k_get); (case r26ze => k_put); (case r26zU => k_extra "upd"); (case r26zz => exact Nat.le_of_ble_eq_true rfl)); intro zq_h' zq_F' zq_N'; (try k_sweep)))
  k_with "compareOp Eq" => ((k_dflt (refine' pt_eq ?r27zN ?r27za ?r27zb ?r27zu ?_; (case r27zN => k_asm); (case r27za => with_reducible assumption); (case r27zb => with_reducible assumption); (case r27zu => k_extra "units"); k_whole)))
  k_with "compareOp NotEq" => ((k_dflt (refine' pt_ne ?r28zN ?r28za ?r28zb ?r28zu ?_; (case r28zN => k_asm); (case r28za => with_reducible assumption); (case r28zb => with_reducible assumption); (case r28zu => k_extra "units"); k_whole)))
  k_with "exec While Compare cons nil" => (first | ((k_dflt (k_extra "while")); (all_goals ((try ((try k_unmd); k_unfold; clear gG)); (try k_unmd); (try k_fold)))) | (k_here; (try k_fold); k_dflt (refine whl_start 100 ?_)))
  k_with "call builtin:isinstance" => ((k_dflt (first | (refine' isi_tup ?r30zF ?r30zX ?r30zN ?r30zm ?_; (case r30zF => k_asm); (case r30zX => k_asm); (case r30zN => k_asm); (case r30zm => k_extra "mem")) | (refine' isi_int ?r30zF ?r30zX ?r30zN ?_; (case r30zF => k_asm); (case r30zX => k_asm); (case r30zN => k_asm))); intro _))
  k_with "eval Name" => (((with_reducible refine' ldq ?r31zF ?r31zv ?r31zk ?r31zl ?r31zd ?_); (case r31zF => with_reducible assumption); (case r31zl => decide +kernel); (case r31zd => decide +kernel); (case r31zv => k_dflt (first | with_reducible assumption | exact @rfl _ (some _) | assumption)); (case r31zk => exact rfl)))
  k_with "TurnPost" => ((first | (with_reducible refine TurnPost.retI ?_) | (with_reducible refine TurnPost.nextI ?_)))
  k_with "exec For" => (((rename Fr _ _ _ _ => zq_lF'); (with_unfolding_all refine' For_invVF zq_lF' ?r33zk1 ?r33zk2 ?_; (case r33zk1 => exact rfl); (case r33zk2 => exact rfl); k_whole)))
  k_with "exec For Name Attribute cons nil" => (walk_at "exec For")
  k_with "exec For Name Name cons nil" => (walk_at "exec For")
  k_with "exec For Name Call cons nil" => (walk_at "exec For")
  k_with "rowAt" => (with_reducible assumption)
  k_with "depth" => (first | exact dp1 (by with_reducible assumption) rfl | exact dp0 (by with_reducible assumption) rfl | exact dp2 (by with_reducible assumption) rfl | (simp only [depth_under_make, depth_under_kw, depth_in1, depth_deeper, depth_caller] at *; omega))
  k_with "exec If" => (first | k_dflt (k_extra "if") | ((with_reducible refine wpAny_If ?_); (try dsimp only)))
  k_with "exec If Compare cons nil" => (walk_at "exec If")
  k_with "exec If BoolOp cons nil" => (walk_at "exec If")
  k_with "exec If Call cons nil" => (walk_at "exec If")
  k_with "exec If UnaryOp cons nil" => (walk_at "exec If")
  k_with "exec If Compare cons cons" => (walk_at "exec If")
  k_with "exec If BoolOp cons cons" => (walk_at "exec If")
  k_with "eval Call" => (((fail_if_success (with_reducible show wpAny _ _ (eval (Expr.Call (Expr.Name (PySem.Str.ofString "range") _) _ _ _) _) _ _ _)); (with_reducible show wpAny _ _ (eval (Expr.Call (Expr.Name _ _) _ _ _) _) _ _ _); k_dflt (refine Call_ ?_)))
  k_with "eval Call Attribute" => ((k_dflt (refine MethodCall_ ?_)))
  k_with "handled" => (first | assumption | exact rfl)
  k_with "frames" => (first | exact rfl | (refine' frames_deeper ?r49zz; (case r49zz => assumption)))
  k_with "pyIter ref" => (((k_dflt (k_extra "loop")); (all_goals ((try ((try k_unmd); k_unfold; clear gG)); (try dsimp only); (try k_unmd); (try k_fold)))))
  k_with "call ref" => (k_dflt (k_extra "call"))
  k_with "sub" => (first | with_reducible assumption | with_reducible exact sub_refl | (with_reducible refine sub_cons ?_; k_extra "sub") | (with_reducible refine sub_app ?_; k_extra "sub"))
  k_with "call builtin:list.append" => ((k_dflt (refine' app_l ?r53zF ?r53zN ?r53zU ?r53zz ?_; (case r53zF => k_asm); (case r53zN => k_asm); (case r53zU => k_extra "upd"); (case r53zz => exact Nat.le_of_ble_eq_true rfl)); intro zq_h' zq_F' zq_N'; (try dsimp only [List.cons_append, List.nil_append] at zq_N'); (try k_sweep)))
  k_with "compareOp In ref ref" => ((k_dflt (first | (refine' in_ops0 ?r54zN ?r54zl ?r54zo ?r54zu ?_; (case r54zN => k_asm); (case r54zl => k_extra "mem"); (case r54zo => k_extra "opAt"); (case r54zu => k_extra "units")) | (refine' in_ops1 ?r54zN ?r54zl ?r54zv ?r54zo ?r54zu ?_; (case r54zN => k_asm); (case r54zl => k_extra "mem"); (case r54zv => k_extra "opAt"); (case r54zo => k_extra "opAt"); (case r54zu => k_extra "units")))))
  k_with "assign Tuple" => ((k_dflt (refine' unpackN_ ?r55zF ?r55zN ?r55zT ?r55zh ?r55z2 ?r55z3 ?_; (case r55zF => k_asm); (case r55zN => k_asm); (case r55zT => (refine' News.isTup ?r55zy1 ?r55zy2; (case r55zy1 => k_asm); (case r55zy2 => k_extra "mem"))); (case r55zh => k_extra "handled"); (case r55z2 => exact rfl); (case r55z3 => exact rfl)); intro zq_h' zq_F' zq_N'; (try k_sweep)))
  k_with "WPost" => ((first | (with_reducible refine WPost.retI ?_) | (with_reducible refine WPost.nextI ?_)))
  k_with "WhlIf" => (((first | (refine' WhlIf.yes ?r57zz ?_; (case r57zz => (refine decide_eq_true ?_; omega))) | (refine' WhlIf.no ?r57zz ?_; (case r57zz => (refine decide_eq_false ?_; omega)))); (try dsimp only); (try k_unmd); (try k_fold)))
  k_with "call builtin:len" => ((k_dflt (refine' len_l ?r58zN ?r58zm ?r58zz ?_; (case r58zN => k_asm); (case r58zm => k_extra "mem"); (case r58zz => first | exact Nat.le_of_ble_eq_true rfl | omega)); intro _ _))
  k_with "loadName" => (((with_reducible refine' ldnq ?r59zF ?r59zv ?r59zk ?r59zl ?_); (case r59zF => with_reducible assumption); (case r59zl => decide +kernel); (case r59zv => k_dflt (first | with_reducible assumption | exact @rfl _ (some _) | assumption)); (case r59zk => exact rfl)))
  k_with "kv" => (with_reducible first | exact kv_held | exact kv_temps | exact kv_given | exact kv_out | exact kv_count)
  k_with "stitem" => ((k_dflt (refine' st_item ?r61zN ?r61zm ?r61zd ?r61zv ?_ ?r61zh6; (case r61zN => k_asm); (case r61zm => k_extra "mem"); (case r61zd => with_reducible assumption); (case r61zv => k_extra "kv"); (case r61zh6 => with_unfolding_all rfl))))
  k_with "subscriptTail Name Constant ref str" => (k_extra "stitem")
  k_with "call type:range" => ((k_dflt (first | (refine' range1_rows ?r63zF ?r63zN ?_; (case r63zF => k_asm); (case r63zN => k_asm)) | (refine' range2_rows ?r63zF ?r63zN ?_; (case r63zF => k_asm); (case r63zN => k_asm))); intro zq_h' zq_tk' zq_t9 zq_u9 zq_w9 zq_R' zq_F' zq_N' zq_kp'; clear zq_kp'; (try k_sweep)))
  k_with "TurnPost" => ((with_reducible refine TurnPost.contI ?_))
  k_with "unpackItems ref" => ((k_dflt (refine' unpackItemsN_ ?r65zF ?r65zN ?r65zT ?r65zh ?r65z2 ?_; (case r65zF => k_asm); (case r65zN => k_asm); (case r65zT => (refine' News.isTup ?r65zy1 ?r65zy2; (case r65zy1 => k_asm); (case r65zy2 => k_extra "mem"))); (case r65zh => k_extra "handled"); (case r65z2 => exact rfl)); intro zq_h' zq_F' zq_N'; (try k_sweep)))
  k_with "storeName" => (((k_dflt (refine' store_let ?r66zF ?r66zN ?_ ?r66za ?r66zb; (case r66zF => k_asm); (case r66zN => k_asm); (case r66za => rfl); (case r66zb => rfl); k_whole)); (intro zq_mk zq_h' zq_F' zq_N'); (try k_sweep)))
  k_with "callWith" => (((with_reducible show wpAny _ _ (callWith _ (Value.builtin "list.append") _ _ _) _ _ _); (k_dflt (refine callWith_method1 ?_))))
  intro A env outer A₀ base h₀ L m s Q E hh hA hf hke hd hu B F X N T ret
  refine wpAny_call ?_
  k_dflt (k_extra "my_enter")
  k_steps
  all_goals exact ret _ _ _ _ (by assumption) (by assumption) ⟨rfl, rfl⟩
set_option maxRecDepth 100000 in
set_option maxHeartbeats 0 in
theorem ends_other (c : Cx) {ia : Addr} {vs : List Value} {y : PySem.Str} {tk : Tok} {n : Nat} {news : List (Addr × Obj)} (hm : (ia, tupOf (Value.str y tk :: vs).toArray n) ∈ news)
    (e1 : (y == PySem.Str.ofString "call") = false) (e2 : (y == PySem.Str.ofString "execute") = false) (e3 : (y == PySem.Str.ofString "builtin") = false) :
    Ct c 28 3 100 [.ref ia] news (fun v news' => v = .bool false ∧ news' = news) := by
  unfold Ct PR
  k_fill
  intro A env outer A₀ base h₀ L m s Q E hh hA hf hke hd hu B F X N T ret
  refine wpAny_call ?_
  k_dflt (k_extra "my_enter")
  k_steps
  all_goals exact ret _ _ _ _ (by assumption) (by assumption) ⟨by simp only [e1, e2, e3], rfl⟩
theorem ends_ct (c : Cx) {v : Value} {r : Row} {news : List (Addr × Obj)} (h : RowAt news v r) : Ct c 28 3 100 [v] news (fun v news' => v = .bool (decide (r.k = .call)) ∧ news' = news) := by
  cases h with
  | @mk a t n x vs ps hm ha =>
    by_cases hx : x = .call
    · subst hx; exact ends_call c hm
    · rw [decide_eq_false hx]
      refine ends_other c hm ?_ ?_ ?_ <;> (cases x <;> first | exact absurd rfl hx | decide +kernel)

set_option maxRecDepth 100000 in
set_option maxHeartbeats 0 in
theorem twice_ct (c : Cx) {ia : Addr} {x : Value} {v1 v2 : Value} {p1 p2 : Pt} {n : Nat} {news : List (Addr × Obj)} (hm : (ia, tupOf #[x, v1, v2] n) ∈ news) (h1 : PtAt news v1 p1) (h2 : PtAt news v2 p2) :
    Ct c 126 3 100 [.ref ia] news (fun v news' => v = .bool (decide (p1 = p2)) ∧ news' = news) := by
  unfold Ct PR
  k_fill
  intro A env outer A₀ base h₀ L m s Q E hh hA hf hke hd hu B F X N T ret
  refine wpAny_call ?_
  k_dflt (k_extra "my_enter")
  k_steps
  all_goals exact ret _ _ _ _ (by assumption) (by assumption) ⟨rfl, rfl⟩

set_option maxRecDepth 100000 in
set_option maxHeartbeats 0 in
theorem newv_ct (c : Cx) {a : CA} {st : CS} {keep : List (Addr × Obj)} (hS : CkS c.w a st) (hK : CkOff a keep) :
    Ct c 49 3 100 [.ref a.x] (a.fp st.nv ++ keep)
      (fun v news' => ∃ a' t, v = .int (st.nv + 1) t ∧ news' = a'.fp (st.nv + 1) ++ keep ∧ a'.x = a.x ∧ CkS c.w a' { st with nv := st.nv + 1 } ∧ CkOff a' keep) := by
  unfold Ct PR
  k_fill
  intro A env outer A₀ base h₀ L m s Q E hh hA hf hke hd hu B F X N T ret
  obtain ⟨x, dx, V, H, I, O, t1, t2, t3, t4, t5, tn, h1, h2, h3, h4, h5, oV, oH, oI, oO⟩ := a
  obtain ⟨dV, dH, dI, dO, loV, loH, loI, loO, n1, n2, n3, n4, n5, n6, n7, n8, n9, n10, n11, n12, n13, n14, n15⟩ := hS
  obtain ⟨k1, k2, k3, k4, k5, k6⟩ := hK
  simp only [CA.fp, List.cons_append, List.nil_append] at *
  refine wpAny_call ?_
  k_dflt (k_extra "my_enter")
  k_steps
  refine ret _ _ _ _ (by assumption) (by assumption) ⟨⟨x, dx, V, H, I, O, t1, t2, t3, t4, t5, _, h1, h2, h3, h4, h5, oV, oH, oI, oO⟩, _, rfl, rfl, rfl, ?_, ?_⟩
  · constructor <;> assumption
  · constructor <;> assumption

/-- the abstract rows that the law builds -/
inductive WA : Row → Prop where
  | getVar (t a : Int) : WA ⟨.getVar, [.op (.t t), .op (.a a)]⟩
  | getStr (n a : Int) : WA ⟨.getStr, [.int n, .op (.a a)]⟩
  | uniVar (t : Int) : WA ⟨.uniVar, [.op (.t t)]⟩
  | getValY (y a : Int) : WA ⟨.getVal, [.op (.y y), .op (.a a)]⟩
  | getValT (t a : Int) : WA ⟨.getVal, [.op (.t t), .op (.a a)]⟩
  | putValT (t a : Int) : WA ⟨.putVal, [.op (.t t), .op (.a a)]⟩
  | putValY (y a : Int) : WA ⟨.putVal, [.op (.y y), .op (.a a)]⟩
  | putVar (t a : Int) : WA ⟨.putVar, [.op (.t t), .op (.a a)]⟩
  | putList (a : Int) : WA ⟨.putList, [.op (.a a)]⟩
  | setLoc (t : Int) : WA ⟨.setLoc, [.op (.t t)]⟩
  | setVar (t : Int) : WA ⟨.setVar, [.op (.t t)]⟩
  | putCon (n a : Int) : WA ⟨.putCon, [.int n, .op (.a a)]⟩
  | putStr (n t : Int) : WA ⟨.putStr, [.int n, .op (.t t)]⟩
  | putVoid (a : Int) : WA ⟨.putVoid, [.op (.a a)]⟩
  | call (n m : Int) : WA ⟨.call, [.int n, .int m]⟩
noncomputable def copied (st : CS) : Row → Int
  | ⟨.getVar, [_, .op (.a k)]⟩ => (lk st.inc k).getD 0
  | ⟨.putVal, [.op (.t k), _]⟩ => (lk st.vo k).getD 0
  | _ => 0
set_option maxRecDepth 100000 in
set_option maxHeartbeats 0 in
theorem copied_other (c : Cx) {a : CA} {st : CS} {ia : Addr} {vs : List Value} {y : PySem.Str} {tk : Tok} {n : Nat} {news : List (Addr × Obj)} (hsub : ∀ p ∈ a.fp st.nv, p ∈ news) (hm : (ia, tupOf (Value.str y tk :: vs).toArray n) ∈ news)
    (e1 : (y == PySem.Str.ofString "get_variable") = false) (e2 : (y == PySem.Str.ofString "put_value") = false) :
    Ct c 77 3 100 [.ref a.x, .ref ia] news (fun v news' => (∃ t, v = .int 0 t) ∧ news' = news) := by
  unfold Ct PR
  k_fill
  intro A env outer A₀ base h₀ L m s Q E hh hA hf hke hd hu B F X N T ret
  obtain ⟨m1, m2, m3, m4, m5, m6⟩ := CA.mems hsub
  clear hsub
  obtain ⟨x, dx, V, H, I, O, t1, t2, t3, t4, t5, tn, h1, h2, h3, h4, h5, oV, oH, oI, oO⟩ := a
  dsimp only at *
  refine wpAny_call ?_
  k_dflt (k_extra "my_enter")
  k_steps
  all_goals exact ret _ _ _ _ (by assumption) (by assumption) ⟨⟨_, rfl⟩, rfl⟩
set_option maxRecDepth 100000 in
set_option maxHeartbeats 0 in
theorem copied_ct (c : Cx) {a : CA} {st : CS} {v : Value} {r : Row} {news : List (Addr × Obj)} (hS : CkS c.w a st) (hsub : ∀ p ∈ a.fp st.nv, p ∈ news) (hr : RowAt news v r) (hw : WA r) :
    Ct c 77 3 100 [.ref a.x, v] news (fun v news' => (∃ t, v = .int (copied st r) t) ∧ news' = news) := by
  cases hr with
  | @mk ia tk n k vs ps hm ha =>
  by_cases hk : k = .getVar ∨ k = .putVal
  · unfold Ct PR
    k_fill
    intro A env outer A₀ base h₀ L m s Q E hh hA hf hke hd hu B F X N T ret
    obtain ⟨m1, m2, m3, m4, m5, m6⟩ := CA.mems hsub
    clear hsub
    obtain ⟨x, dx, V, H, I, O, t1, t2, t3, t4, t5, tn, h1, h2, h3, h4, h5, oV, oH, oI, oO⟩ := a
    obtain ⟨dV, dH, dI, dO, loV, loH, loI, loO, n1, n2, n3, n4, n5, n6, n7, n8, n9, n10, n11, n12, n13, n14, n15⟩ := hS
    clear n1 n2 n3 n4 n5 n6 n7 n8 n9 n10 n11 n12 n13 n14 n15
    dsimp only at *
    cases hw <;> first | (exfalso; rcases hk with h | h <;> cases h; done) | skip
    all_goals (
      obtain ⟨v1, v2, rfl, q1, q2⟩ := ha.two
      replace q1 := q1.toOp
      replace q2 := q2.toOp
      clear ha
      cases q1
      cases q2
      dsimp only [Kd.name] at hm
      refine wpAny_call ?_
      k_dflt (k_extra "my_enter")
      k_steps
      all_goals exact ret _ _ _ _ (by assumption) (by assumption) ⟨⟨_, rfl⟩, rfl⟩)
  · have e : copied st ⟨k, ps⟩ = 0 := by
      cases hw <;> first | rfl | (exact absurd (.inl rfl) hk) | (exact absurd (.inr rfl) hk)
    rw [e]
    refine copied_other c hsub hm ?_ ?_ <;> (cases k <;> first | exact absurd (.inl rfl) hk | exact absurd (.inr rfl) hk | decide +kernel)
end
section
/-- the real rows that the law builds, altered ones too -/
inductive WR : Row → Prop where
  | getVar (x y : Int) : WR ⟨.getVar, [.op (.x x), .op (.x y)]⟩
  | getStr (n x : Int) : WR ⟨.getStr, [.int n, .op (.x x)]⟩
  | uniVar (x : Int) : WR ⟨.uniVar, [.op (.x x)]⟩
  | getValY (y x : Int) : WR ⟨.getVal, [.op (.y y), .op (.x x)]⟩
  | getValX (y x : Int) : WR ⟨.getVal, [.op (.x y), .op (.x x)]⟩
  | putValY (y x : Int) : WR ⟨.putVal, [.op (.y y), .op (.x x)]⟩
  | putValX (y x : Int) : WR ⟨.putVal, [.op (.x y), .op (.x x)]⟩
  | putVar (x y : Int) : WR ⟨.putVar, [.op (.x x), .op (.x y)]⟩
  | putList (x : Int) : WR ⟨.putList, [.op (.x x)]⟩
  | setLoc (x : Int) : WR ⟨.setLoc, [.op (.x x)]⟩
  | setVar (x : Int) : WR ⟨.setVar, [.op (.x x)]⟩
  | putCon (n x : Int) : WR ⟨.putCon, [.int n, .op (.x x)]⟩
  | putStr (n x : Int) : WR ⟨.putStr, [.int n, .op (.x x)]⟩
  | putVoid (x : Int) : WR ⟨.putVoid, [.op (.x x)]⟩
  | call (n m : Int) : WR ⟨.call, [.int n, .int m]⟩
noncomputable def isX : Pt → Bool
  | .op (.x _) => true
  | _ => false
noncomputable def okP : Pt → Pt → Bool
  | .op (.t _), q => isX q
  | .op (.a _), q => isX q
  | p, q => decide (p = q)
noncomputable def okPs : List Pt → List Pt → Bool
  | [], [] => true
  | p :: ps, q :: qs => if okP p q = true then okPs ps qs else false
  | _, _ => false
noncomputable def shapeB (r s : Row) : Bool := decide (r.k = s.k) && okPs r.ps s.ps
inductive Sh : List Pt → List Pt → Prop where
  | s1 (t x : Int) : Sh [.op (.t t)] [.op (.x x)]
  | s2 (t x : Int) : Sh [.op (.a t)] [.op (.x x)]
  | s3 (t a x y : Int) : Sh [.op (.t t), .op (.a a)] [.op (.x x), .op (.x y)]
  | s4 (t a x y : Int) : Sh [.op (.t t), .op (.a a)] [.op (.y x), .op (.x y)]
  | s5 (t a x y : Int) : Sh [.op (.y t), .op (.a a)] [.op (.x x), .op (.x y)]
  | s6 (t a x y : Int) : Sh [.op (.y t), .op (.a a)] [.op (.y x), .op (.x y)]
  | s7 (t a x y : Int) : Sh [.int t, .op (.a a)] [.int x, .op (.x y)]
  | s8 (t a x y : Int) : Sh [.int t, .op (.t a)] [.int x, .op (.x y)]
  | s9 (t a x y : Int) : Sh [.int t, .int a] [.int x, .int y]
/-- the pairs of rows that are met -/
inductive Mt : Row → Row → Prop
  | getVar (t a x y : Int) : Mt ⟨.getVar, [.op (.t t), .op (.a a)]⟩ ⟨.getVar, [.op (.x x), .op (.x y)]⟩
  | getStr (n a m x : Int) : Mt ⟨.getStr, [.int n, .op (.a a)]⟩ ⟨.getStr, [.int m, .op (.x x)]⟩
  | uniVar (t x : Int) : Mt ⟨.uniVar, [.op (.t t)]⟩ ⟨.uniVar, [.op (.x x)]⟩
  | getYY (y a z x : Int) : Mt ⟨.getVal, [.op (.y y), .op (.a a)]⟩ ⟨.getVal, [.op (.y z), .op (.x x)]⟩
  | getYX (y a z x : Int) : Mt ⟨.getVal, [.op (.y y), .op (.a a)]⟩ ⟨.getVal, [.op (.x z), .op (.x x)]⟩
  | getTY (t a z x : Int) : Mt ⟨.getVal, [.op (.t t), .op (.a a)]⟩ ⟨.getVal, [.op (.y z), .op (.x x)]⟩
  | getTX (t a z x : Int) : Mt ⟨.getVal, [.op (.t t), .op (.a a)]⟩ ⟨.getVal, [.op (.x z), .op (.x x)]⟩
  | putYY (y a z x : Int) : Mt ⟨.putVal, [.op (.y y), .op (.a a)]⟩ ⟨.putVal, [.op (.y z), .op (.x x)]⟩
  | putYX (y a z x : Int) : Mt ⟨.putVal, [.op (.y y), .op (.a a)]⟩ ⟨.putVal, [.op (.x z), .op (.x x)]⟩
  | putTY (t a z x : Int) : Mt ⟨.putVal, [.op (.t t), .op (.a a)]⟩ ⟨.putVal, [.op (.y z), .op (.x x)]⟩
  | putTX (t a z x : Int) : Mt ⟨.putVal, [.op (.t t), .op (.a a)]⟩ ⟨.putVal, [.op (.x z), .op (.x x)]⟩
  | putVar (t a x y : Int) : Mt ⟨.putVar, [.op (.t t), .op (.a a)]⟩ ⟨.putVar, [.op (.x x), .op (.x y)]⟩
  | putList (a x : Int) : Mt ⟨.putList, [.op (.a a)]⟩ ⟨.putList, [.op (.x x)]⟩
  | setLoc (t x : Int) : Mt ⟨.setLoc, [.op (.t t)]⟩ ⟨.setLoc, [.op (.x x)]⟩
  | setVar (t x : Int) : Mt ⟨.setVar, [.op (.t t)]⟩ ⟨.setVar, [.op (.x x)]⟩
  | putCon (n a m x : Int) : Mt ⟨.putCon, [.int n, .op (.a a)]⟩ ⟨.putCon, [.int m, .op (.x x)]⟩
  | putStr (n t m x : Int) : Mt ⟨.putStr, [.int n, .op (.t t)]⟩ ⟨.putStr, [.int m, .op (.x x)]⟩
  | putVoid (a x : Int) : Mt ⟨.putVoid, [.op (.a a)]⟩ ⟨.putVoid, [.op (.x x)]⟩
  | call (n m n' m' : Int) : Mt ⟨.call, [.int n, .int m]⟩ ⟨.call, [.int n', .int m']⟩
/-- what a kind's real row is -/
noncomputable def RealOf (s : Row) : Kd → Prop
  | .getVar => ∃ x y, s = ⟨.getVar, [.op (.x x), .op (.x y)]⟩
  | .getVal => (∃ z x, s = ⟨.getVal, [.op (.y z), .op (.x x)]⟩) ∨ ∃ z x, s = ⟨.getVal, [.op (.x z), .op (.x x)]⟩
  | .getStr => ∃ m x, s = ⟨.getStr, [.int m, .op (.x x)]⟩
  | .uniVar => ∃ x, s = ⟨.uniVar, [.op (.x x)]⟩
  | .putVal => (∃ z x, s = ⟨.putVal, [.op (.y z), .op (.x x)]⟩) ∨ ∃ z x, s = ⟨.putVal, [.op (.x z), .op (.x x)]⟩
  | .putVar => ∃ x y, s = ⟨.putVar, [.op (.x x), .op (.x y)]⟩
  | .putList => ∃ x, s = ⟨.putList, [.op (.x x)]⟩
  | .setLoc => ∃ x, s = ⟨.setLoc, [.op (.x x)]⟩
  | .setVar => ∃ x, s = ⟨.setVar, [.op (.x x)]⟩
  | .putCon => ∃ m x, s = ⟨.putCon, [.int m, .op (.x x)]⟩
  | .putStr => ∃ m x, s = ⟨.putStr, [.int m, .op (.x x)]⟩
  | .putVoid => ∃ x, s = ⟨.putVoid, [.op (.x x)]⟩
  | .call => ∃ n m, s = ⟨.call, [.int n, .int m]⟩
theorem real_of {s : Row} (h : WR s) : RealOf s s.k := by
  cases h with
  | getVar x y => exact ⟨x, y, rfl⟩
  | getStr n x => exact ⟨n, x, rfl⟩
  | uniVar x => exact ⟨x, rfl⟩
  | getValY y x => exact .inl ⟨y, x, rfl⟩
  | getValX y x => exact .inr ⟨y, x, rfl⟩
  | putValY y x => exact .inl ⟨y, x, rfl⟩
  | putValX y x => exact .inr ⟨y, x, rfl⟩
  | putVar x y => exact ⟨x, y, rfl⟩
  | putList x => exact ⟨x, rfl⟩
  | setLoc x => exact ⟨x, rfl⟩
  | setVar x => exact ⟨x, rfl⟩
  | putCon n x => exact ⟨n, x, rfl⟩
  | putStr n x => exact ⟨n, x, rfl⟩
  | putVoid x => exact ⟨x, rfl⟩
  | call n m => exact ⟨n, m, rfl⟩
theorem mt_of {r s : Row} (ha : WA r) (hr : WR s) (hk : r.k = s.k) : Mt r s := by
  have h := real_of hr
  rw [← hk] at h
  clear hr hk
  cases ha with
  | getVar t a => obtain ⟨x, y, e⟩ := h; rw [e]; exact .getVar ..
  | getStr n a => obtain ⟨x, y, e⟩ := h; rw [e]; exact .getStr ..
  | uniVar t => obtain ⟨x, e⟩ := h; rw [e]; exact .uniVar ..
  | getValY y a => exact h.elim (fun ⟨_, _, e⟩ => e ▸ .getYY ..) fun ⟨_, _, e⟩ => e ▸ .getYX ..
  | getValT t a => exact h.elim (fun ⟨_, _, e⟩ => e ▸ .getTY ..) fun ⟨_, _, e⟩ => e ▸ .getTX ..
  | putValT t a => exact h.elim (fun ⟨_, _, e⟩ => e ▸ .putTY ..) fun ⟨_, _, e⟩ => e ▸ .putTX ..
  | putValY y a => exact h.elim (fun ⟨_, _, e⟩ => e ▸ .putYY ..) fun ⟨_, _, e⟩ => e ▸ .putYX ..
  | putVar t a => obtain ⟨x, y, e⟩ := h; rw [e]; exact .putVar ..
  | putList a => obtain ⟨x, e⟩ := h; rw [e]; exact .putList ..
  | setLoc t => obtain ⟨x, e⟩ := h; rw [e]; exact .setLoc ..
  | setVar t => obtain ⟨x, e⟩ := h; rw [e]; exact .setVar ..
  | putCon n a => obtain ⟨x, y, e⟩ := h; rw [e]; exact .putCon ..
  | putStr n t => obtain ⟨x, y, e⟩ := h; rw [e]; exact .putStr ..
  | putVoid a => obtain ⟨x, e⟩ := h; rw [e]; exact .putVoid ..
  | call n m => obtain ⟨x, y, e⟩ := h; rw [e]; exact .call ..
theorem sh_r {r s : Row} (h : Mt r s) : Sh r.ps s.ps := by
  cases h <;> constructor
theorem sh_of {k : Kd} {ps qs : List Pt} (h : WA ⟨k, ps⟩) (h' : WR ⟨k, qs⟩) : Sh ps qs := sh_r (mt_of h h' rfl)
theorem wa_len {k : Kd} {ps : List Pt} (h : WA ⟨k, ps⟩) : ps.length = k.ar := by cases h <;> rfl
theorem wr_len {k : Kd} {ps : List Pt} (h : WR ⟨k, ps⟩) : ps.length = k.ar := by cases h <;> rfl
theorem ar_or (k : Kd) : k.ar = 1 ∨ k.ar = 2 := by cases k <;> first | exact .inl rfl | exact .inr rfl
set_option maxRecDepth 100000 in
set_option maxHeartbeats 0 in
theorem shape_ne (c : Cx) {a : CA} {st : CS} {ia ra : Addr} {vs ws : List Value} {j k : Kd} {tk tk' : Tok} {n n' : Nat} {news : List (Addr × Obj)} (hsub : ∀ p ∈ a.fp st.nv, p ∈ news)
    (hi : (ia, tupOf (Value.str j.name tk :: vs).toArray n) ∈ news) (hr : (ra, tupOf (Value.str k.name tk' :: ws).toArray n') ∈ news) (hv : vs.length = j.ar) (hw : ws.length = k.ar) (hne : (j.name != k.name) = true) :
    Ct c 84 3 100 [.ref a.x, .ref ia, .ref ra] news (fun v news' => v = .bool false ∧ news' = news) := by
  unfold Ct PR
  k_fill
  k_with_none
  k_with "mem" => (first | with_reducible assumption | with_reducible exact List.mem_cons_self | (with_reducible refine List.mem_cons_of_mem _ ?_; k_extra "mem") | (with_reducible refine List.mem_append_left _ ?_; k_extra "mem") | (with_reducible refine List.mem_append_right _ ?_; k_extra "mem"))
  k_with "my_enter" => ((refine' code_def ?r2zk1 ?r2zk2 ?r2zk3 ?r2zk4 ?r2zk5 ?r2zkA ?r2zkF ?r2zkK ?r2zk6 ?r2zk7 ?r2zk8 ?r2zk9 ?r2zkB ?_ ?r2zc2 ?r2zc3 ?r2zc4 ?r2zc5; (case r2zkA => assumption); (case r2zkF => assumption); (case r2zkK => assumption); (case r2zk1 => k_asm); (case r2zk2 => k_asm); (case r2zk3 => k_asm); (case r2zk4 => k_asm); (case r2zk5 => k_asm); (case r2zk6 => k_is); (case r2zk7 => k_is); (case r2zk8 => omega); (case r2zk9 => exact BindsTo.of_eq rfl); (case r2zc5 => decide); (case r2zkB => exact locs rfl); (case r2zc2 => exact rfl); (case r2zc3 => exact rfl); (case r2zc4 => exact rfl); k_whole; intro zq_g' zq_L' zq_h' zq_FG' zq_F' zq_N' zq_B' zq_X' zq_T'; (try dsimp only); (try k_fold)))
  k_with "mysub" => (((with_reducible show wpAny _ _ (subscriptTail _ _ (Value.ref _) (Value.int _ _)) _ _ _); (with_unfolding_all first | (refine' sub_tup ?r3zN ?r3zm ?r3zi ?r3zj ?r3zx ?_ ?r3zh6; (case r3zN => k_asm); (case r3zm => k_extra "mem"); (case r3zi => exact rfl); (case r3zj => decide); (case r3zx => exact rfl); (case r3zh6 => rfl); k_whole) | (refine' sub_list ?r3zN ?r3zm ?r3zi ?r3zj ?r3zx ?_ ?r3zh6; (case r3zN => k_asm); (case r3zm => k_extra "mem"); (case r3zi => exact rfl); (case r3zj => omega); (case r3zx => assumption); (case r3zh6 => rfl); k_whole) | (refine' sub_list ?r3zN ?r3zm ?r3zi ?r3zj ?r3zx ?_ ?r3zh6; (case r3zN => k_asm); (case r3zm => k_extra "mem"); (case r3zi => exact rfl); (case r3zj => decide); (case r3zx => exact rfl); (case r3zh6 => rfl); k_whole) | (refine' di_item ?r3zN ?r3zm ?r3zd ?r3zv ?_ ?r3zh6; (case r3zN => k_asm); (case r3zm => k_extra "mem"); (case r3zd => with_reducible assumption); (case r3zv => with_reducible assumption); (case r3zh6 => rfl); k_whole; intro _) | (refine' ds_item ?r3zN ?r3zm ?r3zd ?r3zv ?_ ?r3zh6; (case r3zN => k_asm); (case r3zm => k_extra "mem"); (case r3zd => with_reducible assumption); (case r3zv => with_reducible assumption); (case r3zh6 => rfl); k_whole; intro _))))
  k_with "subscriptTail" => (k_extra "mysub")
  k_with "subscriptTail Name Constant ref int" => (k_extra "mysub")
  k_with "subscriptTail Name Name ref int" => (k_extra "mysub")
  k_with "subscriptTail Attribute Name Subscript Name Constant ref int" => (k_extra "mysub")
  k_with "getMethod ref" => (((with_reducible show wpAny _ _ (getMethod (Value.ref _) (PySem.Str.ofString "get") _) _ _ _); k_dflt (first | (refine' di_method ?r8zN ?r8zm ?r8zd ?_; (case r8zN => k_asm); (case r8zm => k_extra "mem"); (case r8zd => with_reducible assumption)) | (refine' ds_method ?r8zN ?r8zm ?r8zd ?_; (case r8zN => k_asm); (case r8zm => k_extra "mem"); (case r8zd => with_reducible assumption)))))
  k_with "call builtin:dict.get" => ((k_dflt (first | (refine' di_get ?r9zN ?r9zm ?r9zd ?r9zlo ?_; (case r9zN => k_asm); (case r9zm => k_extra "mem"); (case r9zd => with_reducible assumption); (case r9zlo => with_reducible assumption)) | (refine' ds_get ?r9zN ?r9zm ?r9zd ?r9zlo ?_; (case r9zN => k_asm); (case r9zm => k_extra "mem"); (case r9zd => with_reducible assumption); (case r9zlo => with_reducible assumption))); intro _))
  k_with "compareOp NotIn int ref" => ((k_dflt (refine' di_notin2 ?r10zN ?r10zm ?r10zd ?r10zlo ?_ ?_; (case r10zN => k_asm); (case r10zm => k_extra "mem"); (case r10zd => with_reducible assumption); (case r10zlo => with_reducible assumption)); intros))
  k_with "ite" => (with_reducible first | refine ite_t ?_ | refine ite_f ?_ | (refine' ite_bt ?r11zh ?_; (case r11zh => assumption)) | (refine' ite_bf ?r11zh ?_; (case r11zh => assumption)))
  k_with "opAt" => (first | with_reducible assumption | (refine' OpAt.mono ?r12zs ?r12zh; (case r12zh => with_reducible assumption); (case r12zs => k_extra "sub")) | (refine' OpAt.t ?r12zq; (case r12zq => k_extra "mem")) | (refine' OpAt.a ?r12zq; (case r12zq => k_extra "mem")) | (refine' OpAt.y ?r12zq; (case r12zq => k_extra "mem")) | (refine' OpAt.x ?r12zq; (case r12zq => k_extra "mem")))
  k_with "units" => (first | exact un1 (by with_reducible assumption) rfl | exact un0 (by with_reducible assumption) rfl | exact un2 (by with_reducible assumption) rfl | (simp only [units_in1, units_deeper, Around.mark_units, units_caller] at *; omega))
  k_with "compareOp Eq ref ref" => ((k_dflt (refine' op_eq ?r14zN ?r14za ?r14zb ?r14zu ?_; (case r14zN => k_asm); (case r14za => k_extra "opAt"); (case r14zb => k_extra "opAt"); (case r14zu => k_extra "units"); k_whole)))
  k_with "compareOp NotEq ref ref" => ((k_dflt (refine' op_ne ?r15zN ?r15za ?r15zb ?r15zu ?_; (case r15zN => k_asm); (case r15za => k_extra "opAt"); (case r15zb => k_extra "opAt"); (case r15zu => k_extra "units"); k_whole)))
  k_with "ne" => (first | with_reducible assumption | with_reducible exact Ne.symm (by with_reducible assumption) | with_reducible exact lt_ne_1 (by with_reducible assumption) | with_reducible exact lt_ne_2 (by with_reducible assumption) | with_reducible exact lt_ne_3 (by with_reducible assumption) | with_reducible exact lt_ne_4 (by with_reducible assumption) | with_reducible exact lt_ne_5 (by with_reducible assumption) | with_reducible exact lt_ne_6 (by with_reducible assumption) | with_reducible exact lt_ne_7 (by with_reducible assumption) | with_reducible exact lt_ne_8 (by with_reducible assumption) | with_reducible exact Ne.symm (lt_ne_1 (by with_reducible assumption)) | with_reducible exact Ne.symm (lt_ne_2 (by with_reducible assumption)) | with_reducible exact Ne.symm (lt_ne_3 (by with_reducible assumption)) | with_reducible exact Ne.symm (lt_ne_4 (by with_reducible assumption)) | with_reducible exact Ne.symm (lt_ne_5 (by with_reducible assumption)) | with_reducible exact Ne.symm (lt_ne_6 (by with_reducible assumption)) | with_reducible exact Ne.symm (lt_ne_7 (by with_reducible assumption)) | with_reducible exact Ne.symm (lt_ne_8 (by with_reducible assumption)) | omega)
  k_with "allne" => (first | with_reducible assumption | (refine' ne_of_lt_all ?r17zz; (case r17zz => with_reducible assumption)) | (refine' ne_of_fresh ?r17zz ?r17zm; (case r17zz => with_reducible assumption); (case r17zm => k_extra "mem")) | exact List.forall_mem_nil _ | (refine' List.forall_mem_cons.mpr ⟨?r17za, ?r17zb⟩; (case r17za => ((try dsimp only); k_extra "ne")); (case r17zb => k_extra "allne")))
  k_with "updF" => (first | (refine' UpdF.head ?r18za; (case r18za => k_extra "allne")) | (refine' UpdF.tail ?r18za ?r18zb; (case r18za => ((try dsimp only); k_extra "ne")); (case r18zb => k_extra "updF")))
  k_with "setItem ref int" => ((k_dflt (first | (refine' di_set ?r19zF ?r19zN ?r19zU ?r19zd ?r19zz ?_; (case r19zF => k_asm); (case r19zN => k_asm); (case r19zU => k_extra "updF"); (case r19zd => with_reducible assumption); (case r19zz => omega)) | (refine' ds_set ?r19zF ?r19zN ?r19zU ?r19zd ?r19zz ?_; (case r19zF => k_asm); (case r19zN => k_asm); (case r19zU => k_extra "updF"); (case r19zd => with_reducible assumption); (case r19zz => omega))); intro zq_h' zq_o' zq_F' zq_N' zq_hd'; (try dsimp only at zq_N'); (try k_sweep)))
  k_with "ifline" => (first | ((with_reducible refine' if_ne ?r20zF ?r20zv ?r20zn ?_ ?r20zk ?r20zl ?r20zd); (case r20zF => k_asm); (case r20zv => with_unfolding_all rfl); (case r20zn => decide +kernel); (case r20zk => rfl); (case r20zl => rfl); (case r20zd => decide); intro _) | ((with_reducible refine' if_eq ?r20zF ?r20zv ?r20zn ?_ ?r20zk ?r20zl ?r20zd); (case r20zF => k_asm); (case r20zv => with_unfolding_all rfl); (case r20zn => decide +kernel); (case r20zk => rfl); (case r20zl => rfl); (case r20zd => decide); intro _; dsimp only) | ((with_reducible refine' ifo_ne ?r20zF ?r20zv ?r20zn ?_ ?r20zk ?r20zl ?r20zd); (case r20zF => k_asm); (case r20zv => with_unfolding_all rfl); (case r20zn => decide +kernel); (case r20zk => rfl); (case r20zl => rfl); (case r20zd => decide); intro _) | ((with_reducible refine' ifo_eq ?r20zF ?r20zv ?r20zn ?_ ?r20zk ?r20zl ?r20zd); (case r20zF => k_asm); (case r20zv => with_unfolding_all rfl); (case r20zn => decide +kernel); (case r20zk => rfl); (case r20zl => rfl); (case r20zd => decide); intro _; dsimp only))
  k_with "execs cons" => (((with_reducible show wpAny _ _ (execs (Stmt.If _ _ _ _ :: _) _) _ _ _); k_dflt (k_extra "ifline")))
  k_with "ltall" => (first | assumption | exact tb_ltOf (by assumption) | (refine' tb_ltOf (And.right ?r22zz); (case r22zz => assumption)) | (refine' tb_ltOf (And.right (And.right ?r22zz)); (case r22zz => assumption)) | (refine' tb_ltOf (And.right (And.right (And.right ?r22zz))); (case r22zz => assumption)))
  k_with "fresh" => (first | exact FreshOver.nil | (refine' FreshOver.cons ?r23za ?r23zb; (case r23za => ((try dsimp only); k_extra "ltall")); (case r23zb => k_extra "fresh")))
  k_with "pairs" => (first | exact All2.nil | (refine' All2.cons ?r24za ?r24zb; (case r24za => (refine' PairAt.mk ?r24zc; (case r24zc => k_extra "mem"))); (case r24zb => k_extra "pairs")))
  k_with "upd" => (first | (refine' upd_app ?r25za ?r25zb; (case r25za => k_extra "allne"); (case r25zb => k_extra "upd")) | (refine' Upd.head ?r25za; (case r25za => k_extra "allne")) | (refine' Upd.tail ?r25za ?r25zb; (case r25za => ((try dsimp only); k_extra "ne")); (case r25zb => k_extra "upd")))
  k_with "setAttr ref" => ((k_dflt (refine' set_dict ?r26zF ?r26zX ?r26zN ?r26zI ?r26zd ?r26zs ?r26zp ?r26zt ?r26zh ?r26zl ?r26ze ?r26zU ?r26zz ?_; (case r26zF => k_asm); (case r26zX => k_asm); (case r26zN => k_asm); (case r26zI => k_inst); (case r26zd => exact rfl); (case r26zs => k_is); (case r26zp => k_is); (case r26zt => k_is); (case r26zh => k_is); (case r26zl => k_get); (case r26ze => k_put); (case r26zU => k_extra "upd"); (case r26zz => exact Nat.le_of_ble_eq_true rfl)); intro zq_h' zq_F' zq_N'; (try k_sweep)))
  k_with "compareOp Eq" => ((k_dflt (refine' pt_eq ?r27zN ?r27za ?r27zb ?r27zu ?_; (case r27zN => k_asm); (case r27za => with_reducible assumption); (case r27zb => with_reducible assumption); (case r27zu => k_extra "units"); k_whole)))
  k_with "compareOp NotEq" => ((k_dflt (refine' pt_ne ?r28zN ?r28za ?r28zb ?r28zu ?_; (case r28zN => k_asm); (case r28za => with_reducible assumption); (case r28zb => with_reducible assumption); (case r28zu => k_extra "units"); k_whole)))
  k_with "exec While Compare cons nil" => (first | ((k_dflt (k_extra "while")); (all_goals ((try ((try k_unmd); k_unfold; clear gG)); (try k_unmd); (try k_fold)))) | (k_here; (try k_fold); k_dflt (refine whl_start 100 ?_)))
  k_with "call builtin:isinstance" => ((k_dflt (first | (refine' isi_tup ?r30zF ?r30zX ?r30zN ?r30zm ?_; (case r30zF => k_asm); (case r30zX => k_asm); (case r30zN => k_asm); (case r30zm => k_extra "mem")) | (refine' isi_int ?r30zF ?r30zX ?r30zN ?_; (case r30zF => k_asm); (case r30zX => k_asm); (case r30zN => k_asm))); intro _))
  k_with "eval Name" => (((with_reducible refine' ldq ?r31zF ?r31zv ?r31zk ?r31zl ?r31zd ?_); (case r31zF => with_reducible assumption); (case r31zl => decide +kernel); (case r31zd => decide +kernel); (case r31zv => k_dflt (first | with_reducible assumption | exact @rfl _ (some _) | assumption)); (case r31zk => exact rfl)))
  k_with "TurnPost" => ((first | (with_reducible refine TurnPost.retI ?_) | (with_reducible refine TurnPost.nextI ?_)))
  k_with "exec For" => (((rename Fr _ _ _ _ => zq_lF'); (with_unfolding_all refine' For_invVF zq_lF' ?r33zk1 ?r33zk2 ?_; (case r33zk1 => exact rfl); (case r33zk2 => exact rfl); k_whole)))
  k_with "exec For Name Attribute cons nil" => (walk_at "exec For")
  k_with "exec For Name Name cons nil" => (walk_at "exec For")
  k_with "exec For Name Call cons nil" => (walk_at "exec For")
  k_with "rowAt" => (with_reducible assumption)
  k_with "depth" => (first | exact dp1 (by with_reducible assumption) rfl | exact dp0 (by with_reducible assumption) rfl | exact dp2 (by with_reducible assumption) rfl | (simp only [depth_under_make, depth_under_kw, depth_in1, depth_deeper, depth_caller] at *; omega))
  k_with "exec If" => (first | k_dflt (k_extra "if") | ((with_reducible refine wpAny_If ?_); (try dsimp only)))
  k_with "exec If Compare cons nil" => (walk_at "exec If")
  k_with "exec If BoolOp cons nil" => (walk_at "exec If")
  k_with "exec If Call cons nil" => (walk_at "exec If")
  k_with "exec If UnaryOp cons nil" => (walk_at "exec If")
  k_with "exec If Compare cons cons" => (walk_at "exec If")
  k_with "exec If BoolOp cons cons" => (walk_at "exec If")
  k_with "eval Call" => (((fail_if_success (with_reducible show wpAny _ _ (eval (Expr.Call (Expr.Name (PySem.Str.ofString "range") _) _ _ _) _) _ _ _)); (with_reducible show wpAny _ _ (eval (Expr.Call (Expr.Name _ _) _ _ _) _) _ _ _); k_dflt (refine Call_ ?_)))
  k_with "eval Call Attribute" => ((k_dflt (refine MethodCall_ ?_)))
  k_with "handled" => (first | assumption | exact rfl)
  k_with "frames" => (first | exact rfl | (refine' frames_deeper ?r49zz; (case r49zz => assumption)))
  k_with "pyIter ref" => (((k_dflt (k_extra "loop")); (all_goals ((try ((try k_unmd); k_unfold; clear gG)); (try dsimp only); (try k_unmd); (try k_fold)))))
  k_with "call ref" => (k_dflt (k_extra "call"))
  k_with "sub" => (first | with_reducible assumption | with_reducible exact sub_refl | (with_reducible refine sub_cons ?_; k_extra "sub") | (with_reducible refine sub_app ?_; k_extra "sub"))
  k_with "call builtin:list.append" => ((k_dflt (refine' app_l ?r53zF ?r53zN ?r53zU ?r53zz ?_; (case r53zF => k_asm); (case r53zN => k_asm); (case r53zU => k_extra "upd"); (case r53zz => exact Nat.le_of_ble_eq_true rfl)); intro zq_h' zq_F' zq_N'; (try dsimp only [List.cons_append, List.nil_append] at zq_N'); (try k_sweep)))
  k_with "compareOp In ref ref" => ((k_dflt (first | (refine' in_ops0 ?r54zN ?r54zl ?r54zo ?r54zu ?_; (case r54zN => k_asm); (case r54zl => k_extra "mem"); (case r54zo => k_extra "opAt"); (case r54zu => k_extra "units")) | (refine' in_ops1 ?r54zN ?r54zl ?r54zv ?r54zo ?r54zu ?_; (case r54zN => k_asm); (case r54zl => k_extra "mem"); (case r54zv => k_extra "opAt"); (case r54zo => k_extra "opAt"); (case r54zu => k_extra "units")))))
  k_with "assign Tuple" => ((k_dflt (refine' unpackN_ ?r55zF ?r55zN ?r55zT ?r55zh ?r55z2 ?r55z3 ?_; (case r55zF => k_asm); (case r55zN => k_asm); (case r55zT => (refine' News.isTup ?r55zy1 ?r55zy2; (case r55zy1 => k_asm); (case r55zy2 => k_extra "mem"))); (case r55zh => k_extra "handled"); (case r55z2 => exact rfl); (case r55z3 => exact rfl)); intro zq_h' zq_F' zq_N'; (try k_sweep)))
  k_with "WPost" => ((first | (with_reducible refine WPost.retI ?_) | (with_reducible refine WPost.nextI ?_)))
  k_with "WhlIf" => (((first | (refine' WhlIf.yes ?r57zz ?_; (case r57zz => (refine decide_eq_true ?_; omega))) | (refine' WhlIf.no ?r57zz ?_; (case r57zz => (refine decide_eq_false ?_; omega)))); (try dsimp only); (try k_unmd); (try k_fold)))
  k_with "call builtin:len" => ((k_dflt (refine' len_l ?r58zN ?r58zm ?r58zz ?_; (case r58zN => k_asm); (case r58zm => k_extra "mem"); (case r58zz => first | exact Nat.le_of_ble_eq_true rfl | omega)); intro _ _))
  k_with "loadName" => (((with_reducible refine' ldnq ?r59zF ?r59zv ?r59zk ?r59zl ?_); (case r59zF => with_reducible assumption); (case r59zl => decide +kernel); (case r59zv => k_dflt (first | with_reducible assumption | exact @rfl _ (some _) | assumption)); (case r59zk => exact rfl)))
  k_with "kv" => (with_reducible first | exact kv_held | exact kv_temps | exact kv_given | exact kv_out | exact kv_count)
  k_with "stitem" => ((k_dflt (refine' st_item ?r61zN ?r61zm ?r61zd ?r61zv ?_ ?r61zh6; (case r61zN => k_asm); (case r61zm => k_extra "mem"); (case r61zd => with_reducible assumption); (case r61zv => k_extra "kv"); (case r61zh6 => with_unfolding_all rfl))))
  k_with "subscriptTail Name Constant ref str" => (k_extra "stitem")
  k_with "call type:range" => ((k_dflt (first | (refine' range1_rows ?r63zF ?r63zN ?_; (case r63zF => k_asm); (case r63zN => k_asm)) | (refine' range2_rows ?r63zF ?r63zN ?_; (case r63zF => k_asm); (case r63zN => k_asm))); intro zq_h' zq_tk' zq_t9 zq_u9 zq_w9 zq_R' zq_F' zq_N' zq_kp'; clear zq_kp'; (try k_sweep)))
  k_with "TurnPost" => ((with_reducible refine TurnPost.contI ?_))
  k_with "unpackItems ref" => ((k_dflt (refine' unpackItemsN_ ?r65zF ?r65zN ?r65zT ?r65zh ?r65z2 ?_; (case r65zF => k_asm); (case r65zN => k_asm); (case r65zT => (refine' News.isTup ?r65zy1 ?r65zy2; (case r65zy1 => k_asm); (case r65zy2 => k_extra "mem"))); (case r65zh => k_extra "handled"); (case r65z2 => exact rfl)); intro zq_h' zq_F' zq_N'; (try k_sweep)))
  k_with "storeName" => (((k_dflt (refine' store_let ?r66zF ?r66zN ?_ ?r66za ?r66zb; (case r66zF => k_asm); (case r66zN => k_asm); (case r66za => rfl); (case r66zb => rfl); k_whole)); (intro zq_mk zq_h' zq_F' zq_N'); (try k_sweep)))
  k_with "callWith" => (((with_reducible show wpAny _ _ (callWith _ (Value.builtin "list.append") _ _ _) _ _ _); (k_dflt (refine callWith_method1 ?_))))
  intro A env outer A₀ base h₀ L m s Q E hh hA hf hke hd hu B F X N T ret
  obtain ⟨m1, m2, m3, m4, m5, m6⟩ := CA.mems hsub
  clear hsub
  obtain ⟨x, dx, V, H, I, O, t1, t2, t3, t4, t5, tn, h1, h2, h3, h4, h5, oV, oH, oI, oO⟩ := a
  dsimp only at *
  rcases ar_or j with hj | hj <;> rcases ar_or k with hk | hk <;> rw [hj] at hv <;> rw [hk] at hw
  all_goals (
    first | (obtain ⟨v1, rfl⟩ := len1 hv) | (obtain ⟨v1, v2, rfl⟩ := len2 hv)
    first | (obtain ⟨w1, rfl⟩ := len1 hw) | (obtain ⟨w1, w2, rfl⟩ := len2 hw)
    clear hv hw hj hk
    refine wpAny_call ?_
    k_dflt (k_extra "my_enter")
    k_steps
    exact ret _ _ _ _ (by assumption) (by assumption) ⟨rfl, rfl⟩)
set_option maxRecDepth 100000 in
set_option maxHeartbeats 0 in
theorem shape_eq (c : Cx) {a : CA} {st : CS} {ia ra : Addr} {vs ws : List Value} {ps qs : List Pt} {k : Kd} {tk tk' : Tok} {n n' : Nat} {news : List (Addr × Obj)} (hsub : ∀ p ∈ a.fp st.nv, p ∈ news)
    (hi : (ia, tupOf (Value.str k.name tk :: vs).toArray n) ∈ news) (hr : (ra, tupOf (Value.str k.name tk' :: ws).toArray n') ∈ news) (hv : All2 (PtAt news) vs ps) (hw : All2 (PtAt news) ws qs) (hsh : Sh ps qs) :
    Ct c 84 3 100 [.ref a.x, .ref ia, .ref ra] news (fun v news' => v = .bool (okPs ps qs) ∧ news' = news) := by
  have hne : (k.name != k.name) = false := by simp
  unfold Ct PR
  k_fill
  intro A env outer A₀ base h₀ L m s Q E hh hA hf hke hd hu B F X N T ret
  obtain ⟨m1, m2, m3, m4, m5, m6⟩ := CA.mems hsub
  clear hsub
  obtain ⟨x, dx, V, H, I, O, t1, t2, t3, t4, t5, tn, h1, h2, h3, h4, h5, oV, oH, oI, oO⟩ := a
  dsimp only at *
  cases hsh
  all_goals (
    first | (obtain ⟨v1, rfl, p1⟩ := hv.one) | (obtain ⟨v1, v2, rfl, p1, p2⟩ := hv.two)
    first | (obtain ⟨w1, rfl, q1⟩ := hw.one) | (obtain ⟨w1, w2, rfl, q1, q2⟩ := hw.two)
    clear hv hw
    first | (replace p1 := p1.toOp; cases p1) | (obtain ⟨u1, rfl⟩ := p1.toInt; clear p1)
    first | (replace q1 := q1.toOp; cases q1) | (obtain ⟨u3, rfl⟩ := q1.toInt; clear q1)
    try first | (replace p2 := p2.toOp; cases p2) | (obtain ⟨u2, rfl⟩ := p2.toInt; clear p2)
    try first | (replace q2 := q2.toOp; cases q2) | (obtain ⟨u4, rfl⟩ := q2.toInt; clear q2)
    refine wpAny_call ?_
    k_dflt (k_extra "my_enter")
    k_steps
    all_goals (refine ret _ _ _ _ (by assumption) (by assumption) ⟨?_, rfl⟩)
    all_goals (first | done | (simp [okPs, okP, isX, *]; done) | skip))
end
section
noncomputable def standB (st : CS) (r : Row) : Bool := if r.k = .call then st.out.all (fun q => decide ((lk st.held q.1).getD 0 = q.2)) else true
theorem lk_of_get {α : Type} {al : List (Int × α)} (hn : (al.map (·.1)).Nodup) {i : Nat} {k : Int} {v : α} (h : al[i]? = some (k, v)) : lk al k = some v := by
  unfold lk
  induction al generalizing i with
  | nil => simp at h
  | cons p al ih =>
    rw [List.map_cons, List.nodup_cons] at hn
    rw [List.find?_cons]
    cases i with
    | zero => simp at h; subst h; simp
    | succ i =>
      simp at h
      have hne : p.1 ≠ k := fun e => hn.1 (e ▸ List.mem_map.mpr ⟨(k, v), List.mem_of_getElem? h, rfl⟩)
      simp only [hne, decide_false]
      exact ih hn.2 h
theorem all2_keys {α : Type} {V : Value → α → Prop} {kvs : List (Int × Value)} {al : List (Int × α)} (h : All2 (fun (kv : Int × Value) (p : Int × α) => kv.1 = p.1 ∧ V kv.2 p.2) kvs al) : kvs.map (·.1) = al.map (·.1) := by
  induction h with
  | nil => rfl
  | cons x _ ih => rw [List.map_cons, List.map_cons, ih, x.1]
theorem DI.nodup {w : World} {o : Obj} {al : List (Int × Int)} (h : DI w o al) : (al.map (·.1)).Nodup := by
  obtain ⟨kvs, ⟨es, ep, _, _, _, _, hn⟩, ha⟩ := h
  rw [← all2_keys (V := fun v a => ∃ t, v = .int a t) ha]; exact hn
theorem stand_false {st : CS} {r : Row} {k v : Int} (hr : r.k = .call) (hm : (k, v) ∈ st.out) (h : (lk st.held k).getD 0 ≠ v) : standB st r = false := by
  unfold standB
  rw [if_pos hr, List.all_eq_false]
  exact ⟨(k, v), hm, by simpa using h⟩
theorem stand_true {st : CS} {r : Row} (h : ∀ q ∈ st.out, (lk st.held q.1).getD 0 = q.2) : standB st r = true := by
  unfold standB
  split
  · rw [List.all_eq_true]; exact fun q hq => decide_eq_true (h q hq)
  · rfl
theorem take_step {α : Type} {l : List α} {i : Nat} {a : α} {P : α → Prop} (h : ∀ q ∈ l.take i, P q) (ha : l[i]? = some a) (hp : P a) : ∀ q ∈ l.take (i + 1), P q := by
  intro q hq
  rw [List.take_add_one, ha] at hq
  rcases List.mem_append.mp hq with hq | hq
  · exact h q hq
  · simp at hq; subst hq; exact hp
section
set_option maxRecDepth 100000 in
set_option maxHeartbeats 0 in
theorem stand_ct (c : Cx) {a : CA} {st : CS} {iv : Value} {r : Row} {news : List (Addr × Obj)} (hS : CkS c.w a st) (hsub : ∀ p ∈ a.fp st.nv, p ∈ news) (hr : RowAt news iv r) :
    Ct c 98 4 120 [.ref a.x, iv] news (fun v news' => v = .bool (standB st r) ∧ news' = news) := by
  unfold Ct PR
  k_fill
  k_with_none
  k_with "mem" => (first | with_reducible assumption | with_reducible exact List.mem_cons_self | (with_reducible refine List.mem_cons_of_mem _ ?_; k_extra "mem") | (with_reducible refine List.mem_append_left _ ?_; k_extra "mem") | (with_reducible refine List.mem_append_right _ ?_; k_extra "mem"))
  k_with "my_enter" => ((refine' code_def ?r2zk1 ?r2zk2 ?r2zk3 ?r2zk4 ?r2zk5 ?r2zkA ?r2zkF ?r2zkK ?r2zk6 ?r2zk7 ?r2zk8 ?r2zk9 ?r2zkB ?_ ?r2zc2 ?r2zc3 ?r2zc4 ?r2zc5; (case r2zkA => assumption); (case r2zkF => assumption); (case r2zkK => assumption); (case r2zk1 => k_asm); (case r2zk2 => k_asm); (case r2zk3 => k_asm); (case r2zk4 => k_asm); (case r2zk5 => k_asm); (case r2zk6 => k_is); (case r2zk7 => k_is); (case r2zk8 => omega); (case r2zk9 => exact BindsTo.of_eq rfl); (case r2zc5 => decide); (case r2zkB => exact locs rfl); (case r2zc2 => exact rfl); (case r2zc3 => exact rfl); (case r2zc4 => exact rfl); k_whole; intro zq_g' zq_L' zq_h' zq_FG' zq_F' zq_N' zq_B' zq_X' zq_T'; (try dsimp only); (try k_fold)))
  k_with "mysub" => (((with_reducible show wpAny _ _ (subscriptTail _ _ (Value.ref _) (Value.int _ _)) _ _ _); (with_unfolding_all first | (refine' sub_tup ?r3zN ?r3zm ?r3zi ?r3zj ?r3zx ?_ ?r3zh6; (case r3zN => k_asm); (case r3zm => k_extra "mem"); (case r3zi => exact rfl); (case r3zj => decide); (case r3zx => exact rfl); (case r3zh6 => rfl); k_whole) | (refine' sub_list ?r3zN ?r3zm ?r3zi ?r3zj ?r3zx ?_ ?r3zh6; (case r3zN => k_asm); (case r3zm => k_extra "mem"); (case r3zi => exact rfl); (case r3zj => omega); (case r3zx => assumption); (case r3zh6 => rfl); k_whole) | (refine' sub_list ?r3zN ?r3zm ?r3zi ?r3zj ?r3zx ?_ ?r3zh6; (case r3zN => k_asm); (case r3zm => k_extra "mem"); (case r3zi => exact rfl); (case r3zj => decide); (case r3zx => exact rfl); (case r3zh6 => rfl); k_whole) | (refine' di_item ?r3zN ?r3zm ?r3zd ?r3zv ?_ ?r3zh6; (case r3zN => k_asm); (case r3zm => k_extra "mem"); (case r3zd => with_reducible assumption); (case r3zv => with_reducible assumption); (case r3zh6 => rfl); k_whole; intro _) | (refine' ds_item ?r3zN ?r3zm ?r3zd ?r3zv ?_ ?r3zh6; (case r3zN => k_asm); (case r3zm => k_extra "mem"); (case r3zd => with_reducible assumption); (case r3zv => with_reducible assumption); (case r3zh6 => rfl); k_whole; intro _))))
  k_with "subscriptTail" => (k_extra "mysub")
  k_with "subscriptTail Name Constant ref int" => (k_extra "mysub")
  k_with "subscriptTail Name Name ref int" => (k_extra "mysub")
  k_with "subscriptTail Attribute Name Subscript Name Constant ref int" => (k_extra "mysub")
  k_with "getMethod ref" => (((with_reducible show wpAny _ _ (getMethod (Value.ref _) (PySem.Str.ofString "get") _) _ _ _); k_dflt (first | (refine' di_method ?r8zN ?r8zm ?r8zd ?_; (case r8zN => k_asm); (case r8zm => k_extra "mem"); (case r8zd => with_reducible assumption)) | (refine' ds_method ?r8zN ?r8zm ?r8zd ?_; (case r8zN => k_asm); (case r8zm => k_extra "mem"); (case r8zd => with_reducible assumption)))))
  k_with "call builtin:dict.get" => ((k_dflt (first | (refine' di_get ?r9zN ?r9zm ?r9zd ?r9zlo ?_; (case r9zN => k_asm); (case r9zm => k_extra "mem"); (case r9zd => with_reducible assumption); (case r9zlo => with_reducible assumption)) | (refine' ds_get ?r9zN ?r9zm ?r9zd ?r9zlo ?_; (case r9zN => k_asm); (case r9zm => k_extra "mem"); (case r9zd => with_reducible assumption); (case r9zlo => with_reducible assumption))); intro _))
  k_with "compareOp NotIn int ref" => ((k_dflt (refine' di_notin2 ?r10zN ?r10zm ?r10zd ?r10zlo ?_ ?_; (case r10zN => k_asm); (case r10zm => k_extra "mem"); (case r10zd => with_reducible assumption); (case r10zlo => with_reducible assumption)); intros))
  k_with "ite" => (with_reducible first | refine ite_t ?_ | refine ite_f ?_ | (refine' ite_bt ?r11zh ?_; (case r11zh => assumption)) | (refine' ite_bf ?r11zh ?_; (case r11zh => assumption)))
  k_with "opAt" => (first | with_reducible assumption | (refine' OpAt.mono ?r12zs ?r12zh; (case r12zh => with_reducible assumption); (case r12zs => k_extra "sub")) | (refine' OpAt.t ?r12zq; (case r12zq => k_extra "mem")) | (refine' OpAt.a ?r12zq; (case r12zq => k_extra "mem")) | (refine' OpAt.y ?r12zq; (case r12zq => k_extra "mem")) | (refine' OpAt.x ?r12zq; (case r12zq => k_extra "mem")))
  k_with "units" => (first | exact un1 (by with_reducible assumption) rfl | exact un0 (by with_reducible assumption) rfl | exact un2 (by with_reducible assumption) rfl | (simp only [units_in1, units_deeper, Around.mark_units, units_caller] at *; omega))
  k_with "compareOp Eq ref ref" => ((k_dflt (refine' op_eq ?r14zN ?r14za ?r14zb ?r14zu ?_; (case r14zN => k_asm); (case r14za => k_extra "opAt"); (case r14zb => k_extra "opAt"); (case r14zu => k_extra "units"); k_whole)))
  k_with "compareOp NotEq ref ref" => ((k_dflt (refine' op_ne ?r15zN ?r15za ?r15zb ?r15zu ?_; (case r15zN => k_asm); (case r15za => k_extra "opAt"); (case r15zb => k_extra "opAt"); (case r15zu => k_extra "units"); k_whole)))
  k_with "ne" => (first | with_reducible assumption | with_reducible exact Ne.symm (by with_reducible assumption) | with_reducible exact lt_ne_1 (by with_reducible assumption) | with_reducible exact lt_ne_2 (by with_reducible assumption) | with_reducible exact lt_ne_3 (by with_reducible assumption) | with_reducible exact lt_ne_4 (by with_reducible assumption) | with_reducible exact lt_ne_5 (by with_reducible assumption) | with_reducible exact lt_ne_6 (by with_reducible assumption) | with_reducible exact lt_ne_7 (by with_reducible assumption) | with_reducible exact lt_ne_8 (by with_reducible assumption) | with_reducible exact Ne.symm (lt_ne_1 (by with_reducible assumption)) | with_reducible exact Ne.symm (lt_ne_2 (by with_reducible assumption)) | with_reducible exact Ne.symm (lt_ne_3 (by with_reducible assumption)) | with_reducible exact Ne.symm (lt_ne_4 (by with_reducible assumption)) | with_reducible exact Ne.symm (lt_ne_5 (by with_reducible assumption)) | with_reducible exact Ne.symm (lt_ne_6 (by with_reducible assumption)) | with_reducible exact Ne.symm (lt_ne_7 (by with_reducible assumption)) | with_reducible exact Ne.symm (lt_ne_8 (by with_reducible assumption)) | omega)
  k_with "allne" => (first | with_reducible assumption | (refine' ne_of_lt_all ?r17zz; (case r17zz => with_reducible assumption)) | (refine' ne_of_fresh ?r17zz ?r17zm; (case r17zz => with_reducible assumption); (case r17zm => k_extra "mem")) | exact List.forall_mem_nil _ | (refine' List.forall_mem_cons.mpr ⟨?r17za, ?r17zb⟩; (case r17za => ((try dsimp only); k_extra "ne")); (case r17zb => k_extra "allne")))
  k_with "updF" => (first | (refine' UpdF.head ?r18za; (case r18za => k_extra "allne")) | (refine' UpdF.tail ?r18za ?r18zb; (case r18za => ((try dsimp only); k_extra "ne")); (case r18zb => k_extra "updF")))
  k_with "setItem ref int" => ((k_dflt (first | (refine' di_set ?r19zF ?r19zN ?r19zU ?r19zd ?r19zz ?_; (case r19zF => k_asm); (case r19zN => k_asm); (case r19zU => k_extra "updF"); (case r19zd => with_reducible assumption); (case r19zz => omega)) | (refine' ds_set ?r19zF ?r19zN ?r19zU ?r19zd ?r19zz ?_; (case r19zF => k_asm); (case r19zN => k_asm); (case r19zU => k_extra "updF"); (case r19zd => with_reducible assumption); (case r19zz => omega))); intro zq_h' zq_o' zq_F' zq_N' zq_hd'; (try dsimp only at zq_N'); (try k_sweep)))
  k_with "ifline" => (first | ((with_reducible refine' if_ne ?r20zF ?r20zv ?r20zn ?_ ?r20zk ?r20zl ?r20zd); (case r20zF => k_asm); (case r20zv => with_unfolding_all rfl); (case r20zn => decide +kernel); (case r20zk => rfl); (case r20zl => rfl); (case r20zd => decide); intro _) | ((with_reducible refine' if_eq ?r20zF ?r20zv ?r20zn ?_ ?r20zk ?r20zl ?r20zd); (case r20zF => k_asm); (case r20zv => with_unfolding_all rfl); (case r20zn => decide +kernel); (case r20zk => rfl); (case r20zl => rfl); (case r20zd => decide); intro _; dsimp only) | ((with_reducible refine' ifo_ne ?r20zF ?r20zv ?r20zn ?_ ?r20zk ?r20zl ?r20zd); (case r20zF => k_asm); (case r20zv => with_unfolding_all rfl); (case r20zn => decide +kernel); (case r20zk => rfl); (case r20zl => rfl); (case r20zd => decide); intro _) | ((with_reducible refine' ifo_eq ?r20zF ?r20zv ?r20zn ?_ ?r20zk ?r20zl ?r20zd); (case r20zF => k_asm); (case r20zv => with_unfolding_all rfl); (case r20zn => decide +kernel); (case r20zk => rfl); (case r20zl => rfl); (case r20zd => decide); intro _; dsimp only))
  k_with "execs cons" => (((with_reducible show wpAny _ _ (execs (Stmt.If _ _ _ _ :: _) _) _ _ _); k_dflt (k_extra "ifline")))
  k_with "ltall" => (first | assumption | exact tb_ltOf (by assumption) | (refine' tb_ltOf (And.right ?r22zz); (case r22zz => assumption)) | (refine' tb_ltOf (And.right (And.right ?r22zz)); (case r22zz => assumption)) | (refine' tb_ltOf (And.right (And.right (And.right ?r22zz))); (case r22zz => assumption)))
  k_with "fresh" => (first | exact FreshOver.nil | (refine' FreshOver.cons ?r23za ?r23zb; (case r23za => ((try dsimp only); k_extra "ltall")); (case r23zb => k_extra "fresh")))
  k_with "pairs" => (first | exact All2.nil | (refine' All2.cons ?r24za ?r24zb; (case r24za => (refine' PairAt.mk ?r24zc; (case r24zc => k_extra "mem"))); (case r24zb => k_extra "pairs")))
  k_with "upd" => (first | (refine' upd_app ?r25za ?r25zb; (case r25za => k_extra "allne"); (case r25zb => k_extra "upd")) | (refine' Upd.head ?r25za; (case r25za => k_extra "allne")) | (refine' Upd.tail ?r25za ?r25zb; (case r25za => ((try dsimp only); k_extra "ne")); (case r25zb => k_extra "upd")))
  k_with "setAttr ref" => ((k_dflt (refine' set_dict ?r26zF ?r26zX ?r26zN ?r26zI ?r26zd ?r26zs ?r26zp ?r26zt ?r26zh ?r26zl ?r26ze ?r26zU ?r26zz ?_; (case r26zF => k_asm); (case r26zX => k_asm); (case r26zN => k_asm); (case r26zI => k_inst); (case r26zd => exact rfl); (case r26zs => k_is); (case r26zp => k_is); (case r26zt => k_is); (case r26zh => k_is); (case r26zl => k_get); (case r26ze => k_put); (case r26zU => k_extra "upd"); (case r26zz => exact Nat.le_of_ble_eq_true rfl)); intro zq_h' zq_F' zq_N'; (try k_sweep)))
  k_with "compareOp Eq" => ((k_dflt (refine' pt_eq ?r27zN ?r27za ?r27zb ?r27zu ?_; (case r27zN => k_asm); (case r27za => with_reducible assumption); (case r27zb => with_reducible assumption); (case r27zu => k_extra "units"); k_whole)))
  k_with "compareOp NotEq" => ((k_dflt (refine' pt_ne ?r28zN ?r28za ?r28zb ?r28zu ?_; (case r28zN => k_asm); (case r28za => with_reducible assumption); (case r28zb => with_reducible assumption); (case r28zu => k_extra "units"); k_whole)))
  k_with "exec While Compare cons nil" => (first | ((k_dflt (k_extra "while")); (all_goals ((try ((try k_unmd); k_unfold; clear gG)); (try k_unmd); (try k_fold)))) | (k_here; (try k_fold); k_dflt (refine whl_start 100 ?_)))
  k_with "call builtin:isinstance" => ((k_dflt (first | (refine' isi_tup ?r30zF ?r30zX ?r30zN ?r30zm ?_; (case r30zF => k_asm); (case r30zX => k_asm); (case r30zN => k_asm); (case r30zm => k_extra "mem")) | (refine' isi_int ?r30zF ?r30zX ?r30zN ?_; (case r30zF => k_asm); (case r30zX => k_asm); (case r30zN => k_asm))); intro _))
  k_with "eval Name" => (((with_reducible refine' ldq ?r31zF ?r31zv ?r31zk ?r31zl ?r31zd ?_); (case r31zF => with_reducible assumption); (case r31zl => decide +kernel); (case r31zd => decide +kernel); (case r31zv => k_dflt (first | with_reducible assumption | exact @rfl _ (some _) | assumption)); (case r31zk => exact rfl)))
  k_with "TurnPost" => ((first | (with_reducible refine TurnPost.retI ?_) | (with_reducible refine TurnPost.nextI ?_)))
  k_with "exec For" => (((rename Fr _ _ _ _ => zq_lF'); (with_unfolding_all refine' For_invVF zq_lF' ?r33zk1 ?r33zk2 ?_; (case r33zk1 => exact rfl); (case r33zk2 => exact rfl); k_whole)))
  k_with "exec For Name Attribute cons nil" => (walk_at "exec For")
  k_with "exec For Name Name cons nil" => (walk_at "exec For")
  k_with "exec For Name Call cons nil" => (walk_at "exec For")
  k_with "rowAt" => (with_reducible assumption)
  k_with "depth" => (first | exact dp1 (by with_reducible assumption) rfl | exact dp0 (by with_reducible assumption) rfl | exact dp2 (by with_reducible assumption) rfl | (simp only [depth_under_make, depth_under_kw, depth_in1, depth_deeper, depth_caller] at *; omega))
  k_with "exec If" => (first | k_dflt (k_extra "if") | ((with_reducible refine wpAny_If ?_); (try dsimp only)))
  k_with "exec If Compare cons nil" => (walk_at "exec If")
  k_with "exec If BoolOp cons nil" => (walk_at "exec If")
  k_with "exec If Call cons nil" => (walk_at "exec If")
  k_with "exec If UnaryOp cons nil" => (walk_at "exec If")
  k_with "exec If Compare cons cons" => (walk_at "exec If")
  k_with "exec If BoolOp cons cons" => (walk_at "exec If")
  k_with "eval Call" => (((fail_if_success (with_reducible show wpAny _ _ (eval (Expr.Call (Expr.Name (PySem.Str.ofString "range") _) _ _ _) _) _ _ _)); (with_reducible show wpAny _ _ (eval (Expr.Call (Expr.Name _ _) _ _ _) _) _ _ _); k_dflt (refine Call_ ?_)))
  k_with "eval Call Attribute" => ((k_dflt (refine MethodCall_ ?_)))
  k_with "handled" => (first | assumption | exact rfl)
  k_with "frames" => (first | exact rfl | (refine' frames_deeper ?r49zz; (case r49zz => assumption)))
  k_with "pyIter ref" => (((k_dflt (k_extra "loop")); (all_goals ((try ((try k_unmd); k_unfold; clear gG)); (try dsimp only); (try k_unmd); (try k_fold)))))
  k_with "call ref" => (k_dflt (k_extra "call"))
  k_with "sub" => (first | with_reducible assumption | with_reducible exact sub_refl | (with_reducible refine sub_cons ?_; k_extra "sub") | (with_reducible refine sub_app ?_; k_extra "sub"))
  k_with "call builtin:list.append" => ((k_dflt (refine' app_l ?r53zF ?r53zN ?r53zU ?r53zz ?_; (case r53zF => k_asm); (case r53zN => k_asm); (case r53zU => k_extra "upd"); (case r53zz => exact Nat.le_of_ble_eq_true rfl)); intro zq_h' zq_F' zq_N'; (try dsimp only [List.cons_append, List.nil_append] at zq_N'); (try k_sweep)))
  k_with "compareOp In ref ref" => ((k_dflt (first | (refine' in_ops0 ?r54zN ?r54zl ?r54zo ?r54zu ?_; (case r54zN => k_asm); (case r54zl => k_extra "mem"); (case r54zo => k_extra "opAt"); (case r54zu => k_extra "units")) | (refine' in_ops1 ?r54zN ?r54zl ?r54zv ?r54zo ?r54zu ?_; (case r54zN => k_asm); (case r54zl => k_extra "mem"); (case r54zv => k_extra "opAt"); (case r54zo => k_extra "opAt"); (case r54zu => k_extra "units")))))
  k_with "assign Tuple" => ((k_dflt (refine' unpackN_ ?r55zF ?r55zN ?r55zT ?r55zh ?r55z2 ?r55z3 ?_; (case r55zF => k_asm); (case r55zN => k_asm); (case r55zT => (refine' News.isTup ?r55zy1 ?r55zy2; (case r55zy1 => k_asm); (case r55zy2 => k_extra "mem"))); (case r55zh => k_extra "handled"); (case r55z2 => exact rfl); (case r55z3 => exact rfl)); intro zq_h' zq_F' zq_N'; (try k_sweep)))
  k_with "WPost" => ((first | (with_reducible refine WPost.retI ?_) | (with_reducible refine WPost.nextI ?_)))
  k_with "WhlIf" => (((first | (refine' WhlIf.yes ?r57zz ?_; (case r57zz => (refine decide_eq_true ?_; omega))) | (refine' WhlIf.no ?r57zz ?_; (case r57zz => (refine decide_eq_false ?_; omega)))); (try dsimp only); (try k_unmd); (try k_fold)))
  k_with "call builtin:len" => ((k_dflt (refine' len_l ?r58zN ?r58zm ?r58zz ?_; (case r58zN => k_asm); (case r58zm => k_extra "mem"); (case r58zz => first | exact Nat.le_of_ble_eq_true rfl | omega)); intro _ _))
  k_with "loadName" => (((with_reducible refine' ldnq ?r59zF ?r59zv ?r59zk ?r59zl ?_); (case r59zF => with_reducible assumption); (case r59zl => decide +kernel); (case r59zv => k_dflt (first | with_reducible assumption | exact @rfl _ (some _) | assumption)); (case r59zk => exact rfl)))
  k_with "kv" => (with_reducible first | exact kv_held | exact kv_temps | exact kv_given | exact kv_out | exact kv_count)
  k_with "stitem" => ((k_dflt (refine' st_item ?r61zN ?r61zm ?r61zd ?r61zv ?_ ?r61zh6; (case r61zN => k_asm); (case r61zm => k_extra "mem"); (case r61zd => with_reducible assumption); (case r61zv => k_extra "kv"); (case r61zh6 => with_unfolding_all rfl))))
  k_with "subscriptTail Name Constant ref str" => (k_extra "stitem")
  k_with "call type:range" => ((k_dflt (first | (refine' range1_rows ?r63zF ?r63zN ?_; (case r63zF => k_asm); (case r63zN => k_asm)) | (refine' range2_rows ?r63zF ?r63zN ?_; (case r63zF => k_asm); (case r63zN => k_asm))); intro zq_h' zq_tk' zq_t9 zq_u9 zq_w9 zq_R' zq_F' zq_N' zq_kp'; clear zq_kp'; (try k_sweep)))
  k_with "TurnPost" => ((with_reducible refine TurnPost.contI ?_))
  k_with "unpackItems ref" => ((k_dflt (refine' unpackItemsN_ ?r65zF ?r65zN ?r65zT ?r65zh ?r65z2 ?_; (case r65zF => k_asm); (case r65zN => k_asm); (case r65zT => (refine' News.isTup ?r65zy1 ?r65zy2; (case r65zy1 => k_asm); (case r65zy2 => k_extra "mem"))); (case r65zh => k_extra "handled"); (case r65z2 => exact rfl)); intro zq_h' zq_F' zq_N'; (try k_sweep)))
  k_with "storeName" => (((k_dflt (refine' store_let ?r66zF ?r66zN ?_ ?r66za ?r66zb; (case r66zF => k_asm); (case r66zN => k_asm); (case r66za => rfl); (case r66zb => rfl); k_whole)); (intro zq_mk zq_h' zq_F' zq_N'); (try k_sweep)))
  k_with "callWith" => (((with_reducible show wpAny _ _ (callWith _ (Value.builtin "list.append") _ _ _) _ _ _); (k_dflt (refine callWith_method1 ?_))))
  k_with "call ref" => (((with_reducible show wpAny _ _ (call (Value.ref 28) _) _ _ _); (k_dflt (refine' ct_use (ends_ct _ ?r121zr) ?r121zh ?r121zA ?r121zf ?r121zk ?r121zd ?r121zu ?r121zB ?r121zF ?r121zX ?r121zN ?r121zT ?_; (case r121zr => k_extra "rowAt"); (case r121zh => k_extra "handled"); (case r121zA => k_extra "frames"); (case r121zf => exact rfl); (case r121zk => exact rfl); (case r121zd => k_extra "depth"); (case r121zu => k_extra "units"); (case r121zB => k_asm); (case r121zF => k_asm); (case r121zX => k_asm); (case r121zN => k_asm); (case r121zT => k_asm))); intro zq_r' zq_news' zq_h' zq_tk' zq_F' zq_N' zq_p'; (obtain ⟨zq_e1, zq_e2⟩ := zq_p'; subst zq_e1; replace zq_e2 := Eq.symm zq_e2; subst zq_e2); (try k_sweep)))
  intro A env outer A₀ base h₀ L m s Q E hh hA hf hke hd hu B F X N T ret
  obtain ⟨m1, m2, m3, m4, m5, m6⟩ := CA.mems hsub
  clear hsub
  obtain ⟨x, dx, V, H, I, O, t1, t2, t3, t4, t5, tn, h1, h2, h3, h4, h5, oV, oH, oI, oO⟩ := a
  obtain ⟨dV, dH, dI, dO, loV, loH, loI, loO, n1, n2, n3, n4, n5, n6, n7, n8, n9, n10, n11, n12, n13, n14, n15⟩ := hS
  clear n1 n2 n3 n4 n5 n6 n7 n8 n9 n10 n11 n12 n13 n14 n15
  dsimp only at *
  refine wpAny_call ?_
  k_dflt (refine' code_def (binds := [(PySem.Str.ofString "self", .ref x), (PySem.Str.ofString "instruction", iv)]) ?zk1 ?zk2 ?zk3 ?zk4 ?zk5 ?zkA ?zkF ?zkK ?zk6 ?zk7 ?zk8 ?zk9 ?zkB ?_ ?zc2 ?zc3 ?zc4 ?zc5; (case zkA => assumption); (case zkF => assumption); (case zkK => assumption); (case zk1 => k_asm); (case zk2 => k_asm); (case zk3 => k_asm); (case zk4 => k_asm); (case zk5 => k_asm); (case zk6 => k_is); (case zk7 => k_is); (case zk8 => omega); (case zk9 => exact BindsTo.of_eq rfl); (case zc5 => decide); (case zkB => exact locs rfl); (case zc2 => exact rfl); (case zc3 => exact rfl); (case zc4 => exact rfl); k_whole; intro g' L' h' FG' F' N' B' X' T'; (try dsimp only [List.reverse_cons, List.reverse_nil, List.nil_append, List.cons_append] at F'); (try dsimp only); (try k_fold))
  k_with "loop" => (
    (rename Fr _ _ _ _ => lF'); (rename News _ _ _ _ => lN')
    refine dk_iter (al := st.out) (fun i m nx => m (PySem.Str.ofString "self") = some (.ref x) ∧ nx = news ∧ ∀ q ∈ st.out.take i, (lk st.held q.1).getD 0 = q.2) (by assumption) (by assumption) (by assumption) (by assumption) lF' lN' ⟨rfl, rfl, fun _ h => by simp at h⟩ (fun i k v t m₁ nx h' tk' own hget hoff hmem hJ F' N' => ?_) (fun m₁ nx h' tk' hJ F' N' => ?_)
    all_goals (
      (show (let gG : Prop := _; gG)); intro gG; obtain ⟨hself, hnx, hall⟩ := hJ; k_unfold; clear gG
      replace hnx := hnx.symm
      subst hnx
      clear lF' lN'
      change Fr g' L' h' _ at F'
      change News g' L' h' _ at N'
      (try dsimp only))
    (have hlk := lk_of_get dO.nodup hget))
  k_steps
  · refine ret _ _ _ _ (by assumption) (News.sub (by assumption) (fun _ h => List.mem_append_left _ h)) ⟨?_, rfl⟩
    rw [stand_false (by assumption) (List.mem_of_getElem? hget) (by assumption)]
  · exact TurnEnd.intro F' N' (fun _ h => List.mem_append_left _ h) (fun _ h => List.mem_append_right _ h) hoff ⟨hmem, hself, rfl, take_step hall hget (by first | assumption | exact Decidable.of_not_not (by assumption))⟩
  · refine ret _ _ _ _ (by assumption) (by assumption) ⟨?_, rfl⟩
    rw [stand_true (by simpa using hall)]
  · refine ret _ _ _ _ (by assumption) (by assumption) ⟨?_, rfl⟩
    unfold standB
    rw [if_neg (by assumption)]
end
end
section
theorem shape_ct (c : Cx) {a : CA} {st : CS} {iv rv : Value} {r s : Row} {news : List (Addr × Obj)} (hsub : ∀ p ∈ a.fp st.nv, p ∈ news) (hr : RowAt news iv r) (hs : RowAt news rv s) (hw : WA r) (hw' : WR s) :
    Ct c 84 3 100 [.ref a.x, iv, rv] news (fun v news' => v = .bool (shapeB r s) ∧ news' = news) := by
  cases hr with
  | @mk ia tk n j vs ps hi hv =>
  cases hs with
  | @mk ra tk' n' k ws qs hr hq =>
  by_cases hk : j = k
  · subst hk
    have e : shapeB ⟨j, ps⟩ ⟨j, qs⟩ = okPs ps qs := by simp [shapeB]
    rw [e]
    exact shape_eq c hsub hi hr hv hq (sh_of hw hw')
  · have e : shapeB ⟨j, ps⟩ ⟨k, qs⟩ = false := by simp [shapeB, hk]
    rw [e]
    refine shape_ne c hsub hi hr ((all2_length hv).trans (wa_len hw)) ((all2_length hq).trans (wr_len hw')) ?_
    have := Kd.name_beq j k
    rw [decide_eq_false hk] at this
    show (!(j.name == k.name)) = true
    rw [this]; rfl

noncomputable def Row.opA (r : Row) (i : Nat) : Op := match r.ps.getD i (.int 0) with
  | .op o => o
  | .int _ => .y 0
noncomputable def pairsOf (r s : Row) : List (Int × Op × Op) := r.k.roles.map fun x => (x.1, r.opA x.2, s.opA x.2)
noncomputable def twiceB (r : Row) : Bool := match r.ps with
  | [p, q] => decide (p = q)
  | _ => false
noncomputable def mPairs (st : CS) (r : Row) : List (Int × Op × Op) → List Op → Bool
  | [], _ => standB st r
  | (role, o, q) :: rest, wr =>
    if role = 2 then
      if sameWrite o q = true then (if q ∈ wr then twiceB r else mPairs st r rest (wr ++ [q])) else false
    else if sameRead st o q = true then mPairs st r rest wr else false
noncomputable def matchB (st : CS) (r s : Row) : Bool := if shapeB r s = true then mPairs st r (pairsOf r s) [] else false

theorem roles_pat (k : Kd) : k.roles = [] ∨ (∃ i, k.roles = [(1, i)]) ∨ (∃ i, k.roles = [(2, i)]) ∨ (∃ i, k.roles = [(3, i)]) ∨ (∃ i j, k.roles = [(1, i), (1, j)]) ∨ (∃ i j, k.roles = [(1, i), (2, j)]) ∨ (∃ i j, k.roles = [(2, i), (2, j)]) := by
  cases k <;> first | exact .inl rfl | exact .inr (.inl ⟨_, rfl⟩) | exact .inr (.inr (.inl ⟨_, rfl⟩)) | exact .inr (.inr (.inr (.inl ⟨_, rfl⟩))) | exact .inr (.inr (.inr (.inr (.inl ⟨_, _, rfl⟩)))) | exact .inr (.inr (.inr (.inr (.inr (.inl ⟨_, _, rfl⟩))))) | exact .inr (.inr (.inr (.inr (.inr (.inr ⟨_, _, rfl⟩)))))
/-- what is known of one pair of operands -/
structure PairOk (news : List (Addr × Obj)) (role : Int) (v w : Value) (o q : Op) : Prop where
  a : OpAt news v o
  b : OpAt news w q
  ok : OpsOk o q
  wr : role ≠ 1 → ∀ k, o ≠ .y k
theorem pair_r {news : List (Addr × Obj)} {r s : Row} {vs ws : List Value} (hm : Mt r s) (hv : All2 (PtAt news) vs r.ps) (hq : All2 (PtAt news) ws s.ps) (hs : okPs r.ps s.ps = true) :
    ∀ x ∈ r.k.roles, PairOk news x.1 (vs.getD x.2 .none) (ws.getD x.2 .none) (r.opA x.2) (s.opA x.2) := by
  intro x hx
  cases hm <;> simp only [okPs, okP, isX, if_true, if_false, Bool.false_eq_true, decide_eq_true_eq, reduceCtorEq, decide_false] at hs
  all_goals (
    first | (obtain ⟨v1, rfl, p1⟩ := hv.one) | (obtain ⟨v1, v2, rfl, p1, p2⟩ := hv.two)
    first | (obtain ⟨w1, rfl, q1⟩ := hq.one) | (obtain ⟨w1, w2, rfl, q1, q2⟩ := hq.two)
    simp only [Kd.roles, List.mem_cons, List.not_mem_nil, or_false] at hx)
  all_goals (try (rcases hx with rfl | rfl)) <;> (try subst hx)
  all_goals (refine ⟨?_, ?_, ?_, ?_⟩ <;> first | exact p1.toOp | exact p2.toOp | exact q1.toOp | exact q2.toOp | (constructor; done) | (intro _ k h; cases h; done) | (exfalso; revert hs; simp; done) | (intro h; exact absurd rfl h))
theorem pair_ok {news : List (Addr × Obj)} {j : Kd} {vs ws : List Value} {ps qs : List Pt} (hv : All2 (PtAt news) vs ps) (hq : All2 (PtAt news) ws qs) (hw : WA ⟨j, ps⟩) (hw' : WR ⟨j, qs⟩) (hs : okPs ps qs = true) :
    ∀ x ∈ j.roles, PairOk news x.1 (vs.getD x.2 .none) (ws.getD x.2 .none) (Row.opA ⟨j, ps⟩ x.2) (Row.opA ⟨j, qs⟩ x.2) :=
  pair_r (mt_of hw hw' rfl) hv hq hs
theorem OpsOk.isx {o q : Op} (h : OpsOk o q) (hy : ∀ k, o ≠ .y k) : ∃ k, q = .x k := by
  cases h
  · exact ⟨_, rfl⟩
  · exact ⟨_, rfl⟩
  · exact absurd rfl (hy _)
theorem All2.twoL {α β : Type} {R : α → β → Prop} {bs : List β} {p q : α} (h : All2 R [p, q] bs) : ∃ a b, bs = [a, b] ∧ R p a ∧ R q b := by
  cases h with
  | cons x h => cases h with
    | cons y h => cases h; exact ⟨_, _, rfl, x, y⟩
set_option maxRecDepth 100000 in
set_option maxHeartbeats 0 in
theorem matches_ct (c : Cx) {a : CA} {st : CS} {iv rv : Value} {r s' : Row} {news : List (Addr × Obj)} (hS : CkS c.w a st) (hsub : ∀ p ∈ a.fp st.nv, p ∈ news) (hr : RowAt news iv r) (hs : RowAt news rv s') (hw : WA r) (hw' : WR s') :
    Ct c 91 6 150 [.ref a.x, iv, rv] news (fun v news' => v = .bool (matchB st r s') ∧ news' = news) := by
  unfold Ct PR
  k_fill
  intro A env outer A₀ base h₀ L m s Q E hh hA hf hke hd hu B F X N T ret
  obtain ⟨m1, m2, -, -, -, -⟩ := CA.mems hsub
  have hr0 := hr
  have hs0 := hs
  cases hr with
  | @mk ia tk n j vs ps hi hv =>
  cases hs with
  | @mk ra tk' n' k ws qs hrr hq =>
  k_with_none
  k_with "mem" => (first | with_reducible assumption | with_reducible exact List.mem_cons_self | (with_reducible refine List.mem_cons_of_mem _ ?_; k_extra "mem") | (with_reducible refine List.mem_append_left _ ?_; k_extra "mem") | (with_reducible refine List.mem_append_right _ ?_; k_extra "mem"))
  k_with "my_enter" => ((refine' code_def ?r2zk1 ?r2zk2 ?r2zk3 ?r2zk4 ?r2zk5 ?r2zkA ?r2zkF ?r2zkK ?r2zk6 ?r2zk7 ?r2zk8 ?r2zk9 ?r2zkB ?_ ?r2zc2 ?r2zc3 ?r2zc4 ?r2zc5; (case r2zkA => assumption); (case r2zkF => assumption); (case r2zkK => assumption); (case r2zk1 => k_asm); (case r2zk2 => k_asm); (case r2zk3 => k_asm); (case r2zk4 => k_asm); (case r2zk5 => k_asm); (case r2zk6 => k_is); (case r2zk7 => k_is); (case r2zk8 => omega); (case r2zk9 => exact BindsTo.of_eq rfl); (case r2zc5 => decide); (case r2zkB => exact locs rfl); (case r2zc2 => exact rfl); (case r2zc3 => exact rfl); (case r2zc4 => exact rfl); k_whole; intro zq_g' zq_L' zq_h' zq_FG' zq_F' zq_N' zq_B' zq_X' zq_T'; (try dsimp only); (try k_fold)))
  k_with "mysub" => (((with_reducible show wpAny _ _ (subscriptTail _ _ (Value.ref _) (Value.int _ _)) _ _ _); (with_unfolding_all first | (refine' sub_tup ?r3zN ?r3zm ?r3zi ?r3zj ?r3zx ?_ ?r3zh6; (case r3zN => k_asm); (case r3zm => k_extra "mem"); (case r3zi => exact rfl); (case r3zj => decide); (case r3zx => exact rfl); (case r3zh6 => rfl); k_whole) | (refine' sub_list ?r3zN ?r3zm ?r3zi ?r3zj ?r3zx ?_ ?r3zh6; (case r3zN => k_asm); (case r3zm => k_extra "mem"); (case r3zi => exact rfl); (case r3zj => omega); (case r3zx => assumption); (case r3zh6 => rfl); k_whole) | (refine' sub_list ?r3zN ?r3zm ?r3zi ?r3zj ?r3zx ?_ ?r3zh6; (case r3zN => k_asm); (case r3zm => k_extra "mem"); (case r3zi => exact rfl); (case r3zj => decide); (case r3zx => exact rfl); (case r3zh6 => rfl); k_whole) | (refine' di_item ?r3zN ?r3zm ?r3zd ?r3zv ?_ ?r3zh6; (case r3zN => k_asm); (case r3zm => k_extra "mem"); (case r3zd => with_reducible assumption); (case r3zv => with_reducible assumption); (case r3zh6 => rfl); k_whole; intro _) | (refine' ds_item ?r3zN ?r3zm ?r3zd ?r3zv ?_ ?r3zh6; (case r3zN => k_asm); (case r3zm => k_extra "mem"); (case r3zd => with_reducible assumption); (case r3zv => with_reducible assumption); (case r3zh6 => rfl); k_whole; intro _))))
  k_with "subscriptTail" => (k_extra "mysub")
  k_with "subscriptTail Name Constant ref int" => (k_extra "mysub")
  k_with "subscriptTail Name Name ref int" => (k_extra "mysub")
  k_with "subscriptTail Attribute Name Subscript Name Constant ref int" => (k_extra "mysub")
  k_with "getMethod ref" => (((with_reducible show wpAny _ _ (getMethod (Value.ref _) (PySem.Str.ofString "get") _) _ _ _); k_dflt (first | (refine' di_method ?r8zN ?r8zm ?r8zd ?_; (case r8zN => k_asm); (case r8zm => k_extra "mem"); (case r8zd => with_reducible assumption)) | (refine' ds_method ?r8zN ?r8zm ?r8zd ?_; (case r8zN => k_asm); (case r8zm => k_extra "mem"); (case r8zd => with_reducible assumption)))))
  k_with "call builtin:dict.get" => ((k_dflt (first | (refine' di_get ?r9zN ?r9zm ?r9zd ?r9zlo ?_; (case r9zN => k_asm); (case r9zm => k_extra "mem"); (case r9zd => with_reducible assumption); (case r9zlo => with_reducible assumption)) | (refine' ds_get ?r9zN ?r9zm ?r9zd ?r9zlo ?_; (case r9zN => k_asm); (case r9zm => k_extra "mem"); (case r9zd => with_reducible assumption); (case r9zlo => with_reducible assumption))); intro _))
  k_with "compareOp NotIn int ref" => ((k_dflt (refine' di_notin2 ?r10zN ?r10zm ?r10zd ?r10zlo ?_ ?_; (case r10zN => k_asm); (case r10zm => k_extra "mem"); (case r10zd => with_reducible assumption); (case r10zlo => with_reducible assumption)); intros))
  k_with "ite" => (with_reducible first | refine ite_t ?_ | refine ite_f ?_ | (refine' ite_bt ?r11zh ?_; (case r11zh => assumption)) | (refine' ite_bf ?r11zh ?_; (case r11zh => assumption)))
  k_with "opAt" => (first | with_reducible assumption | (refine' OpAt.mono ?r12zs ?r12zh; (case r12zh => with_reducible assumption); (case r12zs => k_extra "sub")) | (refine' OpAt.t ?r12zq; (case r12zq => k_extra "mem")) | (refine' OpAt.a ?r12zq; (case r12zq => k_extra "mem")) | (refine' OpAt.y ?r12zq; (case r12zq => k_extra "mem")) | (refine' OpAt.x ?r12zq; (case r12zq => k_extra "mem")))
  k_with "units" => (first | exact un1 (by with_reducible assumption) rfl | exact un0 (by with_reducible assumption) rfl | exact un2 (by with_reducible assumption) rfl | (simp only [units_in1, units_deeper, Around.mark_units, units_caller] at *; omega))
  k_with "compareOp Eq ref ref" => ((k_dflt (refine' op_eq ?r14zN ?r14za ?r14zb ?r14zu ?_; (case r14zN => k_asm); (case r14za => k_extra "opAt"); (case r14zb => k_extra "opAt"); (case r14zu => k_extra "units"); k_whole)))
  k_with "compareOp NotEq ref ref" => ((k_dflt (refine' op_ne ?r15zN ?r15za ?r15zb ?r15zu ?_; (case r15zN => k_asm); (case r15za => k_extra "opAt"); (case r15zb => k_extra "opAt"); (case r15zu => k_extra "units"); k_whole)))
  k_with "ne" => (first | with_reducible assumption | with_reducible exact Ne.symm (by with_reducible assumption) | with_reducible exact lt_ne_1 (by with_reducible assumption) | with_reducible exact lt_ne_2 (by with_reducible assumption) | with_reducible exact lt_ne_3 (by with_reducible assumption) | with_reducible exact lt_ne_4 (by with_reducible assumption) | with_reducible exact lt_ne_5 (by with_reducible assumption) | with_reducible exact lt_ne_6 (by with_reducible assumption) | with_reducible exact lt_ne_7 (by with_reducible assumption) | with_reducible exact lt_ne_8 (by with_reducible assumption) | with_reducible exact Ne.symm (lt_ne_1 (by with_reducible assumption)) | with_reducible exact Ne.symm (lt_ne_2 (by with_reducible assumption)) | with_reducible exact Ne.symm (lt_ne_3 (by with_reducible assumption)) | with_reducible exact Ne.symm (lt_ne_4 (by with_reducible assumption)) | with_reducible exact Ne.symm (lt_ne_5 (by with_reducible assumption)) | with_reducible exact Ne.symm (lt_ne_6 (by with_reducible assumption)) | with_reducible exact Ne.symm (lt_ne_7 (by with_reducible assumption)) | with_reducible exact Ne.symm (lt_ne_8 (by with_reducible assumption)) | omega)
  k_with "allne" => (first | with_reducible assumption | (refine' ne_of_lt_all ?r17zz; (case r17zz => with_reducible assumption)) | (refine' ne_of_fresh ?r17zz ?r17zm; (case r17zz => with_reducible assumption); (case r17zm => k_extra "mem")) | exact List.forall_mem_nil _ | (refine' List.forall_mem_cons.mpr ⟨?r17za, ?r17zb⟩; (case r17za => ((try dsimp only); k_extra "ne")); (case r17zb => k_extra "allne")))
  k_with "updF" => (first | (refine' UpdF.head ?r18za; (case r18za => k_extra "allne")) | (refine' UpdF.tail ?r18za ?r18zb; (case r18za => ((try dsimp only); k_extra "ne")); (case r18zb => k_extra "updF")))
  k_with "setItem ref int" => ((k_dflt (first | (refine' di_set ?r19zF ?r19zN ?r19zU ?r19zd ?r19zz ?_; (case r19zF => k_asm); (case r19zN => k_asm); (case r19zU => k_extra "updF"); (case r19zd => with_reducible assumption); (case r19zz => omega)) | (refine' ds_set ?r19zF ?r19zN ?r19zU ?r19zd ?r19zz ?_; (case r19zF => k_asm); (case r19zN => k_asm); (case r19zU => k_extra "updF"); (case r19zd => with_reducible assumption); (case r19zz => omega))); intro zq_h' zq_o' zq_F' zq_N' zq_hd'; (try dsimp only at zq_N'); (try k_sweep)))
  k_with "ifline" => (first | ((with_reducible refine' if_ne ?r20zF ?r20zv ?r20zn ?_ ?r20zk ?r20zl ?r20zd); (case r20zF => k_asm); (case r20zv => with_unfolding_all rfl); (case r20zn => decide +kernel); (case r20zk => rfl); (case r20zl => rfl); (case r20zd => decide); intro _) | ((with_reducible refine' if_eq ?r20zF ?r20zv ?r20zn ?_ ?r20zk ?r20zl ?r20zd); (case r20zF => k_asm); (case r20zv => with_unfolding_all rfl); (case r20zn => decide +kernel); (case r20zk => rfl); (case r20zl => rfl); (case r20zd => decide); intro _; dsimp only) | ((with_reducible refine' ifo_ne ?r20zF ?r20zv ?r20zn ?_ ?r20zk ?r20zl ?r20zd); (case r20zF => k_asm); (case r20zv => with_unfolding_all rfl); (case r20zn => decide +kernel); (case r20zk => rfl); (case r20zl => rfl); (case r20zd => decide); intro _) | ((with_reducible refine' ifo_eq ?r20zF ?r20zv ?r20zn ?_ ?r20zk ?r20zl ?r20zd); (case r20zF => k_asm); (case r20zv => with_unfolding_all rfl); (case r20zn => decide +kernel); (case r20zk => rfl); (case r20zl => rfl); (case r20zd => decide); intro _; dsimp only))
  k_with "execs cons" => (((with_reducible show wpAny _ _ (execs (Stmt.If _ _ _ _ :: _) _) _ _ _); k_dflt (k_extra "ifline")))
  k_with "ltall" => (first | assumption | exact tb_ltOf (by assumption) | (refine' tb_ltOf (And.right ?r22zz); (case r22zz => assumption)) | (refine' tb_ltOf (And.right (And.right ?r22zz)); (case r22zz => assumption)) | (refine' tb_ltOf (And.right (And.right (And.right ?r22zz))); (case r22zz => assumption)))
  k_with "fresh" => (first | exact FreshOver.nil | (refine' FreshOver.cons ?r23za ?r23zb; (case r23za => ((try dsimp only); k_extra "ltall")); (case r23zb => k_extra "fresh")))
  k_with "pairs" => (first | exact All2.nil | (refine' All2.cons ?r24za ?r24zb; (case r24za => (refine' PairAt.mk ?r24zc; (case r24zc => k_extra "mem"))); (case r24zb => k_extra "pairs")))
  k_with "upd" => (first | (refine' upd_app ?r25za ?r25zb; (case r25za => k_extra "allne"); (case r25zb => k_extra "upd")) | (refine' Upd.head ?r25za; (case r25za => k_extra "allne")) | (refine' Upd.tail ?r25za ?r25zb; (case r25za => ((try dsimp only); k_extra "ne")); (case r25zb => k_extra "upd")))
  k_with "setAttr ref" => ((k_dflt (refine' set_dict ?r26zF ?r26zX ?r26zN ?r26zI ?r26zd ?r26zs ?r26zp ?r26zt ?r26zh ?r26zl ?r26ze ?r26zU ?r26zz ?_; (case r26zF => k_asm); (case r26zX => k_asm); (case r26zN => k_asm); (case r26zI => k_inst); (case r26zd => exact rfl); (case r26zs => k_is); (case r26zp => k_is); (case r26zt => k_is); (case r26zh => k_is); (case r26zl => k_get); (case r26ze => k_put); (case r26zU => k_extra "upd"); (case r26zz => exact Nat.le_of_ble_eq_true rfl)); intro zq_h' zq_F' zq_N'; (try k_sweep)))
  k_with "compareOp Eq" => ((k_dflt (refine' pt_eq ?r27zN ?r27za ?r27zb ?r27zu ?_; (case r27zN => k_asm); (case r27za => with_reducible assumption); (case r27zb => with_reducible assumption); (case r27zu => k_extra "units"); k_whole)))
  k_with "compareOp NotEq" => ((k_dflt (refine' pt_ne ?r28zN ?r28za ?r28zb ?r28zu ?_; (case r28zN => k_asm); (case r28za => with_reducible assumption); (case r28zb => with_reducible assumption); (case r28zu => k_extra "units"); k_whole)))
  k_with "exec While Compare cons nil" => (first | ((k_dflt (k_extra "while")); (all_goals ((try ((try k_unmd); k_unfold; clear gG)); (try k_unmd); (try k_fold)))) | (k_here; (try k_fold); k_dflt (refine whl_start 100 ?_)))
  k_with "call builtin:isinstance" => ((k_dflt (first | (refine' isi_tup ?r30zF ?r30zX ?r30zN ?r30zm ?_; (case r30zF => k_asm); (case r30zX => k_asm); (case r30zN => k_asm); (case r30zm => k_extra "mem")) | (refine' isi_int ?r30zF ?r30zX ?r30zN ?_; (case r30zF => k_asm); (case r30zX => k_asm); (case r30zN => k_asm))); intro _))
  k_with "eval Name" => (((with_reducible refine' ldq ?r31zF ?r31zv ?r31zk ?r31zl ?r31zd ?_); (case r31zF => with_reducible assumption); (case r31zl => decide +kernel); (case r31zd => decide +kernel); (case r31zv => k_dflt (first | with_reducible assumption | exact @rfl _ (some _) | assumption)); (case r31zk => exact rfl)))
  k_with "TurnPost" => ((first | (with_reducible refine TurnPost.retI ?_) | (with_reducible refine TurnPost.nextI ?_)))
  k_with "exec For" => (((rename Fr _ _ _ _ => zq_lF'); (with_unfolding_all refine' For_invVF zq_lF' ?r33zk1 ?r33zk2 ?_; (case r33zk1 => exact rfl); (case r33zk2 => exact rfl); k_whole)))
  k_with "exec For Name Attribute cons nil" => (walk_at "exec For")
  k_with "exec For Name Name cons nil" => (walk_at "exec For")
  k_with "exec For Name Call cons nil" => (walk_at "exec For")
  k_with "rowAt" => (with_reducible assumption)
  k_with "depth" => (first | exact dp1 (by with_reducible assumption) rfl | exact dp0 (by with_reducible assumption) rfl | exact dp2 (by with_reducible assumption) rfl | (simp only [depth_under_make, depth_under_kw, depth_in1, depth_deeper, depth_caller] at *; omega))
  k_with "exec If" => (first | k_dflt (k_extra "if") | ((with_reducible refine wpAny_If ?_); (try dsimp only)))
  k_with "exec If Compare cons nil" => (walk_at "exec If")
  k_with "exec If BoolOp cons nil" => (walk_at "exec If")
  k_with "exec If Call cons nil" => (walk_at "exec If")
  k_with "exec If UnaryOp cons nil" => (walk_at "exec If")
  k_with "exec If Compare cons cons" => (walk_at "exec If")
  k_with "exec If BoolOp cons cons" => (walk_at "exec If")
  k_with "eval Call" => (((fail_if_success (with_reducible show wpAny _ _ (eval (Expr.Call (Expr.Name (PySem.Str.ofString "range") _) _ _ _) _) _ _ _)); (with_reducible show wpAny _ _ (eval (Expr.Call (Expr.Name _ _) _ _ _) _) _ _ _); k_dflt (refine Call_ ?_)))
  k_with "eval Call Attribute" => ((k_dflt (refine MethodCall_ ?_)))
  k_with "handled" => (first | assumption | exact rfl)
  k_with "frames" => (first | exact rfl | (refine' frames_deeper ?r49zz; (case r49zz => assumption)))
  k_with "pyIter ref" => (((k_dflt (k_extra "loop")); (all_goals ((try ((try k_unmd); k_unfold; clear gG)); (try dsimp only); (try k_unmd); (try k_fold)))))
  k_with "call ref" => (k_dflt (k_extra "call"))
  k_with "sub" => (first | with_reducible assumption | with_reducible exact sub_refl | (with_reducible refine sub_cons ?_; k_extra "sub") | (with_reducible refine sub_app ?_; k_extra "sub"))
  k_with "call builtin:list.append" => ((k_dflt (refine' app_l ?r53zF ?r53zN ?r53zU ?r53zz ?_; (case r53zF => k_asm); (case r53zN => k_asm); (case r53zU => k_extra "upd"); (case r53zz => exact Nat.le_of_ble_eq_true rfl)); intro zq_h' zq_F' zq_N'; (try dsimp only [List.cons_append, List.nil_append] at zq_N'); (try k_sweep)))
  k_with "compareOp In ref ref" => ((k_dflt (first | (refine' in_ops0 ?r54zN ?r54zl ?r54zo ?r54zu ?_; (case r54zN => k_asm); (case r54zl => k_extra "mem"); (case r54zo => k_extra "opAt"); (case r54zu => k_extra "units")) | (refine' in_ops1 ?r54zN ?r54zl ?r54zv ?r54zo ?r54zu ?_; (case r54zN => k_asm); (case r54zl => k_extra "mem"); (case r54zv => k_extra "opAt"); (case r54zo => k_extra "opAt"); (case r54zu => k_extra "units")))))
  k_with "assign Tuple" => ((k_dflt (refine' unpackN_ ?r55zF ?r55zN ?r55zT ?r55zh ?r55z2 ?r55z3 ?_; (case r55zF => k_asm); (case r55zN => k_asm); (case r55zT => (refine' News.isTup ?r55zy1 ?r55zy2; (case r55zy1 => k_asm); (case r55zy2 => k_extra "mem"))); (case r55zh => k_extra "handled"); (case r55z2 => exact rfl); (case r55z3 => exact rfl)); intro zq_h' zq_F' zq_N'; (try k_sweep)))
  k_with "WPost" => ((first | (with_reducible refine WPost.retI ?_) | (with_reducible refine WPost.nextI ?_)))
  k_with "WhlIf" => (((first | (refine' WhlIf.yes ?r57zz ?_; (case r57zz => (refine decide_eq_true ?_; omega))) | (refine' WhlIf.no ?r57zz ?_; (case r57zz => (refine decide_eq_false ?_; omega)))); (try dsimp only); (try k_unmd); (try k_fold)))
  k_with "call builtin:len" => ((k_dflt (refine' len_l ?r58zN ?r58zm ?r58zz ?_; (case r58zN => k_asm); (case r58zm => k_extra "mem"); (case r58zz => first | exact Nat.le_of_ble_eq_true rfl | omega)); intro _ _))
  k_with "loadName" => (((with_reducible refine' ldnq ?r59zF ?r59zv ?r59zk ?r59zl ?_); (case r59zF => with_reducible assumption); (case r59zl => decide +kernel); (case r59zv => k_dflt (first | with_reducible assumption | exact @rfl _ (some _) | assumption)); (case r59zk => exact rfl)))
  k_with "kv" => (with_reducible first | exact kv_held | exact kv_temps | exact kv_given | exact kv_out | exact kv_count)
  k_with "stitem" => ((k_dflt (refine' st_item ?r61zN ?r61zm ?r61zd ?r61zv ?_ ?r61zh6; (case r61zN => k_asm); (case r61zm => k_extra "mem"); (case r61zd => with_reducible assumption); (case r61zv => k_extra "kv"); (case r61zh6 => with_unfolding_all rfl))))
  k_with "subscriptTail Name Constant ref str" => (k_extra "stitem")
  k_with "call type:range" => ((k_dflt (first | (refine' range1_rows ?r63zF ?r63zN ?_; (case r63zF => k_asm); (case r63zN => k_asm)) | (refine' range2_rows ?r63zF ?r63zN ?_; (case r63zF => k_asm); (case r63zN => k_asm))); intro zq_h' zq_tk' zq_t9 zq_u9 zq_w9 zq_R' zq_F' zq_N' zq_kp'; clear zq_kp'; (try k_sweep)))
  k_with "TurnPost" => ((with_reducible refine TurnPost.contI ?_))
  k_with "unpackItems ref" => ((k_dflt (refine' unpackItemsN_ ?r65zF ?r65zN ?r65zT ?r65zh ?r65z2 ?_; (case r65zF => k_asm); (case r65zN => k_asm); (case r65zT => (refine' News.isTup ?r65zy1 ?r65zy2; (case r65zy1 => k_asm); (case r65zy2 => k_extra "mem"))); (case r65zh => k_extra "handled"); (case r65z2 => exact rfl)); intro zq_h' zq_F' zq_N'; (try k_sweep)))
  k_with "storeName" => (((k_dflt (refine' store_let ?r66zF ?r66zN ?_ ?r66za ?r66zb; (case r66zF => k_asm); (case r66zN => k_asm); (case r66za => rfl); (case r66zb => rfl); k_whole)); (intro zq_mk zq_h' zq_F' zq_N'); (try k_sweep)))
  k_with "callWith" => (((with_reducible show wpAny _ _ (callWith _ (Value.builtin "list.append") _ _ _) _ _ _); (k_dflt (refine callWith_method1 ?_))))
  k_with "exec If BoolOp cons nil" => (((try k_unmd); (try k_fold); walk_at "exec If"))
  k_with "call" => ((with_reducible show wpAny _ _ (call (Value.ref 84) _) _ _ _); (k_dflt (refine' ct_use_eq (shape_ct c hsub hr0 hs0 hw hw') ?zh ?zA ?zf ?zk ?zd ?zu ?zB ?zF ?zX ?zN ?zT ?_; (case zN => k_asm);  (case zh => k_extra "handled"); (case zA => k_extra "frames"); (case zf => exact rfl); (case zk => exact rfl); (case zd => k_extra "depth"); (case zu => k_extra "units"); (case zB => k_asm); (case zF => k_asm); (case zX => k_asm); (case zT => k_asm))); (intro h' tk' F' N'); (try k_sweep))
  cases hsh : shapeB ⟨j, ps⟩ ⟨k, qs⟩ with
  | false =>
    have hm : matchB st ⟨j, ps⟩ ⟨k, qs⟩ = false := by unfold matchB; rw [hsh]; rfl
    refine wpAny_call ?_
    k_dflt (refine' code_def (binds := [(PySem.Str.ofString "self", .ref a.x), (PySem.Str.ofString "instruction", .ref ia), (PySem.Str.ofString "real", .ref ra)]) ?zk1 ?zk2 ?zk3 ?zk4 ?zk5 ?zkA ?zkF ?zkK ?zk6 ?zk7 ?zk8 ?zk9 ?zkB ?_ ?zc2 ?zc3 ?zc4 ?zc5; (case zkA => assumption); (case zkF => assumption); (case zkK => assumption); (case zk1 => k_asm); (case zk2 => k_asm); (case zk3 => k_asm); (case zk4 => k_asm); (case zk5 => k_asm); (case zk6 => k_is); (case zk7 => k_is); (case zk8 => omega); (case zk9 => exact BindsTo.of_eq rfl); (case zc5 => decide); (case zkB => exact locs rfl); (case zc2 => exact rfl); (case zc3 => exact rfl); (case zc4 => exact rfl); k_whole; intro g' L' h' FG' F' N' B' X' T'; (try dsimp only [List.reverse_cons, List.reverse_nil, List.nil_append, List.cons_append] at F'); (try dsimp only); (try k_fold))
    k_steps
    refine ret _ _ _ _ (by assumption) (by assumption) ⟨?_, rfl⟩
    rw [hm]
  | true =>
    obtain ⟨hjk, hok⟩ : j = k ∧ okPs ps qs = true := by simpa [shapeB] using hsh
    subst hjk
    have hpo := pair_ok hv hq hw hw' hok
    have hl1 : vs.length = j.ar := (all2_length hv).trans (wa_len hw)
    have hl2 : ws.length = j.ar := (all2_length hq).trans (wr_len hw')
    have hmb : matchB st ⟨j, ps⟩ ⟨j, qs⟩ = mPairs st ⟨j, ps⟩ (pairsOf ⟨j, ps⟩ ⟨j, qs⟩) [] := by unfold matchB; rw [hsh]; rfl
    rw [hmb] at ret
    clear hmb hok
    unfold pairsOf at ret
    rcases roles_pat j with hk | ⟨i1, hk⟩ | ⟨i1, hk⟩ | ⟨i1, hk⟩ | ⟨i1, i2, hk⟩ | ⟨i1, i2, hk⟩ | ⟨i1, i2, hk⟩
    · dsimp only at ret
      simp only [hk, List.map_cons, List.map_nil] at ret
      clear hpo
      k_with "call" => ((with_reducible show wpAny _ _ (call (Value.ref 84) _) _ _ _); (k_dflt (refine' ct_use_eq (shape_ct c hsub hr0 hs0 hw hw') ?zh ?zA ?zf ?zk ?zd ?zu ?zB ?zF ?zX ?zN ?zT ?_; (case zN => k_asm);  (case zh => k_extra "handled"); (case zA => k_extra "frames"); (case zf => exact rfl); (case zk => exact rfl); (case zd => k_extra "depth"); (case zu => k_extra "units"); (case zB => k_asm); (case zF => k_asm); (case zX => k_asm); (case zT => k_asm))); (intro h' tk' F' N'); (try k_sweep))
      k_with "call" => ((with_reducible show wpAny _ _ (call (Value.ref 21) _) _ _ _); (k_dflt (refine' ct_use_ro (roles_ct c ?y6 ?y7) ?zh ?zA ?zf ?zk ?zd ?zu ?zB ?zF ?zX ?zN ?zT ?_; (case zN => k_asm); (case y6 => k_extra "mem"); (case y7 => assumption); (case zh => k_extra "handled"); (case zA => k_extra "frames"); (case zf => exact rfl); (case zk => exact rfl); (case zd => k_extra "depth"); (case zu => k_extra "units"); (case zB => k_asm); (case zF => k_asm); (case zX => k_asm); (case zT => k_asm))); (intro l9 n9 pv9 tl9 h' tk' F' N' hP9; (try dsimp only at hP9); (show (let gG : Prop := _; gG)); intro gG; obtain ⟨hfr, hl, hp⟩ := hP9); simp only [hk, List.map_cons, List.map_nil] at hp; obtain rfl := hp.zero; (all_goals ((try k_unmd); k_unfold; clear gG)); (try k_sweep))
      k_with "call" => ((with_reducible show wpAny _ _ (call (Value.ref 98) _) _ _ _); (k_dflt (refine' ct_use_eq (stand_ct c hS ?y1 ?y3) ?zh ?zA ?zf ?zk ?zd ?zu ?zB ?zF ?zX ?zN ?zT ?_; (case zN => k_asm); (case y1 => k_extra "sub"); (case y3 => (refine' RowAt.mono ?zq hr0; (case zq => k_extra "sub"))); (case zh => k_extra "handled"); (case zA => k_extra "frames"); (case zf => exact rfl); (case zk => exact rfl); (case zd => k_extra "depth"); (case zu => k_extra "units"); (case zB => k_asm); (case zF => k_asm); (case zX => k_asm); (case zT => k_asm))); (intro h' tk' F' N'); (try k_sweep))
      refine wpAny_call ?_
      k_dflt (refine' code_def (binds := [(PySem.Str.ofString "self", .ref a.x), (PySem.Str.ofString "instruction", .ref ia), (PySem.Str.ofString "real", .ref ra)]) ?zk1 ?zk2 ?zk3 ?zk4 ?zk5 ?zkA ?zkF ?zkK ?zk6 ?zk7 ?zk8 ?zk9 ?zkB ?_ ?zc2 ?zc3 ?zc4 ?zc5; (case zkA => assumption); (case zkF => assumption); (case zkK => assumption); (case zk1 => k_asm); (case zk2 => k_asm); (case zk3 => k_asm); (case zk4 => k_asm); (case zk5 => k_asm); (case zk6 => k_is); (case zk7 => k_is); (case zk8 => omega); (case zk9 => exact BindsTo.of_eq rfl); (case zc5 => decide); (case zkB => exact locs rfl); (case zc2 => exact rfl); (case zc3 => exact rfl); (case zc4 => exact rfl); k_whole; intro g' L' h' FG' F' N' B' X' T'; (try dsimp only [List.reverse_cons, List.reverse_nil, List.nil_append, List.cons_append] at F'); (try dsimp only); (try k_fold))
      k_steps
      all_goals (refine ret _ _ _ _ (by assumption) (News.sub (by assumption) (by k_extra "sub")) ⟨?_, rfl⟩)
      all_goals (first | (simp [mPairs, twiceB, *]; done) | (have e9 := Op.x.inj (by assumption); subst e9; simp [mPairs, twiceB, *]; done))
    · dsimp only at ret
      simp only [hk, List.map_cons, List.map_nil] at ret
      have P := hpo (1, i1) (by simp [hk])
      dsimp only at P
      generalize hv1 : vs.getD i1 .none = v1 at P
      generalize hw1 : ws.getD i1 .none = w1 at P
      generalize ho1 : Row.opA ⟨j, ps⟩ i1 = o1 at P ret
      generalize hq1 : Row.opA ⟨j, qs⟩ i1 = q1 at P ret
      obtain ⟨A1, B1, K1, Y1⟩ := P
      clear ho1 hq1
      clear hpo
      k_with "call" => ((with_reducible show wpAny _ _ (call (Value.ref 84) _) _ _ _); (k_dflt (refine' ct_use_eq (shape_ct c hsub hr0 hs0 hw hw') ?zh ?zA ?zf ?zk ?zd ?zu ?zB ?zF ?zX ?zN ?zT ?_; (case zN => k_asm);  (case zh => k_extra "handled"); (case zA => k_extra "frames"); (case zf => exact rfl); (case zk => exact rfl); (case zd => k_extra "depth"); (case zu => k_extra "units"); (case zB => k_asm); (case zF => k_asm); (case zX => k_asm); (case zT => k_asm))); (intro h' tk' F' N'); (try k_sweep))
      k_with "call" => ((with_reducible show wpAny _ _ (call (Value.ref 21) _) _ _ _); (k_dflt (refine' ct_use_ro (roles_ct c ?y6 ?y7) ?zh ?zA ?zf ?zk ?zd ?zu ?zB ?zF ?zX ?zN ?zT ?_; (case zN => k_asm); (case y6 => k_extra "mem"); (case y7 => assumption); (case zh => k_extra "handled"); (case zA => k_extra "frames"); (case zf => exact rfl); (case zk => exact rfl); (case zd => k_extra "depth"); (case zu => k_extra "units"); (case zB => k_asm); (case zF => k_asm); (case zX => k_asm); (case zT => k_asm))); (intro l9 n9 pv9 tl9 h' tk' F' N' hP9; (try dsimp only at hP9); (show (let gG : Prop := _; gG)); intro gG; obtain ⟨hfr, hl, hp⟩ := hP9); simp only [hk, List.map_cons, List.map_nil, hv1, hw1] at hp; obtain ⟨u1, rfl, z1⟩ := hp.one; obtain ⟨c1, d1, f1, rfl, y1⟩ := z1.inv; clear hp; (all_goals ((try k_unmd); k_unfold; clear gG)); (try k_sweep))
      k_with "call" => ((with_reducible show wpAny _ _ (call (Value.ref 56) _) _ _ _); (k_dflt (refine' ct_use_eq (sread_ct c hS ?y1 ?y2 ?y3 ?y4) ?zh ?zA ?zf ?zk ?zd ?zu ?zB ?zF ?zX ?zN ?zT ?_; (case zN => k_asm); (case y1 => k_extra "sub"); (case y2 => k_extra "opAt"); (case y3 => k_extra "opAt"); (case y4 => assumption); (case zh => k_extra "handled"); (case zA => k_extra "frames"); (case zf => exact rfl); (case zk => exact rfl); (case zd => k_extra "depth"); (case zu => k_extra "units"); (case zB => k_asm); (case zF => k_asm); (case zX => k_asm); (case zT => k_asm))); (intro h' tk' F' N'); (try k_sweep))
      k_with "call" => ((with_reducible show wpAny _ _ (call (Value.ref 98) _) _ _ _); (k_dflt (refine' ct_use_eq (stand_ct c hS ?y1 ?y3) ?zh ?zA ?zf ?zk ?zd ?zu ?zB ?zF ?zX ?zN ?zT ?_; (case zN => k_asm); (case y1 => k_extra "sub"); (case y3 => (refine' RowAt.mono ?zq hr0; (case zq => k_extra "sub"))); (case zh => k_extra "handled"); (case zA => k_extra "frames"); (case zf => exact rfl); (case zk => exact rfl); (case zd => k_extra "depth"); (case zu => k_extra "units"); (case zB => k_asm); (case zF => k_asm); (case zX => k_asm); (case zT => k_asm))); (intro h' tk' F' N'); (try k_sweep))
      refine wpAny_call ?_
      k_dflt (refine' code_def (binds := [(PySem.Str.ofString "self", .ref a.x), (PySem.Str.ofString "instruction", .ref ia), (PySem.Str.ofString "real", .ref ra)]) ?zk1 ?zk2 ?zk3 ?zk4 ?zk5 ?zkA ?zkF ?zkK ?zk6 ?zk7 ?zk8 ?zk9 ?zkB ?_ ?zc2 ?zc3 ?zc4 ?zc5; (case zkA => assumption); (case zkF => assumption); (case zkK => assumption); (case zk1 => k_asm); (case zk2 => k_asm); (case zk3 => k_asm); (case zk4 => k_asm); (case zk5 => k_asm); (case zk6 => k_is); (case zk7 => k_is); (case zk8 => omega); (case zk9 => exact BindsTo.of_eq rfl); (case zc5 => decide); (case zkB => exact locs rfl); (case zc2 => exact rfl); (case zc3 => exact rfl); (case zc4 => exact rfl); k_whole; intro g' L' h' FG' F' N' B' X' T'; (try dsimp only [List.reverse_cons, List.reverse_nil, List.nil_append, List.cons_append] at F'); (try dsimp only); (try k_fold))
      k_steps
      all_goals (refine ret _ _ _ _ (by assumption) (News.sub (by assumption) (by k_extra "sub")) ⟨?_, rfl⟩)
      all_goals (first | (simp [mPairs, twiceB, *]; done) | (have e9 := Op.x.inj (by assumption); subst e9; simp [mPairs, twiceB, *]; done))
    · dsimp only at ret
      simp only [hk, List.map_cons, List.map_nil] at ret
      have P := hpo (2, i1) (by simp [hk])
      dsimp only at P
      generalize hv1 : vs.getD i1 .none = v1 at P
      generalize hw1 : ws.getD i1 .none = w1 at P
      generalize ho1 : Row.opA ⟨j, ps⟩ i1 = o1 at P ret
      generalize hq1 : Row.opA ⟨j, qs⟩ i1 = q1 at P ret
      obtain ⟨A1, B1, K1, Y1⟩ := P
      clear ho1 hq1
      replace Y1 := Y1 (by decide)
      obtain ⟨k1, rfl⟩ := K1.isx Y1
      cases B1 with | x B1 =>
      clear hpo
      k_with "call" => ((with_reducible show wpAny _ _ (call (Value.ref 84) _) _ _ _); (k_dflt (refine' ct_use_eq (shape_ct c hsub hr0 hs0 hw hw') ?zh ?zA ?zf ?zk ?zd ?zu ?zB ?zF ?zX ?zN ?zT ?_; (case zN => k_asm);  (case zh => k_extra "handled"); (case zA => k_extra "frames"); (case zf => exact rfl); (case zk => exact rfl); (case zd => k_extra "depth"); (case zu => k_extra "units"); (case zB => k_asm); (case zF => k_asm); (case zX => k_asm); (case zT => k_asm))); (intro h' tk' F' N'); (try k_sweep))
      k_with "call" => ((with_reducible show wpAny _ _ (call (Value.ref 21) _) _ _ _); (k_dflt (refine' ct_use_ro (roles_ct c ?y6 ?y7) ?zh ?zA ?zf ?zk ?zd ?zu ?zB ?zF ?zX ?zN ?zT ?_; (case zN => k_asm); (case y6 => k_extra "mem"); (case y7 => assumption); (case zh => k_extra "handled"); (case zA => k_extra "frames"); (case zf => exact rfl); (case zk => exact rfl); (case zd => k_extra "depth"); (case zu => k_extra "units"); (case zB => k_asm); (case zF => k_asm); (case zX => k_asm); (case zT => k_asm))); (intro l9 n9 pv9 tl9 h' tk' F' N' hP9; (try dsimp only at hP9); (show (let gG : Prop := _; gG)); intro gG; obtain ⟨hfr, hl, hp⟩ := hP9); simp only [hk, List.map_cons, List.map_nil, hv1, hw1] at hp; obtain ⟨u1, rfl, z1⟩ := hp.one; obtain ⟨c1, d1, f1, rfl, y1⟩ := z1.inv; clear hp; (all_goals ((try k_unmd); k_unfold; clear gG)); (try k_sweep))
      k_with "call" => ((with_reducible show wpAny _ _ (call (Value.ref 63) _) _ _ _); (k_dflt (refine' ct_use_eq (swrite_ct c ?y1 ?y2 ?y3 ?y4 ?y5) ?zh ?zA ?zf ?zk ?zd ?zu ?zB ?zF ?zX ?zN ?zT ?_; (case zN => k_asm); (case y1 => k_extra "sub"); (case y2 => k_extra "opAt"); (case y3 => k_extra "opAt"); (case y4 => assumption); (case y5 => assumption); (case zh => k_extra "handled"); (case zA => k_extra "frames"); (case zf => exact rfl); (case zk => exact rfl); (case zd => k_extra "depth"); (case zu => k_extra "units"); (case zB => k_asm); (case zF => k_asm); (case zX => k_asm); (case zT => k_asm))); (intro h' tk' F' N'); (try k_sweep))
      k_with "call" => ((with_reducible show wpAny _ _ (call (Value.ref 98) _) _ _ _); (k_dflt (refine' ct_use_eq (stand_ct c hS ?y1 ?y3) ?zh ?zA ?zf ?zk ?zd ?zu ?zB ?zF ?zX ?zN ?zT ?_; (case zN => k_asm); (case y1 => k_extra "sub"); (case y3 => (refine' RowAt.mono ?zq hr0; (case zq => k_extra "sub"))); (case zh => k_extra "handled"); (case zA => k_extra "frames"); (case zf => exact rfl); (case zk => exact rfl); (case zd => k_extra "depth"); (case zu => k_extra "units"); (case zB => k_asm); (case zF => k_asm); (case zX => k_asm); (case zT => k_asm))); (intro h' tk' F' N'); (try k_sweep))
      refine wpAny_call ?_
      k_dflt (refine' code_def (binds := [(PySem.Str.ofString "self", .ref a.x), (PySem.Str.ofString "instruction", .ref ia), (PySem.Str.ofString "real", .ref ra)]) ?zk1 ?zk2 ?zk3 ?zk4 ?zk5 ?zkA ?zkF ?zkK ?zk6 ?zk7 ?zk8 ?zk9 ?zkB ?_ ?zc2 ?zc3 ?zc4 ?zc5; (case zkA => assumption); (case zkF => assumption); (case zkK => assumption); (case zk1 => k_asm); (case zk2 => k_asm); (case zk3 => k_asm); (case zk4 => k_asm); (case zk5 => k_asm); (case zk6 => k_is); (case zk7 => k_is); (case zk8 => omega); (case zk9 => exact BindsTo.of_eq rfl); (case zc5 => decide); (case zkB => exact locs rfl); (case zc2 => exact rfl); (case zc3 => exact rfl); (case zc4 => exact rfl); k_whole; intro g' L' h' FG' F' N' B' X' T'; (try dsimp only [List.reverse_cons, List.reverse_nil, List.nil_append, List.cons_append] at F'); (try dsimp only); (try k_fold))
      k_steps
      all_goals (refine ret _ _ _ _ (by assumption) (News.sub (by assumption) (by k_extra "sub")) ⟨?_, rfl⟩)
      all_goals (first | (simp [mPairs, twiceB, *]; done) | (have e9 := Op.x.inj (by assumption); subst e9; simp [mPairs, twiceB, *]; done))
    · dsimp only at ret
      simp only [hk, List.map_cons, List.map_nil] at ret
      have P := hpo (3, i1) (by simp [hk])
      dsimp only at P
      generalize hv1 : vs.getD i1 .none = v1 at P
      generalize hw1 : ws.getD i1 .none = w1 at P
      generalize ho1 : Row.opA ⟨j, ps⟩ i1 = o1 at P ret
      generalize hq1 : Row.opA ⟨j, qs⟩ i1 = q1 at P ret
      obtain ⟨A1, B1, K1, Y1⟩ := P
      clear ho1 hq1
      clear hpo
      k_with "call" => ((with_reducible show wpAny _ _ (call (Value.ref 84) _) _ _ _); (k_dflt (refine' ct_use_eq (shape_ct c hsub hr0 hs0 hw hw') ?zh ?zA ?zf ?zk ?zd ?zu ?zB ?zF ?zX ?zN ?zT ?_; (case zN => k_asm);  (case zh => k_extra "handled"); (case zA => k_extra "frames"); (case zf => exact rfl); (case zk => exact rfl); (case zd => k_extra "depth"); (case zu => k_extra "units"); (case zB => k_asm); (case zF => k_asm); (case zX => k_asm); (case zT => k_asm))); (intro h' tk' F' N'); (try k_sweep))
      k_with "call" => ((with_reducible show wpAny _ _ (call (Value.ref 21) _) _ _ _); (k_dflt (refine' ct_use_ro (roles_ct c ?y6 ?y7) ?zh ?zA ?zf ?zk ?zd ?zu ?zB ?zF ?zX ?zN ?zT ?_; (case zN => k_asm); (case y6 => k_extra "mem"); (case y7 => assumption); (case zh => k_extra "handled"); (case zA => k_extra "frames"); (case zf => exact rfl); (case zk => exact rfl); (case zd => k_extra "depth"); (case zu => k_extra "units"); (case zB => k_asm); (case zF => k_asm); (case zX => k_asm); (case zT => k_asm))); (intro l9 n9 pv9 tl9 h' tk' F' N' hP9; (try dsimp only at hP9); (show (let gG : Prop := _; gG)); intro gG; obtain ⟨hfr, hl, hp⟩ := hP9); simp only [hk, List.map_cons, List.map_nil, hv1, hw1] at hp; obtain ⟨u1, rfl, z1⟩ := hp.one; obtain ⟨c1, d1, f1, rfl, y1⟩ := z1.inv; clear hp; (all_goals ((try k_unmd); k_unfold; clear gG)); (try k_sweep))
      k_with "call" => ((with_reducible show wpAny _ _ (call (Value.ref 56) _) _ _ _); (k_dflt (refine' ct_use_eq (sread_ct c hS ?y1 ?y2 ?y3 ?y4) ?zh ?zA ?zf ?zk ?zd ?zu ?zB ?zF ?zX ?zN ?zT ?_; (case zN => k_asm); (case y1 => k_extra "sub"); (case y2 => k_extra "opAt"); (case y3 => k_extra "opAt"); (case y4 => assumption); (case zh => k_extra "handled"); (case zA => k_extra "frames"); (case zf => exact rfl); (case zk => exact rfl); (case zd => k_extra "depth"); (case zu => k_extra "units"); (case zB => k_asm); (case zF => k_asm); (case zX => k_asm); (case zT => k_asm))); (intro h' tk' F' N'); (try k_sweep))
      k_with "call" => ((with_reducible show wpAny _ _ (call (Value.ref 98) _) _ _ _); (k_dflt (refine' ct_use_eq (stand_ct c hS ?y1 ?y3) ?zh ?zA ?zf ?zk ?zd ?zu ?zB ?zF ?zX ?zN ?zT ?_; (case zN => k_asm); (case y1 => k_extra "sub"); (case y3 => (refine' RowAt.mono ?zq hr0; (case zq => k_extra "sub"))); (case zh => k_extra "handled"); (case zA => k_extra "frames"); (case zf => exact rfl); (case zk => exact rfl); (case zd => k_extra "depth"); (case zu => k_extra "units"); (case zB => k_asm); (case zF => k_asm); (case zX => k_asm); (case zT => k_asm))); (intro h' tk' F' N'); (try k_sweep))
      refine wpAny_call ?_
      k_dflt (refine' code_def (binds := [(PySem.Str.ofString "self", .ref a.x), (PySem.Str.ofString "instruction", .ref ia), (PySem.Str.ofString "real", .ref ra)]) ?zk1 ?zk2 ?zk3 ?zk4 ?zk5 ?zkA ?zkF ?zkK ?zk6 ?zk7 ?zk8 ?zk9 ?zkB ?_ ?zc2 ?zc3 ?zc4 ?zc5; (case zkA => assumption); (case zkF => assumption); (case zkK => assumption); (case zk1 => k_asm); (case zk2 => k_asm); (case zk3 => k_asm); (case zk4 => k_asm); (case zk5 => k_asm); (case zk6 => k_is); (case zk7 => k_is); (case zk8 => omega); (case zk9 => exact BindsTo.of_eq rfl); (case zc5 => decide); (case zkB => exact locs rfl); (case zc2 => exact rfl); (case zc3 => exact rfl); (case zc4 => exact rfl); k_whole; intro g' L' h' FG' F' N' B' X' T'; (try dsimp only [List.reverse_cons, List.reverse_nil, List.nil_append, List.cons_append] at F'); (try dsimp only); (try k_fold))
      k_steps
      all_goals (refine ret _ _ _ _ (by assumption) (News.sub (by assumption) (by k_extra "sub")) ⟨?_, rfl⟩)
      all_goals (first | (simp [mPairs, twiceB, *]; done) | (have e9 := Op.x.inj (by assumption); subst e9; simp [mPairs, twiceB, *]; done))
    · dsimp only at ret
      simp only [hk, List.map_cons, List.map_nil] at ret
      have P := hpo (1, i1) (by simp [hk])
      dsimp only at P
      generalize hv1 : vs.getD i1 .none = v1 at P
      generalize hw1 : ws.getD i1 .none = w1 at P
      generalize ho1 : Row.opA ⟨j, ps⟩ i1 = o1 at P ret
      generalize hq1 : Row.opA ⟨j, qs⟩ i1 = q1 at P ret
      obtain ⟨A1, B1, K1, Y1⟩ := P
      clear ho1 hq1
      have P := hpo (1, i2) (by simp [hk])
      dsimp only at P
      generalize hv2 : vs.getD i2 .none = v2 at P
      generalize hw2 : ws.getD i2 .none = w2 at P
      generalize ho2 : Row.opA ⟨j, ps⟩ i2 = o2 at P ret
      generalize hq2 : Row.opA ⟨j, qs⟩ i2 = q2 at P ret
      obtain ⟨A2, B2, K2, Y2⟩ := P
      clear ho2 hq2
      clear hpo
      k_with "call" => ((with_reducible show wpAny _ _ (call (Value.ref 84) _) _ _ _); (k_dflt (refine' ct_use_eq (shape_ct c hsub hr0 hs0 hw hw') ?zh ?zA ?zf ?zk ?zd ?zu ?zB ?zF ?zX ?zN ?zT ?_; (case zN => k_asm);  (case zh => k_extra "handled"); (case zA => k_extra "frames"); (case zf => exact rfl); (case zk => exact rfl); (case zd => k_extra "depth"); (case zu => k_extra "units"); (case zB => k_asm); (case zF => k_asm); (case zX => k_asm); (case zT => k_asm))); (intro h' tk' F' N'); (try k_sweep))
      k_with "call" => ((with_reducible show wpAny _ _ (call (Value.ref 21) _) _ _ _); (k_dflt (refine' ct_use_ro (roles_ct c ?y6 ?y7) ?zh ?zA ?zf ?zk ?zd ?zu ?zB ?zF ?zX ?zN ?zT ?_; (case zN => k_asm); (case y6 => k_extra "mem"); (case y7 => assumption); (case zh => k_extra "handled"); (case zA => k_extra "frames"); (case zf => exact rfl); (case zk => exact rfl); (case zd => k_extra "depth"); (case zu => k_extra "units"); (case zB => k_asm); (case zF => k_asm); (case zX => k_asm); (case zT => k_asm))); (intro l9 n9 pv9 tl9 h' tk' F' N' hP9; (try dsimp only at hP9); (show (let gG : Prop := _; gG)); intro gG; obtain ⟨hfr, hl, hp⟩ := hP9); simp only [hk, List.map_cons, List.map_nil, hv1, hw1, hv2, hw2] at hp; obtain ⟨u1, u2, rfl, z1, z2⟩ := hp.two; obtain ⟨c1, d1, f1, rfl, y1⟩ := z1.inv; obtain ⟨c2, d2, f2, rfl, y2⟩ := z2.inv; clear hp; (all_goals ((try k_unmd); k_unfold; clear gG)); (try k_sweep))
      k_with "call" => ((with_reducible show wpAny _ _ (call (Value.ref 56) _) _ _ _); (k_dflt (refine' ct_use_eq (sread_ct c hS ?y1 ?y2 ?y3 ?y4) ?zh ?zA ?zf ?zk ?zd ?zu ?zB ?zF ?zX ?zN ?zT ?_; (case zN => k_asm); (case y1 => k_extra "sub"); (case y2 => k_extra "opAt"); (case y3 => k_extra "opAt"); (case y4 => assumption); (case zh => k_extra "handled"); (case zA => k_extra "frames"); (case zf => exact rfl); (case zk => exact rfl); (case zd => k_extra "depth"); (case zu => k_extra "units"); (case zB => k_asm); (case zF => k_asm); (case zX => k_asm); (case zT => k_asm))); (intro h' tk' F' N'); (try k_sweep))
      k_with "call" => ((with_reducible show wpAny _ _ (call (Value.ref 98) _) _ _ _); (k_dflt (refine' ct_use_eq (stand_ct c hS ?y1 ?y3) ?zh ?zA ?zf ?zk ?zd ?zu ?zB ?zF ?zX ?zN ?zT ?_; (case zN => k_asm); (case y1 => k_extra "sub"); (case y3 => (refine' RowAt.mono ?zq hr0; (case zq => k_extra "sub"))); (case zh => k_extra "handled"); (case zA => k_extra "frames"); (case zf => exact rfl); (case zk => exact rfl); (case zd => k_extra "depth"); (case zu => k_extra "units"); (case zB => k_asm); (case zF => k_asm); (case zX => k_asm); (case zT => k_asm))); (intro h' tk' F' N'); (try k_sweep))
      refine wpAny_call ?_
      k_dflt (refine' code_def (binds := [(PySem.Str.ofString "self", .ref a.x), (PySem.Str.ofString "instruction", .ref ia), (PySem.Str.ofString "real", .ref ra)]) ?zk1 ?zk2 ?zk3 ?zk4 ?zk5 ?zkA ?zkF ?zkK ?zk6 ?zk7 ?zk8 ?zk9 ?zkB ?_ ?zc2 ?zc3 ?zc4 ?zc5; (case zkA => assumption); (case zkF => assumption); (case zkK => assumption); (case zk1 => k_asm); (case zk2 => k_asm); (case zk3 => k_asm); (case zk4 => k_asm); (case zk5 => k_asm); (case zk6 => k_is); (case zk7 => k_is); (case zk8 => omega); (case zk9 => exact BindsTo.of_eq rfl); (case zc5 => decide); (case zkB => exact locs rfl); (case zc2 => exact rfl); (case zc3 => exact rfl); (case zc4 => exact rfl); k_whole; intro g' L' h' FG' F' N' B' X' T'; (try dsimp only [List.reverse_cons, List.reverse_nil, List.nil_append, List.cons_append] at F'); (try dsimp only); (try k_fold))
      k_steps
      all_goals (refine ret _ _ _ _ (by assumption) (News.sub (by assumption) (by k_extra "sub")) ⟨?_, rfl⟩)
      all_goals (first | (simp [mPairs, twiceB, *]; done) | (have e9 := Op.x.inj (by assumption); subst e9; simp [mPairs, twiceB, *]; done))
    · dsimp only at ret
      simp only [hk, List.map_cons, List.map_nil] at ret
      have P := hpo (1, i1) (by simp [hk])
      dsimp only at P
      generalize hv1 : vs.getD i1 .none = v1 at P
      generalize hw1 : ws.getD i1 .none = w1 at P
      generalize ho1 : Row.opA ⟨j, ps⟩ i1 = o1 at P ret
      generalize hq1 : Row.opA ⟨j, qs⟩ i1 = q1 at P ret
      obtain ⟨A1, B1, K1, Y1⟩ := P
      clear ho1 hq1
      have P := hpo (2, i2) (by simp [hk])
      dsimp only at P
      generalize hv2 : vs.getD i2 .none = v2 at P
      generalize hw2 : ws.getD i2 .none = w2 at P
      generalize ho2 : Row.opA ⟨j, ps⟩ i2 = o2 at P ret
      generalize hq2 : Row.opA ⟨j, qs⟩ i2 = q2 at P ret
      obtain ⟨A2, B2, K2, Y2⟩ := P
      clear ho2 hq2
      replace Y2 := Y2 (by decide)
      obtain ⟨k2, rfl⟩ := K2.isx Y2
      cases B2 with | x B2 =>
      clear hpo
      k_with "call" => ((with_reducible show wpAny _ _ (call (Value.ref 84) _) _ _ _); (k_dflt (refine' ct_use_eq (shape_ct c hsub hr0 hs0 hw hw') ?zh ?zA ?zf ?zk ?zd ?zu ?zB ?zF ?zX ?zN ?zT ?_; (case zN => k_asm);  (case zh => k_extra "handled"); (case zA => k_extra "frames"); (case zf => exact rfl); (case zk => exact rfl); (case zd => k_extra "depth"); (case zu => k_extra "units"); (case zB => k_asm); (case zF => k_asm); (case zX => k_asm); (case zT => k_asm))); (intro h' tk' F' N'); (try k_sweep))
      k_with "call" => ((with_reducible show wpAny _ _ (call (Value.ref 21) _) _ _ _); (k_dflt (refine' ct_use_ro (roles_ct c ?y6 ?y7) ?zh ?zA ?zf ?zk ?zd ?zu ?zB ?zF ?zX ?zN ?zT ?_; (case zN => k_asm); (case y6 => k_extra "mem"); (case y7 => assumption); (case zh => k_extra "handled"); (case zA => k_extra "frames"); (case zf => exact rfl); (case zk => exact rfl); (case zd => k_extra "depth"); (case zu => k_extra "units"); (case zB => k_asm); (case zF => k_asm); (case zX => k_asm); (case zT => k_asm))); (intro l9 n9 pv9 tl9 h' tk' F' N' hP9; (try dsimp only at hP9); (show (let gG : Prop := _; gG)); intro gG; obtain ⟨hfr, hl, hp⟩ := hP9); simp only [hk, List.map_cons, List.map_nil, hv1, hw1, hv2, hw2] at hp; obtain ⟨u1, u2, rfl, z1, z2⟩ := hp.two; obtain ⟨c1, d1, f1, rfl, y1⟩ := z1.inv; obtain ⟨c2, d2, f2, rfl, y2⟩ := z2.inv; clear hp; (all_goals ((try k_unmd); k_unfold; clear gG)); (try k_sweep))
      k_with "call" => ((with_reducible show wpAny _ _ (call (Value.ref 56) _) _ _ _); (k_dflt (refine' ct_use_eq (sread_ct c hS ?y1 ?y2 ?y3 ?y4) ?zh ?zA ?zf ?zk ?zd ?zu ?zB ?zF ?zX ?zN ?zT ?_; (case zN => k_asm); (case y1 => k_extra "sub"); (case y2 => k_extra "opAt"); (case y3 => k_extra "opAt"); (case y4 => assumption); (case zh => k_extra "handled"); (case zA => k_extra "frames"); (case zf => exact rfl); (case zk => exact rfl); (case zd => k_extra "depth"); (case zu => k_extra "units"); (case zB => k_asm); (case zF => k_asm); (case zX => k_asm); (case zT => k_asm))); (intro h' tk' F' N'); (try k_sweep))
      k_with "call" => ((with_reducible show wpAny _ _ (call (Value.ref 63) _) _ _ _); (k_dflt (refine' ct_use_eq (swrite_ct c ?y1 ?y2 ?y3 ?y4 ?y5) ?zh ?zA ?zf ?zk ?zd ?zu ?zB ?zF ?zX ?zN ?zT ?_; (case zN => k_asm); (case y1 => k_extra "sub"); (case y2 => k_extra "opAt"); (case y3 => k_extra "opAt"); (case y4 => assumption); (case y5 => assumption); (case zh => k_extra "handled"); (case zA => k_extra "frames"); (case zf => exact rfl); (case zk => exact rfl); (case zd => k_extra "depth"); (case zu => k_extra "units"); (case zB => k_asm); (case zF => k_asm); (case zX => k_asm); (case zT => k_asm))); (intro h' tk' F' N'); (try k_sweep))
      k_with "call" => ((with_reducible show wpAny _ _ (call (Value.ref 98) _) _ _ _); (k_dflt (refine' ct_use_eq (stand_ct c hS ?y1 ?y3) ?zh ?zA ?zf ?zk ?zd ?zu ?zB ?zF ?zX ?zN ?zT ?_; (case zN => k_asm); (case y1 => k_extra "sub"); (case y3 => (refine' RowAt.mono ?zq hr0; (case zq => k_extra "sub"))); (case zh => k_extra "handled"); (case zA => k_extra "frames"); (case zf => exact rfl); (case zk => exact rfl); (case zd => k_extra "depth"); (case zu => k_extra "units"); (case zB => k_asm); (case zF => k_asm); (case zX => k_asm); (case zT => k_asm))); (intro h' tk' F' N'); (try k_sweep))
      refine wpAny_call ?_
      k_dflt (refine' code_def (binds := [(PySem.Str.ofString "self", .ref a.x), (PySem.Str.ofString "instruction", .ref ia), (PySem.Str.ofString "real", .ref ra)]) ?zk1 ?zk2 ?zk3 ?zk4 ?zk5 ?zkA ?zkF ?zkK ?zk6 ?zk7 ?zk8 ?zk9 ?zkB ?_ ?zc2 ?zc3 ?zc4 ?zc5; (case zkA => assumption); (case zkF => assumption); (case zkK => assumption); (case zk1 => k_asm); (case zk2 => k_asm); (case zk3 => k_asm); (case zk4 => k_asm); (case zk5 => k_asm); (case zk6 => k_is); (case zk7 => k_is); (case zk8 => omega); (case zk9 => exact BindsTo.of_eq rfl); (case zc5 => decide); (case zkB => exact locs rfl); (case zc2 => exact rfl); (case zc3 => exact rfl); (case zc4 => exact rfl); k_whole; intro g' L' h' FG' F' N' B' X' T'; (try dsimp only [List.reverse_cons, List.reverse_nil, List.nil_append, List.cons_append] at F'); (try dsimp only); (try k_fold))
      k_steps
      all_goals (refine ret _ _ _ _ (by assumption) (News.sub (by assumption) (by k_extra "sub")) ⟨?_, rfl⟩)
      all_goals (first | (simp [mPairs, twiceB, *]; done) | (have e9 := Op.x.inj (by assumption); subst e9; simp [mPairs, twiceB, *]; done))
    · dsimp only at ret
      simp only [hk, List.map_cons, List.map_nil] at ret
      have P := hpo (2, i1) (by simp [hk])
      dsimp only at P
      generalize hv1 : vs.getD i1 .none = v1 at P
      generalize hw1 : ws.getD i1 .none = w1 at P
      generalize ho1 : Row.opA ⟨j, ps⟩ i1 = o1 at P ret
      generalize hq1 : Row.opA ⟨j, qs⟩ i1 = q1 at P ret
      obtain ⟨A1, B1, K1, Y1⟩ := P
      clear ho1 hq1
      replace Y1 := Y1 (by decide)
      obtain ⟨k1, rfl⟩ := K1.isx Y1
      cases B1 with | x B1 =>
      have P := hpo (2, i2) (by simp [hk])
      dsimp only at P
      generalize hv2 : vs.getD i2 .none = v2 at P
      generalize hw2 : ws.getD i2 .none = w2 at P
      generalize ho2 : Row.opA ⟨j, ps⟩ i2 = o2 at P ret
      generalize hq2 : Row.opA ⟨j, qs⟩ i2 = q2 at P ret
      obtain ⟨A2, B2, K2, Y2⟩ := P
      clear ho2 hq2
      replace Y2 := Y2 (by decide)
      obtain ⟨k2, rfl⟩ := K2.isx Y2
      cases B2 with | x B2 =>
      have hj : j = .putVar := by cases j <;> simp [Kd.roles] at hk <;> rfl
      subst hj
      obtain ⟨va, vb, rfl⟩ := len2 hl1
      obtain ⟨pa, pb, rfl, PA, PB⟩ := hv.twoL
      clear hpo
      k_with "call" => ((with_reducible show wpAny _ _ (call (Value.ref 84) _) _ _ _); (k_dflt (refine' ct_use_eq (shape_ct c hsub hr0 hs0 hw hw') ?zh ?zA ?zf ?zk ?zd ?zu ?zB ?zF ?zX ?zN ?zT ?_; (case zN => k_asm);  (case zh => k_extra "handled"); (case zA => k_extra "frames"); (case zf => exact rfl); (case zk => exact rfl); (case zd => k_extra "depth"); (case zu => k_extra "units"); (case zB => k_asm); (case zF => k_asm); (case zX => k_asm); (case zT => k_asm))); (intro h' tk' F' N'); (try k_sweep))
      k_with "call" => ((with_reducible show wpAny _ _ (call (Value.ref 21) _) _ _ _); (k_dflt (refine' ct_use_ro (roles_ct c ?y6 ?y7) ?zh ?zA ?zf ?zk ?zd ?zu ?zB ?zF ?zX ?zN ?zT ?_; (case zN => k_asm); (case y6 => k_extra "mem"); (case y7 => assumption); (case zh => k_extra "handled"); (case zA => k_extra "frames"); (case zf => exact rfl); (case zk => exact rfl); (case zd => k_extra "depth"); (case zu => k_extra "units"); (case zB => k_asm); (case zF => k_asm); (case zX => k_asm); (case zT => k_asm))); (intro l9 n9 pv9 tl9 h' tk' F' N' hP9; (try dsimp only at hP9); (show (let gG : Prop := _; gG)); intro gG; obtain ⟨hfr, hl, hp⟩ := hP9); simp only [hk, List.map_cons, List.map_nil, hv1, hw1, hv2, hw2] at hp; obtain ⟨u1, u2, rfl, z1, z2⟩ := hp.two; obtain ⟨c1, d1, f1, rfl, y1⟩ := z1.inv; obtain ⟨c2, d2, f2, rfl, y2⟩ := z2.inv; clear hp; (all_goals ((try k_unmd); k_unfold; clear gG)); (try k_sweep))
      k_with "call" => ((with_reducible show wpAny _ _ (call (Value.ref 63) _) _ _ _); (k_dflt (refine' ct_use_eq (swrite_ct c ?y1 ?y2 ?y3 ?y4 ?y5) ?zh ?zA ?zf ?zk ?zd ?zu ?zB ?zF ?zX ?zN ?zT ?_; (case zN => k_asm); (case y1 => k_extra "sub"); (case y2 => k_extra "opAt"); (case y3 => k_extra "opAt"); (case y4 => assumption); (case y5 => assumption); (case zh => k_extra "handled"); (case zA => k_extra "frames"); (case zf => exact rfl); (case zk => exact rfl); (case zd => k_extra "depth"); (case zu => k_extra "units"); (case zB => k_asm); (case zF => k_asm); (case zX => k_asm); (case zT => k_asm))); (intro h' tk' F' N'); (try k_sweep))
      k_with "call" => ((with_reducible show wpAny _ _ (call (Value.ref 126) _) _ _ _); (k_dflt (refine' ct_use_eq (twice_ct c ?y8 ?y9 ?y10) ?zh ?zA ?zf ?zk ?zd ?zu ?zB ?zF ?zX ?zN ?zT ?_; (case zN => k_asm); (case y8 => k_extra "mem"); (case y9 => (refine' PtAt.mono ?ZS PA; (case ZS => k_extra "sub"))); (case y10 => (refine' PtAt.mono ?ZS PB; (case ZS => k_extra "sub"))); (case zh => k_extra "handled"); (case zA => k_extra "frames"); (case zf => exact rfl); (case zk => exact rfl); (case zd => k_extra "depth"); (case zu => k_extra "units"); (case zB => k_asm); (case zF => k_asm); (case zX => k_asm); (case zT => k_asm))); (intro h' tk' F' N'); (try k_sweep))
      k_with "call" => ((with_reducible show wpAny _ _ (call (Value.ref 98) _) _ _ _); (k_dflt (refine' ct_use_eq (stand_ct c hS ?y1 ?y3) ?zh ?zA ?zf ?zk ?zd ?zu ?zB ?zF ?zX ?zN ?zT ?_; (case zN => k_asm); (case y1 => k_extra "sub"); (case y3 => (refine' RowAt.mono ?zq hr0; (case zq => k_extra "sub"))); (case zh => k_extra "handled"); (case zA => k_extra "frames"); (case zf => exact rfl); (case zk => exact rfl); (case zd => k_extra "depth"); (case zu => k_extra "units"); (case zB => k_asm); (case zF => k_asm); (case zX => k_asm); (case zT => k_asm))); (intro h' tk' F' N'); (try k_sweep))
      refine wpAny_call ?_
      k_dflt (refine' code_def (binds := [(PySem.Str.ofString "self", .ref a.x), (PySem.Str.ofString "instruction", .ref ia), (PySem.Str.ofString "real", .ref ra)]) ?zk1 ?zk2 ?zk3 ?zk4 ?zk5 ?zkA ?zkF ?zkK ?zk6 ?zk7 ?zk8 ?zk9 ?zkB ?_ ?zc2 ?zc3 ?zc4 ?zc5; (case zkA => assumption); (case zkF => assumption); (case zkK => assumption); (case zk1 => k_asm); (case zk2 => k_asm); (case zk3 => k_asm); (case zk4 => k_asm); (case zk5 => k_asm); (case zk6 => k_is); (case zk7 => k_is); (case zk8 => omega); (case zk9 => exact BindsTo.of_eq rfl); (case zc5 => decide); (case zkB => exact locs rfl); (case zc2 => exact rfl); (case zc3 => exact rfl); (case zc4 => exact rfl); k_whole; intro g' L' h' FG' F' N' B' X' T'; (try dsimp only [List.reverse_cons, List.reverse_nil, List.nil_append, List.cons_append] at F'); (try dsimp only); (try k_fold))
      k_steps
      all_goals (refine ret _ _ _ _ (by assumption) (News.sub (by assumption) (by k_extra "sub")) ⟨?_, rfl⟩)
      all_goals (first | (simp [mPairs, twiceB, *]; done) | (have e9 := Op.x.inj (by assumption); subst e9; simp [mPairs, twiceB, *]; done))
end
section
theorem all2_at {α β : Type} {R : α → β → Prop} {as : List α} {bs : List β} (h : All2 R as bs) : ∀ {i : Nat} {b : β}, bs[i]? = some b → ∃ a, as[i]? = some a ∧ R a b := by
  induction h with
  | nil => intro i a e; simp at e
  | cons x _ ih =>
    intro i a e
    cases i with
    | zero => simp at e; subst e; exact ⟨_, rfl, x⟩
    | succ i => simp at e; simpa using ih e
theorem PairOk.mono {news news' : List (Addr × Obj)} {role : Int} {v w : Value} {o q : Op} (hs : ∀ p ∈ news, p ∈ news') (h : PairOk news role v w o q) : PairOk news' role v w o q := ⟨h.a.mono hs, h.b.mono hs, h.ok, h.wr⟩
theorem role_or (k : Kd) : ∀ x ∈ k.roles, x.1 = 1 ∨ x.1 = 2 ∨ x.1 = 3 := by
  cases k <;> simp [Kd.roles]
theorem roles_len (k : Kd) : k.roles.length ≤ 2 := by cases k <;> simp [Kd.roles]
theorem loop_facts {j : Kd} {vs ws pv1 pv2 : List Value} {ps qs : List Pt} {keep tl1 tl2 : List (Addr × Obj)} (h1 : All2 (PairAt tl1) pv1 (j.roles.map fun r => (r.1, vs.getD r.2 .none))) (h2 : All2 (PairAt tl2) pv2 (j.roles.map fun r => (r.1, ws.getD r.2 .none)))
    (hp : ∀ x ∈ j.roles, PairOk keep x.1 (vs.getD x.2 .none) (ws.getD x.2 .none) (Row.opA ⟨j, ps⟩ x.2) (Row.opA ⟨j, qs⟩ x.2)) :
    ∀ i, i < j.roles.length → ∃ role c1 d1 f1 c2 d2 f2 v w o q, pv1[i]? = some (.ref c1) ∧ (c1, tupOf #[.int role d1, v] f1) ∈ tl1 ∧ pv2[i]? = some (.ref c2) ∧ (c2, tupOf #[.int role d2, w] f2) ∈ tl2 ∧
      (pairsOf ⟨j, ps⟩ ⟨j, qs⟩)[i]? = some (role, o, q) ∧ PairOk keep role v w o q ∧ (role = 1 ∨ role = 2 ∨ role = 3) := by
  intro i hi
  have hx : j.roles[i]? = some j.roles[i] := List.getElem?_eq_getElem hi
  obtain ⟨a1, e1, r1⟩ := all2_at h1 (i := i) (b := (j.roles[i].1, vs.getD j.roles[i].2 .none)) (by rw [List.getElem?_map, hx]; rfl)
  obtain ⟨a2, e2, r2⟩ := all2_at h2 (i := i) (b := (j.roles[i].1, ws.getD j.roles[i].2 .none)) (by rw [List.getElem?_map, hx]; rfl)
  obtain ⟨c1, d1, f1, rfl, m1⟩ := r1.inv
  obtain ⟨c2, d2, f2, rfl, m2⟩ := r2.inv
  have hm : j.roles[i] ∈ j.roles := List.getElem_mem hi
  exact ⟨_, c1, d1, f1, c2, d2, f2, _, _, _, _, e1, m1, e2, m2, by unfold pairsOf; rw [List.getElem?_map, hx]; rfl, hp _ hm, role_or j _ hm⟩

theorem loop_cases {j : Kd} {pv1 pv2 : List Value} {ps qs : List Pt} {keep tl1 tl2 : List (Addr × Obj)} (h : ∀ i, i < j.roles.length → ∃ role c1 d1 f1 c2 d2 f2 v w o q, pv1[i]? = some (.ref c1) ∧ (c1, tupOf #[.int role d1, v] f1) ∈ tl1 ∧ pv2[i]? = some (.ref c2) ∧ (c2, tupOf #[.int role d2, w] f2) ∈ tl2 ∧
      (pairsOf ⟨j, ps⟩ ⟨j, qs⟩)[i]? = some (role, o, q) ∧ PairOk keep role v w o q ∧ (role = 1 ∨ role = 2 ∨ role = 3)) (i : Nat) :
    ¬ i < j.roles.length ∨ ∃ role c1 d1 f1 c2 d2 f2 v w o q, i < j.roles.length ∧ pv1[i]? = some (.ref c1) ∧ (c1, tupOf #[.int role d1, v] f1) ∈ tl1 ∧ pv2[i]? = some (.ref c2) ∧ (c2, tupOf #[.int role d2, w] f2) ∈ tl2 ∧
      (pairsOf ⟨j, ps⟩ ⟨j, qs⟩)[i]? = some (role, o, q) ∧ PairOk keep role v w o q ∧ (role = 1 ∨ role = 2 ∨ role = 3) := by
  by_cases hi : i < j.roles.length
  · obtain ⟨role, c1, d1, f1, c2, d2, f2, v, w, o, q, h⟩ := h i hi
    exact .inr ⟨role, c1, d1, f1, c2, d2, f2, v, w, o, q, hi, h⟩
  · exact .inl hi
theorem call_cases (j : Kd) : (j = .call ∧ decide (j = .call) = true ∧ (j.name == PySem.Str.ofString "call") = true) ∨ (j ≠ .call ∧ decide (j = .call) = false ∧ (j.name == PySem.Str.ofString "call") = false ∧ (j.name == PySem.Str.ofString "execute") = false) := by
  cases j <;> first | exact .inl ⟨rfl, by decide, by decide +kernel⟩ | exact .inr ⟨by decide, by decide, by decide +kernel, by decide +kernel⟩
noncomputable def wPairs (v : Int) : CS → List (Int × Op × Op) → CS
  | st, [] => st
  | st, (role, o, q) :: rest => wPairs v (if role = 1 then st else st.write o q v) rest
noncomputable def advB (st : CS) (r s : Row) : CS :=
  let v0 := copied st r
  let st1 := if v0 = 0 then { st with nv := st.nv + 1 } else st
  let v := if v0 = 0 then st.nv + 1 else v0
  let st2 := wPairs v st1 (pairsOf r s)
  if r.k = .call then { nv := st2.nv, vo := [], held := [], inc := [], out := [] } else st2
theorem rearr {a t k : List (Addr × Obj)} : ∀ p ∈ a ++ (t ++ k), p ∈ t ++ (a ++ k) := by
  intro p hp
  simp only [List.mem_append] at hp ⊢
  rcases hp with h | h | h
  · exact .inr (.inl h)
  · exact .inl h
  · exact .inr (.inr h)
theorem CkOff.fresh {a : CA} {nv : Int} {tl keep : List (Addr × Obj)} (h : CkOff a keep) (hf : FreshOver tl (a.fp nv ++ keep)) : CkOff a (tl ++ keep) := by
  have go : ∀ d o, (d, o) ∈ a.fp nv → Off d keep → Off d (tl ++ keep) := by
    intro d o hm hk q hq
    rcases List.mem_append.mp hq with hq | hq
    · exact fun e => Nat.lt_irrefl _ (e ▸ hf q hq _ (List.mem_append_left _ hm))
    · exact hk q hq
  exact ⟨go _ (instObj 115 a.dx) (by simp [CA.fp]) h.x, go a.dx (dictOf (ckEs a.h1 a.h2 a.h3 a.h4 a.h5 a.t1 a.t2 a.t3 a.t4 a.t5 a.tn nv a.V a.H a.I a.O) 5) (by simp [CA.fp]) h.dx, go _ a.oV (by simp [CA.fp]) h.V, go _ a.oH (by simp [CA.fp]) h.H, go _ a.oI (by simp [CA.fp]) h.I, go _ a.oO (by simp [CA.fp]) h.O⟩
theorem ct_x {c : Cx} {f : Addr} {d u : Nat} {a : CA} {x0 : Addr} {args : List Value} {news : List (Addr × Obj)} {post : Value → List (Addr × Obj) → Prop} (hx : a.x = x0) (C : Ct c f d u (.ref a.x :: args) news post) : Ct c f d u (.ref x0 :: args) news post := hx ▸ C
theorem CA.self_mem {a : CA} {nv : Int} {x0 : Addr} (hx : a.x = x0) : (x0, instObj 115 a.dx) ∈ a.fp nv ∧ (a.dx, dictOf (ckEs a.h1 a.h2 a.h3 a.h4 a.h5 a.t1 a.t2 a.t3 a.t4 a.t5 a.tn nv a.V a.H a.I a.O) 5) ∈ a.fp nv := by
  subst hx; constructor <;> simp [CA.fp]
theorem advB_eq {st st1 st2 : CS} {r s : Row} {v : Int} (h1 : st1 = (if copied st r = 0 then { st with nv := st.nv + 1 } else st)) (h2 : v = (if copied st r = 0 then st.nv + 1 else copied st r)) (h3 : st2 = wPairs v st1 (pairsOf r s)) :
    advB st r s = if r.k = .call then { nv := st2.nv, vo := [], held := [], inc := [], out := [] } else st2 := by
  subst h1 h2 h3; rfl
theorem DI.nil {w : World} {o : Obj} (h : o.IsDictOf (PySem.intKind PR w) []) : DI w o [] := ⟨[], h, .nil⟩
theorem drop_get {α : Type} {l : List α} {i : Nat} {x : α} (h : l[i]? = some x) : l.drop i = x :: l.drop (i + 1) := by
  obtain ⟨hi, rfl⟩ := List.getElem?_eq_some_iff.mp h
  exact List.drop_eq_getElem_cons hi
theorem sub6 {a : CA} {nv : Int} {keep l : List (Addr × Obj)} (h1 : (a.x, instObj 115 a.dx) ∈ l) (h2 : (a.dx, dictOf (ckEs a.h1 a.h2 a.h3 a.h4 a.h5 a.t1 a.t2 a.t3 a.t4 a.t5 a.tn nv a.V a.H a.I a.O) 5) ∈ l)
    (h3 : (a.V, a.oV) ∈ l) (h4 : (a.H, a.oH) ∈ l) (h5 : (a.I, a.oI) ∈ l) (h6 : (a.O, a.oO) ∈ l) (hk : ∀ p ∈ keep, p ∈ l) : ∀ p ∈ a.fp nv ++ keep, p ∈ l := by
  intro p hp
  rcases List.mem_append.mp hp with hp | hp
  · simp only [CA.fp, List.mem_cons, List.not_mem_nil, or_false] at hp
    rcases hp with rfl | rfl | rfl | rfl | rfl | rfl <;> assumption
  · exact hk p hp
theorem Off.right {d : Addr} {t k : List (Addr × Obj)} (h : Off d (t ++ k)) : Off d k := fun q hq => h q (List.mem_append_right _ hq)
theorem off_lt {d : Addr} {l : List (Addr × Obj)} (h : AllLt d l) : Off d l := fun q hq => Nat.ne_of_lt (tb_ltOf h q hq)
theorem and6 {a b c d e f g : Prop} (h : a ∧ b ∧ c ∧ d ∧ e ∧ f ∧ g) : g := h.2.2.2.2.2.2
theorem CS.Le.mono {st : CS} {n n' : Nat} (h : st.Le n) (hn : n ≤ n') : st.Le n' := ⟨Nat.le_trans h.vo hn, Nat.le_trans h.held hn, Nat.le_trans h.inc hn, Nat.le_trans h.out hn⟩
set_option maxRecDepth 100000 in
set_option maxHeartbeats 0 in
theorem advance_ct (c : Cx) {a : CA} {x0 : Addr} {st : CS} {iv rv : Value} {r s' : Row} {keep : List (Addr × Obj)} {nn : Nat} (hx : a.x = x0) (hS : CkS c.w a st) (hK : CkOff a keep) (hr : RowAt keep iv r) (hs : RowAt keep rv s') (hw : WA r) (hw' : WR s') (hsh : shapeB r s' = true)
    (hn : st.Le nn) (hn' : nn ≤ 800) :
    Ct c 105 6 150 [.ref x0, iv, rv] (a.fp st.nv ++ keep)
      (fun _ news' => ∃ a', news' = a'.fp (advB st r s').nv ++ keep ∧ a'.x = x0 ∧ CkS c.w a' (advB st r s') ∧ CkOff a' keep ∧ (advB st r s').Le (nn + 2)) := by
  unfold Ct PR
  k_fill
  intro A env outer A₀ base h₀ L m s Q E hh hA hf hke hd hu B F X N T ret
  have hr0 := hr
  cases hr with
  | @mk ia tk n j vs ps hi hv =>
  cases hs with
  | @mk ra tk' n' k ws qs hrr hq =>
  obtain ⟨hjk, hok⟩ : j = k ∧ okPs ps qs = true := by simpa [shapeB] using hsh
  subst hjk
  have hpo := pair_ok hv hq hw hw' hok
  have hl1 : vs.length = j.ar := (all2_length hv).trans (wa_len hw)
  have hl2 : ws.length = j.ar := (all2_length hq).trans (wr_len hw')
  obtain ⟨m1, m2⟩ := CA.self_mem (nv := st.nv) hx
  k_with_none
  k_with "mem" => (first | with_reducible assumption | with_reducible exact List.mem_cons_self | (with_reducible refine List.mem_cons_of_mem _ ?_; k_extra "mem") | (with_reducible refine List.mem_append_left _ ?_; k_extra "mem") | (with_reducible refine List.mem_append_right _ ?_; k_extra "mem"))
  k_with "my_enter" => ((refine' code_def ?r2zk1 ?r2zk2 ?r2zk3 ?r2zk4 ?r2zk5 ?r2zkA ?r2zkF ?r2zkK ?r2zk6 ?r2zk7 ?r2zk8 ?r2zk9 ?r2zkB ?_ ?r2zc2 ?r2zc3 ?r2zc4 ?r2zc5; (case r2zkA => assumption); (case r2zkF => assumption); (case r2zkK => assumption); (case r2zk1 => k_asm); (case r2zk2 => k_asm); (case r2zk3 => k_asm); (case r2zk4 => k_asm); (case r2zk5 => k_asm); (case r2zk6 => k_is); (case r2zk7 => k_is); (case r2zk8 => omega); (case r2zk9 => exact BindsTo.of_eq rfl); (case r2zc5 => decide); (case r2zkB => exact locs rfl); (case r2zc2 => exact rfl); (case r2zc3 => exact rfl); (case r2zc4 => exact rfl); k_whole; intro zq_g' zq_L' zq_h' zq_FG' zq_F' zq_N' zq_B' zq_X' zq_T'; (try dsimp only); (try k_fold)))
  k_with "mysub" => (((with_reducible show wpAny _ _ (subscriptTail _ _ (Value.ref _) (Value.int _ _)) _ _ _); (with_unfolding_all first | (refine' sub_tup ?r3zN ?r3zm ?r3zi ?r3zj ?r3zx ?_ ?r3zh6; (case r3zN => k_asm); (case r3zm => k_extra "mem"); (case r3zi => exact rfl); (case r3zj => decide); (case r3zx => exact rfl); (case r3zh6 => rfl); k_whole) | (refine' sub_list ?r3zN ?r3zm ?r3zi ?r3zj ?r3zx ?_ ?r3zh6; (case r3zN => k_asm); (case r3zm => k_extra "mem"); (case r3zi => exact rfl); (case r3zj => omega); (case r3zx => assumption); (case r3zh6 => rfl); k_whole) | (refine' sub_list ?r3zN ?r3zm ?r3zi ?r3zj ?r3zx ?_ ?r3zh6; (case r3zN => k_asm); (case r3zm => k_extra "mem"); (case r3zi => exact rfl); (case r3zj => decide); (case r3zx => exact rfl); (case r3zh6 => rfl); k_whole) | (refine' di_item ?r3zN ?r3zm ?r3zd ?r3zv ?_ ?r3zh6; (case r3zN => k_asm); (case r3zm => k_extra "mem"); (case r3zd => with_reducible assumption); (case r3zv => with_reducible assumption); (case r3zh6 => rfl); k_whole; intro _) | (refine' ds_item ?r3zN ?r3zm ?r3zd ?r3zv ?_ ?r3zh6; (case r3zN => k_asm); (case r3zm => k_extra "mem"); (case r3zd => with_reducible assumption); (case r3zv => with_reducible assumption); (case r3zh6 => rfl); k_whole; intro _))))
  k_with "subscriptTail" => (k_extra "mysub")
  k_with "subscriptTail Name Constant ref int" => (k_extra "mysub")
  k_with "subscriptTail Name Name ref int" => (k_extra "mysub")
  k_with "subscriptTail Attribute Name Subscript Name Constant ref int" => (k_extra "mysub")
  k_with "getMethod ref" => (((with_reducible show wpAny _ _ (getMethod (Value.ref _) (PySem.Str.ofString "get") _) _ _ _); k_dflt (first | (refine' di_method ?r8zN ?r8zm ?r8zd ?_; (case r8zN => k_asm); (case r8zm => k_extra "mem"); (case r8zd => with_reducible assumption)) | (refine' ds_method ?r8zN ?r8zm ?r8zd ?_; (case r8zN => k_asm); (case r8zm => k_extra "mem"); (case r8zd => with_reducible assumption)))))
  k_with "call builtin:dict.get" => ((k_dflt (first | (refine' di_get ?r9zN ?r9zm ?r9zd ?r9zlo ?_; (case r9zN => k_asm); (case r9zm => k_extra "mem"); (case r9zd => with_reducible assumption); (case r9zlo => with_reducible assumption)) | (refine' ds_get ?r9zN ?r9zm ?r9zd ?r9zlo ?_; (case r9zN => k_asm); (case r9zm => k_extra "mem"); (case r9zd => with_reducible assumption); (case r9zlo => with_reducible assumption))); intro _))
  k_with "compareOp NotIn int ref" => ((k_dflt (refine' di_notin2 ?r10zN ?r10zm ?r10zd ?r10zlo ?_ ?_; (case r10zN => k_asm); (case r10zm => k_extra "mem"); (case r10zd => with_reducible assumption); (case r10zlo => with_reducible assumption)); intros))
  k_with "ite" => (with_reducible first | refine ite_t ?_ | refine ite_f ?_ | (refine' ite_bt ?r11zh ?_; (case r11zh => assumption)) | (refine' ite_bf ?r11zh ?_; (case r11zh => assumption)))
  k_with "opAt" => (first | with_reducible assumption | (refine' OpAt.mono ?r12zs ?r12zh; (case r12zh => with_reducible assumption); (case r12zs => k_extra "sub")) | (refine' OpAt.t ?r12zq; (case r12zq => k_extra "mem")) | (refine' OpAt.a ?r12zq; (case r12zq => k_extra "mem")) | (refine' OpAt.y ?r12zq; (case r12zq => k_extra "mem")) | (refine' OpAt.x ?r12zq; (case r12zq => k_extra "mem")))
  k_with "units" => (first | exact un1 (by with_reducible assumption) rfl | exact un0 (by with_reducible assumption) rfl | exact un2 (by with_reducible assumption) rfl | (simp only [units_in1, units_deeper, Around.mark_units, units_caller] at *; omega))
  k_with "compareOp Eq ref ref" => ((k_dflt (refine' op_eq ?r14zN ?r14za ?r14zb ?r14zu ?_; (case r14zN => k_asm); (case r14za => k_extra "opAt"); (case r14zb => k_extra "opAt"); (case r14zu => k_extra "units"); k_whole)))
  k_with "compareOp NotEq ref ref" => ((k_dflt (refine' op_ne ?r15zN ?r15za ?r15zb ?r15zu ?_; (case r15zN => k_asm); (case r15za => k_extra "opAt"); (case r15zb => k_extra "opAt"); (case r15zu => k_extra "units"); k_whole)))
  k_with "ne" => (first | with_reducible assumption | with_reducible exact Ne.symm (by with_reducible assumption) | with_reducible exact lt_ne_1 (by with_reducible assumption) | with_reducible exact lt_ne_2 (by with_reducible assumption) | with_reducible exact lt_ne_3 (by with_reducible assumption) | with_reducible exact lt_ne_4 (by with_reducible assumption) | with_reducible exact lt_ne_5 (by with_reducible assumption) | with_reducible exact lt_ne_6 (by with_reducible assumption) | with_reducible exact lt_ne_7 (by with_reducible assumption) | with_reducible exact lt_ne_8 (by with_reducible assumption) | with_reducible exact Ne.symm (lt_ne_1 (by with_reducible assumption)) | with_reducible exact Ne.symm (lt_ne_2 (by with_reducible assumption)) | with_reducible exact Ne.symm (lt_ne_3 (by with_reducible assumption)) | with_reducible exact Ne.symm (lt_ne_4 (by with_reducible assumption)) | with_reducible exact Ne.symm (lt_ne_5 (by with_reducible assumption)) | with_reducible exact Ne.symm (lt_ne_6 (by with_reducible assumption)) | with_reducible exact Ne.symm (lt_ne_7 (by with_reducible assumption)) | with_reducible exact Ne.symm (lt_ne_8 (by with_reducible assumption)) | omega)
  k_with "allne" => (first | with_reducible assumption | (refine' ne_of_lt_all ?r17zz; (case r17zz => with_reducible assumption)) | (refine' ne_of_fresh ?r17zz ?r17zm; (case r17zz => with_reducible assumption); (case r17zm => k_extra "mem")) | exact List.forall_mem_nil _ | (refine' List.forall_mem_cons.mpr ⟨?r17za, ?r17zb⟩; (case r17za => ((try dsimp only); k_extra "ne")); (case r17zb => k_extra "allne")))
  k_with "updF" => (first | (refine' UpdF.head ?r18za; (case r18za => k_extra "allne")) | (refine' UpdF.tail ?r18za ?r18zb; (case r18za => ((try dsimp only); k_extra "ne")); (case r18zb => k_extra "updF")))
  k_with "setItem ref int" => ((k_dflt (first | (refine' di_set ?r19zF ?r19zN ?r19zU ?r19zd ?r19zz ?_; (case r19zF => k_asm); (case r19zN => k_asm); (case r19zU => k_extra "updF"); (case r19zd => with_reducible assumption); (case r19zz => omega)) | (refine' ds_set ?r19zF ?r19zN ?r19zU ?r19zd ?r19zz ?_; (case r19zF => k_asm); (case r19zN => k_asm); (case r19zU => k_extra "updF"); (case r19zd => with_reducible assumption); (case r19zz => omega))); intro zq_h' zq_o' zq_F' zq_N' zq_hd'; (try dsimp only at zq_N'); (try k_sweep)))
  k_with "ifline" => (first | ((with_reducible refine' if_ne ?r20zF ?r20zv ?r20zn ?_ ?r20zk ?r20zl ?r20zd); (case r20zF => k_asm); (case r20zv => with_unfolding_all rfl); (case r20zn => decide +kernel); (case r20zk => rfl); (case r20zl => rfl); (case r20zd => decide); intro _) | ((with_reducible refine' if_eq ?r20zF ?r20zv ?r20zn ?_ ?r20zk ?r20zl ?r20zd); (case r20zF => k_asm); (case r20zv => with_unfolding_all rfl); (case r20zn => decide +kernel); (case r20zk => rfl); (case r20zl => rfl); (case r20zd => decide); intro _; dsimp only) | ((with_reducible refine' ifo_ne ?r20zF ?r20zv ?r20zn ?_ ?r20zk ?r20zl ?r20zd); (case r20zF => k_asm); (case r20zv => with_unfolding_all rfl); (case r20zn => decide +kernel); (case r20zk => rfl); (case r20zl => rfl); (case r20zd => decide); intro _) | ((with_reducible refine' ifo_eq ?r20zF ?r20zv ?r20zn ?_ ?r20zk ?r20zl ?r20zd); (case r20zF => k_asm); (case r20zv => with_unfolding_all rfl); (case r20zn => decide +kernel); (case r20zk => rfl); (case r20zl => rfl); (case r20zd => decide); intro _; dsimp only))
  k_with "execs cons" => (((with_reducible show wpAny _ _ (execs (Stmt.If _ _ _ _ :: _) _) _ _ _); k_dflt (k_extra "ifline")))
  k_with "ltall" => (first | assumption | exact tb_ltOf (by assumption) | (refine' tb_ltOf (And.right ?r22zz); (case r22zz => assumption)) | (refine' tb_ltOf (And.right (And.right ?r22zz)); (case r22zz => assumption)) | (refine' tb_ltOf (And.right (And.right (And.right ?r22zz))); (case r22zz => assumption)))
  k_with "fresh" => (first | exact FreshOver.nil | (refine' FreshOver.cons ?r23za ?r23zb; (case r23za => ((try dsimp only); k_extra "ltall")); (case r23zb => k_extra "fresh")))
  k_with "pairs" => (first | exact All2.nil | (refine' All2.cons ?r24za ?r24zb; (case r24za => (refine' PairAt.mk ?r24zc; (case r24zc => k_extra "mem"))); (case r24zb => k_extra "pairs")))
  k_with "upd" => (first | (refine' upd_app ?r25za ?r25zb; (case r25za => k_extra "allne"); (case r25zb => k_extra "upd")) | (refine' Upd.head ?r25za; (case r25za => k_extra "allne")) | (refine' Upd.tail ?r25za ?r25zb; (case r25za => ((try dsimp only); k_extra "ne")); (case r25zb => k_extra "upd")))
  k_with "setAttr ref" => ((k_dflt (refine' set_dict ?r26zF ?r26zX ?r26zN ?r26zI ?r26zd ?r26zs ?r26zp ?r26zt ?r26zh ?r26zl ?r26ze ?r26zU ?r26zz ?_; (case r26zF => k_asm); (case r26zX => k_asm); (case r26zN => k_asm); (case r26zI => k_inst); (case r26zd => exact rfl); (case r26zs => k_is); (case r26zp => k_is); (case r26zt => k_is); (case r26zh => k_is); (case r26zl => k_get); (case r26ze => k_put); (case r26zU => k_extra "upd"); (case r26zz => exact Nat.le_of_ble_eq_true rfl)); intro zq_h' zq_F' zq_N'; (try k_sweep)))
  k_with "compareOp Eq" => ((k_dflt (refine' pt_eq ?r27zN ?r27za ?r27zb ?r27zu ?_; (case r27zN => k_asm); (case r27za => with_reducible assumption); (case r27zb => with_reducible assumption); (case r27zu => k_extra "units"); k_whole)))
  k_with "compareOp NotEq" => ((k_dflt (refine' pt_ne ?r28zN ?r28za ?r28zb ?r28zu ?_; (case r28zN => k_asm); (case r28za => with_reducible assumption); (case r28zb => with_reducible assumption); (case r28zu => k_extra "units"); k_whole)))
  k_with "exec While Compare cons nil" => (first | ((k_dflt (k_extra "while")); (all_goals ((try ((try k_unmd); k_unfold; clear gG)); (try k_unmd); (try k_fold)))) | (k_here; (try k_fold); k_dflt (refine whl_start 100 ?_)))
  k_with "call builtin:isinstance" => ((k_dflt (first | (refine' isi_tup ?r30zF ?r30zX ?r30zN ?r30zm ?_; (case r30zF => k_asm); (case r30zX => k_asm); (case r30zN => k_asm); (case r30zm => k_extra "mem")) | (refine' isi_int ?r30zF ?r30zX ?r30zN ?_; (case r30zF => k_asm); (case r30zX => k_asm); (case r30zN => k_asm))); intro _))
  k_with "eval Name" => (((with_reducible refine' ldq ?r31zF ?r31zv ?r31zk ?r31zl ?r31zd ?_); (case r31zF => with_reducible assumption); (case r31zl => decide +kernel); (case r31zd => decide +kernel); (case r31zv => k_dflt (first | with_reducible assumption | exact @rfl _ (some _) | assumption)); (case r31zk => exact rfl)))
  k_with "TurnPost" => ((first | (with_reducible refine TurnPost.retI ?_) | (with_reducible refine TurnPost.nextI ?_)))
  k_with "exec For" => (((rename Fr _ _ _ _ => zq_lF'); (with_unfolding_all refine' For_invVF zq_lF' ?r33zk1 ?r33zk2 ?_; (case r33zk1 => exact rfl); (case r33zk2 => exact rfl); k_whole)))
  k_with "exec For Name Attribute cons nil" => (walk_at "exec For")
  k_with "exec For Name Name cons nil" => (walk_at "exec For")
  k_with "exec For Name Call cons nil" => (walk_at "exec For")
  k_with "rowAt" => (with_reducible assumption)
  k_with "depth" => (first | exact dp1 (by with_reducible assumption) rfl | exact dp0 (by with_reducible assumption) rfl | exact dp2 (by with_reducible assumption) rfl | (simp only [depth_under_make, depth_under_kw, depth_in1, depth_deeper, depth_caller] at *; omega))
  k_with "exec If" => (first | k_dflt (k_extra "if") | ((with_reducible refine wpAny_If ?_); (try dsimp only)))
  k_with "exec If Compare cons nil" => (walk_at "exec If")
  k_with "exec If BoolOp cons nil" => (walk_at "exec If")
  k_with "exec If Call cons nil" => (walk_at "exec If")
  k_with "exec If UnaryOp cons nil" => (walk_at "exec If")
  k_with "exec If Compare cons cons" => (walk_at "exec If")
  k_with "exec If BoolOp cons cons" => (walk_at "exec If")
  k_with "eval Call" => (((fail_if_success (with_reducible show wpAny _ _ (eval (Expr.Call (Expr.Name (PySem.Str.ofString "range") _) _ _ _) _) _ _ _)); (with_reducible show wpAny _ _ (eval (Expr.Call (Expr.Name _ _) _ _ _) _) _ _ _); k_dflt (refine Call_ ?_)))
  k_with "eval Call Attribute" => ((k_dflt (refine MethodCall_ ?_)))
  k_with "handled" => (first | assumption | exact rfl)
  k_with "frames" => (first | exact rfl | (refine' frames_deeper ?r49zz; (case r49zz => assumption)))
  k_with "pyIter ref" => (((k_dflt (k_extra "loop")); (all_goals ((try ((try k_unmd); k_unfold; clear gG)); (try dsimp only); (try k_unmd); (try k_fold)))))
  k_with "call ref" => (k_dflt (k_extra "call"))
  k_with "sub" => (first | with_reducible assumption | with_reducible exact sub_refl | (with_reducible refine sub_cons ?_; k_extra "sub") | (with_reducible refine sub_app ?_; k_extra "sub"))
  k_with "call builtin:list.append" => ((k_dflt (refine' app_l ?r53zF ?r53zN ?r53zU ?r53zz ?_; (case r53zF => k_asm); (case r53zN => k_asm); (case r53zU => k_extra "upd"); (case r53zz => exact Nat.le_of_ble_eq_true rfl)); intro zq_h' zq_F' zq_N'; (try dsimp only [List.cons_append, List.nil_append] at zq_N'); (try k_sweep)))
  k_with "compareOp In ref ref" => ((k_dflt (first | (refine' in_ops0 ?r54zN ?r54zl ?r54zo ?r54zu ?_; (case r54zN => k_asm); (case r54zl => k_extra "mem"); (case r54zo => k_extra "opAt"); (case r54zu => k_extra "units")) | (refine' in_ops1 ?r54zN ?r54zl ?r54zv ?r54zo ?r54zu ?_; (case r54zN => k_asm); (case r54zl => k_extra "mem"); (case r54zv => k_extra "opAt"); (case r54zo => k_extra "opAt"); (case r54zu => k_extra "units")))))
  k_with "assign Tuple" => ((k_dflt (refine' unpackN_ ?r55zF ?r55zN ?r55zT ?r55zh ?r55z2 ?r55z3 ?_; (case r55zF => k_asm); (case r55zN => k_asm); (case r55zT => (refine' News.isTup ?r55zy1 ?r55zy2; (case r55zy1 => k_asm); (case r55zy2 => k_extra "mem"))); (case r55zh => k_extra "handled"); (case r55z2 => exact rfl); (case r55z3 => exact rfl)); intro zq_h' zq_F' zq_N'; (try k_sweep)))
  k_with "WPost" => ((first | (with_reducible refine WPost.retI ?_) | (with_reducible refine WPost.nextI ?_)))
  k_with "WhlIf" => (((first | (refine' WhlIf.yes ?r57zz ?_; (case r57zz => (refine decide_eq_true ?_; omega))) | (refine' WhlIf.no ?r57zz ?_; (case r57zz => (refine decide_eq_false ?_; omega)))); (try dsimp only); (try k_unmd); (try k_fold)))
  k_with "call builtin:len" => ((k_dflt (refine' len_l ?r58zN ?r58zm ?r58zz ?_; (case r58zN => k_asm); (case r58zm => k_extra "mem"); (case r58zz => first | exact Nat.le_of_ble_eq_true rfl | omega)); intro _ _))
  k_with "loadName" => (((with_reducible refine' ldnq ?r59zF ?r59zv ?r59zk ?r59zl ?_); (case r59zF => with_reducible assumption); (case r59zl => decide +kernel); (case r59zv => k_dflt (first | with_reducible assumption | exact @rfl _ (some _) | assumption)); (case r59zk => exact rfl)))
  k_with "kv" => (with_reducible first | exact kv_held | exact kv_temps | exact kv_given | exact kv_out | exact kv_count)
  k_with "stitem" => ((k_dflt (refine' st_item ?r61zN ?r61zm ?r61zd ?r61zv ?_ ?r61zh6; (case r61zN => k_asm); (case r61zm => k_extra "mem"); (case r61zd => with_reducible assumption); (case r61zv => k_extra "kv"); (case r61zh6 => with_unfolding_all rfl))))
  k_with "subscriptTail Name Constant ref str" => (k_extra "stitem")
  k_with "call type:range" => ((k_dflt (first | (refine' range1_rows ?r63zF ?r63zN ?_; (case r63zF => k_asm); (case r63zN => k_asm)) | (refine' range2_rows ?r63zF ?r63zN ?_; (case r63zF => k_asm); (case r63zN => k_asm))); intro zq_h' zq_tk' zq_t9 zq_u9 zq_w9 zq_R' zq_F' zq_N' zq_kp'; clear zq_kp'; (try k_sweep)))
  k_with "TurnPost" => ((with_reducible refine TurnPost.contI ?_))
  k_with "unpackItems ref" => ((k_dflt (refine' unpackItemsN_ ?r65zF ?r65zN ?r65zT ?r65zh ?r65z2 ?_; (case r65zF => k_asm); (case r65zN => k_asm); (case r65zT => (refine' News.isTup ?r65zy1 ?r65zy2; (case r65zy1 => k_asm); (case r65zy2 => k_extra "mem"))); (case r65zh => k_extra "handled"); (case r65z2 => exact rfl)); intro zq_h' zq_F' zq_N'; (try k_sweep)))
  k_with "storeName" => (((k_dflt (refine' store_let ?r66zF ?r66zN ?_ ?r66za ?r66zb; (case r66zF => k_asm); (case r66zN => k_asm); (case r66za => rfl); (case r66zb => rfl); k_whole)); (intro zq_mk zq_h' zq_F' zq_N'); (try k_sweep)))
  k_with "callWith" => (((with_reducible show wpAny _ _ (callWith _ (Value.builtin "list.append") _ _ _) _ _ _); (k_dflt (refine callWith_method1 ?_))))
  k_with "call" => ((with_reducible show wpAny _ _ (call (Value.ref 77) _) _ _ _); (k_dflt (refine' ct_use_t (ct_x hx (copied_ct c hS ?y1 ?y2 hw)) ?zh ?zA ?zf ?zk ?zd ?zu ?zB ?zF ?zX ?zN ?zT ?_; (case zN => k_asm); (case y1 => exact fun _ h => List.mem_append_left _ h); (case y2 => (refine' RowAt.mono ?ZQ hr0; (case ZQ => k_extra "sub"))); (case zh => k_extra "handled"); (case zA => k_extra "frames"); (case zf => exact rfl); (case zk => exact rfl); (case zd => k_extra "depth"); (case zu => k_extra "units"); (case zB => k_asm); (case zF => k_asm); (case zX => k_asm); (case zT => k_asm))); (intro t9 h' tk' F' N'); (try k_sweep))
  k_with "call" => ((with_reducible show wpAny _ _ (call (Value.ref 49) _) _ _ _); (k_dflt (refine' ct_use (ct_x hx (newv_ct c hS hK)) ?zh ?zA ?zf ?zk ?zd ?zu ?zB ?zF ?zX ?zN ?zT ?_; (case zN => k_asm);  (case zh => k_extra "handled"); (case zA => k_extra "frames"); (case zf => exact rfl); (case zk => exact rfl); (case zd => k_extra "depth"); (case zu => k_extra "units"); (case zB => k_asm); (case zF => k_asm); (case zX => k_asm); (case zT => k_asm))); (intro r' news' h' tk' F' N' p'); (show (let gG : Prop := _; gG)); intro gG; obtain ⟨a1, t9, e1, e2, hx1, hS1, hK1⟩ := p'; (try k_unmd); k_unfold; clear gG; subst e1; subst e2; replace hx1 := hx1.trans hx; (try k_sweep))
  k_with "if" => (
    (with_reducible show wpAny _ _ (exec (Stmt.If _ [Stmt.Assign [Expr.Name (PySem.Str.ofString "value") _] _ _] [] _) _) _ _ _)
    (fail_if_success (with_reducible show wpAny _ _ _ (MidP _) _ _))
    refine wpAny_mono (Q := MidP fun f s9 => f = Flow.next ∧ ∃ a1 st1 v t h9 tk9 m9, s9 = ⟨h9, s.gens, s.drawn, tk9, s.os⟩ ∧ st1 = (if copied st ⟨j, ps⟩ = 0 then { st with nv := st.nv + 1 } else st) ∧ v = (if copied st ⟨j, ps⟩ = 0 then st.nv + 1 else copied st ⟨j, ps⟩) ∧
      Fr g' L' h9 m9 ∧ m9 (PySem.Str.ofString "self") = some (.ref x0) ∧ m9 (PySem.Str.ofString "instruction") = some (.ref ia) ∧ m9 (PySem.Str.ofString "real") = some (.ref ra) ∧ m9 (PySem.Str.ofString "value") = some (.int v t) ∧
      News g' L' h9 (a1.fp st1.nv ++ keep) ∧ a1.x = x0 ∧ CkS c.w a1 st1 ∧ CkOff a1 keep) ?_ ?_ (fun _ _ e => e)
    rotate_left 1
    intro f9 s9 h9
    (show (let gG : Prop := _; gG)); intro gG; obtain ⟨hf9, a1, st1, v, tv, hp9, tk9, m9, hs9, hst1, hv1, F', hm1, hm2, hm3, hm4, N', hx1, hS1, hK1⟩ := h9; k_unfold; clear gG
    subst hf9 hs9
    obtain ⟨m3, m4⟩ := CA.self_mem (nv := st1.nv) hx1
    dsimp only
    (rename Fr g' _ _ (fun y => ite _ _ _) => lF'); clear lF'
    rotate_right 1)
  k_with "call" => ((with_reducible show wpAny _ _ (call (Value.ref 21) [Value.ref ia]) _ _ _); (k_dflt (refine' ct_use_ro (roles_ct c ?y6 ?y7) ?zh ?zA ?zf ?zk ?zd ?zu ?zB ?zF ?zX ?zN ?zT ?_; (case zN => k_asm); (case y6 => k_extra "mem"); (case y7 => assumption); (case zh => k_extra "handled"); (case zA => k_extra "frames"); (case zf => exact rfl); (case zk => exact rfl); (case zd => k_extra "depth"); (case zu => k_extra "units"); (case zB => k_asm); (case zF => k_asm); (case zX => k_asm); (case zT => k_asm))); (intro lA nA pvA tlA h' tk' F' N' hP9; (try dsimp only at hP9); (show (let gG : Prop := _; gG)); intro gG; obtain ⟨hfA, hlA, hpA⟩ := hP9); replace N' := News.sub N' rearr; replace hK1 := CkOff.fresh hK1 hfA; (all_goals ((try k_unmd); k_unfold; clear gG)); (try k_sweep))
  k_with "call" => ((with_reducible show wpAny _ _ (call (Value.ref 21) [Value.ref ra]) _ _ _); (k_dflt (refine' ct_use_ro (roles_ct c ?y6 ?y7) ?zh ?zA ?zf ?zk ?zd ?zu ?zB ?zF ?zX ?zN ?zT ?_; (case zN => k_asm); (case y6 => k_extra "mem"); (case y7 => assumption); (case zh => k_extra "handled"); (case zA => k_extra "frames"); (case zf => exact rfl); (case zk => exact rfl); (case zd => k_extra "depth"); (case zu => k_extra "units"); (case zB => k_asm); (case zF => k_asm); (case zX => k_asm); (case zT => k_asm))); (intro lB nB pvB tlB h' tk' F' N' hP9; (try dsimp only at hP9); (show (let gG : Prop := _; gG)); intro gG; obtain ⟨hfB, hlB, hpB⟩ := hP9); replace N' := News.sub N' rearr; replace hK1 := CkOff.fresh hK1 hfB; (all_goals ((try k_unmd); k_unfold; clear gG)); (try k_sweep))
  k_with "while" => (
    (rename Fr _ _ _ _ => lF'); (rename News _ _ _ _ => lN')
    have hLF := loop_facts (keep := keep) hpA hpB hpo
    have hlenA := all2_length hpA
    rw [List.length_map] at hlenA
    have hlenP : (pairsOf ⟨j, ps⟩ ⟨j, qs⟩).length = j.roles.length := by unfold pairsOf; rw [List.length_map]
    have hr2 := roles_len j
    have hn1 : st1.Le nn := by rw [hst1]; split; exact ⟨hn.vo, hn.held, hn.inc, hn.out⟩; exact hn
    refine while_J (fun k m nx => ∃ i a2 st2 t, k + i = j.roles.length ∧ m (PySem.Str.ofString "self") = some (.ref x0) ∧ m (PySem.Str.ofString "instruction") = some (.ref ia) ∧ m (PySem.Str.ofString "pairs") = some (.ref lA) ∧ m (PySem.Str.ofString "others") = some (.ref lB) ∧
      m (PySem.Str.ofString "at") = some (.int (i : Int) t) ∧ m (PySem.Str.ofString "value") = some (.int v tv) ∧ nx = CA.fp a2 st2.nv ++ (tlB ++ (tlA ++ keep)) ∧ a2.x = x0 ∧ CkS c.w a2 st2 ∧ CkOff a2 (tlB ++ (tlA ++ keep)) ∧ st2.Le (nn + i) ∧ wPairs v st2 ((pairsOf ⟨j, ps⟩ ⟨j, qs⟩).drop i) = wPairs v st1 (pairsOf ⟨j, ps⟩ ⟨j, qs⟩)) j.roles.length lF' lN' ⟨0, a1, st1, _, by omega, hm1, hm2, rfl, rfl, rfl, hm4, rfl, hx1, hS1, hK1, hn1, rfl⟩ ?_ (by first | passes_own | with_unfolding_all passes_own)
    have hadv := fun st2 h => advB_eq (s := ⟨j, qs⟩) (st2 := st2) hst1 hv1 h
    clear lF' lN' m3 m4 hm1 hm2 hm3 hm4 hx1 hS1 hK1 hst1 hv1
    rintro k9 m9 nx9 hp9 tk9 F' N' hJ; (show (let gG : Prop := _; gG)); intro gG; obtain ⟨i, a2, st2, ti, hki, hm1, hm2, hm3, hm4, hm5, hm6, hnx, hx1, hS1, hK1, hLe, hwp⟩ := hJ
    subst hnx
    obtain ⟨m3, m4⟩ := CA.self_mem (nv := st2.nv) hx1
    have hsubK : ∀ p ∈ keep, p ∈ tlB ++ (tlA ++ keep) := fun p hp => List.mem_append_right _ (List.mem_append_right _ hp)
    rcases loop_cases hLF i with hi9 | ⟨role, c1, d1, f1, c2, d2, f2, v9, w9, o9, q9, hi9, g1, g2, g3, g4, g5, g6, rfl | rfl | rfl⟩)
  k_with "call" => ((with_reducible show wpAny _ _ (call (Value.ref 70) _) _ _ _); (k_dflt (refine' ct_use (ct_x hx1 (write_ct c hS1 hK1 (g6.a.mono hsubK) (g6.b.mono hsubK) g6.ok (g6.wr (by decide)) hLe (by omega))) ?zh ?zA ?zf ?zk ?zd ?zu ?zB ?zF ?zX ?zN ?zT ?_; (case zN => k_asm);  (case zh => k_extra "handled"); (case zA => k_extra "frames"); (case zf => exact rfl); (case zk => exact rfl); (case zd => k_extra "depth"); (case zu => k_extra "units"); (case zB => k_asm); (case zF => k_asm); (case zX => k_asm); (case zT => k_asm))); (intro r' news' h' tk' F' N' p'); (show (let gG : Prop := _; gG)); intro gG; obtain ⟨a3, e2, hx3, hS3, hK3, hLe3⟩ := p'; (try k_unmd); k_unfold; clear gG; subst e2; replace hx3 := hx3.trans hx1; (try k_sweep))
  k_with "call" => ((with_reducible show wpAny _ _ (call (Value.ref 28) _) _ _ _); (k_dflt (refine' ct_use_eq (ends_ct c ?y1) ?zh ?zA ?zf ?zk ?zd ?zu ?zB ?zF ?zX ?zN ?zT ?_; (case zN => k_asm); (case y1 => (refine' RowAt.mono ?ZQ hr0; (case ZQ => (intro p hp; exact List.mem_append_right _ (List.mem_append_right _ (List.mem_append_right _ hp)))))); (case zh => k_extra "handled"); (case zA => k_extra "frames"); (case zf => exact rfl); (case zk => exact rfl); (case zd => k_extra "depth"); (case zu => k_extra "units"); (case zB => k_asm); (case zF => k_asm); (case zX => k_asm); (case zT => k_asm))); (intro h' tk' F' N'); obtain ⟨x, dx, V, H, I, O, t1, t2, t3, t4, t5, tn, h1, h2, h3, h4, h5, oV, oH, oI, oO⟩ := a2; obtain ⟨dV, dH, dI, dO, loV, loH, loI, loO, n1, n2, n3, n4, n5, n6, n7, n8, n9, n10, n11, n12, n13, n14, n15⟩ := hS1; obtain ⟨k1, k2, k3, k4, k5, k6⟩ := hK1; dsimp only at hx1; subst hx1; simp only [CA.fp, List.cons_append, List.nil_append] at N'; clear m3 m4; dsimp only at *; rcases call_cases j with ⟨hc1, hc2, hc3⟩ | ⟨hc1, hc2, hc3, hc4⟩; (try k_sweep))
  refine wpAny_call ?_
  k_dflt (refine' code_def (binds := [(PySem.Str.ofString "self", .ref x0), (PySem.Str.ofString "instruction", .ref ia), (PySem.Str.ofString "real", .ref ra)]) ?zk1 ?zk2 ?zk3 ?zk4 ?zk5 ?zkA ?zkF ?zkK ?zk6 ?zk7 ?zk8 ?zk9 ?zkB ?_ ?zc2 ?zc3 ?zc4 ?zc5; (case zkA => assumption); (case zkF => assumption); (case zkK => assumption); (case zk1 => k_asm); (case zk2 => k_asm); (case zk3 => k_asm); (case zk4 => k_asm); (case zk5 => k_asm); (case zk6 => k_is); (case zk7 => k_is); (case zk8 => omega); (case zk9 => exact BindsTo.of_eq rfl); (case zc5 => decide); (case zkB => exact locs rfl); (case zc2 => exact rfl); (case zc3 => exact rfl); (case zc4 => exact rfl); k_whole; intro g' L' h' FG' F' N' B' X' T'; (try dsimp only [List.reverse_cons, List.reverse_nil, List.nil_append, List.cons_append] at F'); (try dsimp only); (try k_fold))
  k_steps
  · exact ⟨rfl, a1, { st with nv := st.nv + 1 }, st.nv + 1, _, _, _, _, rfl, by rw [if_pos (by assumption)], by rw [if_pos (by assumption)], by assumption, rfl, rfl, rfl, rfl, by assumption, hx1, hS1, hK1⟩
  · exact ⟨rfl, a, st, _, _, _, _, _, rfl, by rw [if_neg (by assumption)], by rw [if_neg (by assumption)], by assumption, rfl, rfl, rfl, rfl, by assumption, hx, hS, hK⟩
  · have e2 : st2 = wPairs v st1 (pairsOf ⟨j, ps⟩ ⟨j, qs⟩) := by rw [← hwp, List.drop_eq_nil_of_le (by omega)]; rfl
    have e3 := hadv _ e2
    rw [if_pos hc1] at e3
    rw [e3] at ret
    refine' ret _ _ _ _ (by assumption) (News.sub (by assumption) (sub6 (a := ⟨x, dx, _, _, _, _, t1, t2, t3, t4, t5, tn, h1, h2, h3, h4, h5, _, _, _, _⟩) ?q1 ?q2 ?q3 ?q4 ?q5 ?q6 ?q7)) ⟨_, rfl, rfl, ?q8, ?q9, ?q10⟩
    case q2 => k_extra "mem"
    case q1 => k_extra "mem"
    case q3 => k_extra "mem"
    case q4 => k_extra "mem"
    case q5 => k_extra "mem"
    case q6 => k_extra "mem"
    case q7 => intro p hp; simp only [List.mem_cons, List.mem_append]; simp only [hp, or_true]
    case q8 => constructor <;> dsimp only <;> first | assumption | exact DI.nil (by assumption) | (refine neN ?_; (try dsimp only); first | k_extra "ne" | omega) | skip
    case q9 =>
      constructor <;> dsimp only <;> first
        | exact Off.right (Off.right (by assumption))
        | (refine' Off.right (Off.right (off_lt ?zz)); (case zz => first
            | (refine' and6 ?zy; (case zy => assumption))
            | (refine' and6 (And.right ?zy); (case zy => assumption))
            | (refine' and6 (And.right (And.right ?zy)); (case zy => assumption))
            | (refine' and6 (And.right (And.right (And.right ?zy))); (case zy => assumption))))
    case q10 => exact ⟨Nat.zero_le _, Nat.zero_le _, Nat.zero_le _, Nat.zero_le _⟩
  · have e2 : st2 = wPairs v st1 (pairsOf ⟨j, ps⟩ ⟨j, qs⟩) := by rw [← hwp, List.drop_eq_nil_of_le (by omega)]; rfl
    have e3 := hadv _ e2
    rw [if_neg hc1] at e3
    rw [e3] at ret
    refine ret _ _ _ _ (by assumption) (News.sub (by assumption) ?_) ⟨⟨x, dx, V, H, I, O, t1, t2, t3, t4, t5, tn, h1, h2, h3, h4, h5, oV, oH, oI, oO⟩, rfl, rfl, ?_, ?_, ?_⟩
    · exact sub6 (by k_extra "mem") (by k_extra "mem") (by k_extra "mem") (by k_extra "mem") (by k_extra "mem") (by k_extra "mem") (fun p hp => by simp only [List.mem_cons, List.mem_append]; simp only [hp, or_true])
    · constructor <;> assumption
    · constructor <;> exact Off.right (Off.right (by assumption))
    · exact hLe.mono (by omega)
  · rw [drop_get g5] at hwp
    rename Fr _ _ _ _ => F9
    rename News _ _ _ _ => N9
    exact WEnd.intro (n' := k9 - 1) F9 N9 (by omega) ⟨i + 1, a2, st2, _, by omega, hm1, hm2, hm3, hm4, rfl, hm6, rfl, hx1, hS1, hK1, hLe.mono (by omega), hwp⟩
  all_goals (
    rw [drop_get g5] at hwp
    rename Fr _ _ _ _ => F9
    rename News _ _ _ _ => N9
    exact WEnd.intro (n' := k9 - 1) F9 N9 (by omega) ⟨i + 1, a3, _, _, by omega, hm1, hm2, hm3, hm4, rfl, hm6, rfl, hx3, hS3, hK3, hLe3, hwp⟩)
end
section
theorem copied_ne {st : CS} {r : Row} (hw : WA r) (h : copied st r ≠ 0) : (∃ t a, r = ⟨.getVar, [.op (.t t), .op (.a a)]⟩) ∨ (∃ t a, r = ⟨.putVal, [.op (.t t), .op (.a a)]⟩) := by
  cases hw <;> first | exact .inl ⟨_, _, rfl⟩ | exact .inr ⟨_, _, rfl⟩ | exact absurd rfl h
set_option maxRecDepth 100000 in
set_option maxHeartbeats 0 in
theorem left_ct (c : Cx) {a : CA} {x0 : Addr} {st : CS} {iv : Value} {r : Row} {keep : List (Addr × Obj)} {nn : Nat} (hx : a.x = x0) (hS : CkS c.w a st) (hK : CkOff a keep) (hr : RowAt keep iv r) (hw : WA r) (hn : st.Le nn) (hn' : nn ≤ 800) :
    Ct c 112 6 150 [.ref x0, iv] (a.fp st.nv ++ keep)
      (fun v news' => ∃ b a' st', v = .bool b ∧ news' = a'.fp st'.nv ++ keep ∧ a'.x = x0 ∧ CkS c.w a' st' ∧ CkOff a' keep ∧ st'.Le (nn + 1)) := by
  unfold Ct PR
  k_fill
  intro A env outer A₀ base h₀ L m s Q E hh hA hf hke hd hu B F X N T ret
  have hr0 := hr
  obtain ⟨m1, m2⟩ := CA.self_mem (nv := st.nv) hx
  k_with_none
  k_with "mem" => (first | with_reducible assumption | with_reducible exact List.mem_cons_self | (with_reducible refine List.mem_cons_of_mem _ ?_; k_extra "mem") | (with_reducible refine List.mem_append_left _ ?_; k_extra "mem") | (with_reducible refine List.mem_append_right _ ?_; k_extra "mem"))
  k_with "my_enter" => ((refine' code_def ?r2zk1 ?r2zk2 ?r2zk3 ?r2zk4 ?r2zk5 ?r2zkA ?r2zkF ?r2zkK ?r2zk6 ?r2zk7 ?r2zk8 ?r2zk9 ?r2zkB ?_ ?r2zc2 ?r2zc3 ?r2zc4 ?r2zc5; (case r2zkA => assumption); (case r2zkF => assumption); (case r2zkK => assumption); (case r2zk1 => k_asm); (case r2zk2 => k_asm); (case r2zk3 => k_asm); (case r2zk4 => k_asm); (case r2zk5 => k_asm); (case r2zk6 => k_is); (case r2zk7 => k_is); (case r2zk8 => omega); (case r2zk9 => exact BindsTo.of_eq rfl); (case r2zc5 => decide); (case r2zkB => exact locs rfl); (case r2zc2 => exact rfl); (case r2zc3 => exact rfl); (case r2zc4 => exact rfl); k_whole; intro zq_g' zq_L' zq_h' zq_FG' zq_F' zq_N' zq_B' zq_X' zq_T'; (try dsimp only); (try k_fold)))
  k_with "mysub" => (((with_reducible show wpAny _ _ (subscriptTail _ _ (Value.ref _) (Value.int _ _)) _ _ _); (with_unfolding_all first | (refine' sub_tup ?r3zN ?r3zm ?r3zi ?r3zj ?r3zx ?_ ?r3zh6; (case r3zN => k_asm); (case r3zm => k_extra "mem"); (case r3zi => exact rfl); (case r3zj => decide); (case r3zx => exact rfl); (case r3zh6 => rfl); k_whole) | (refine' sub_list ?r3zN ?r3zm ?r3zi ?r3zj ?r3zx ?_ ?r3zh6; (case r3zN => k_asm); (case r3zm => k_extra "mem"); (case r3zi => exact rfl); (case r3zj => omega); (case r3zx => assumption); (case r3zh6 => rfl); k_whole) | (refine' sub_list ?r3zN ?r3zm ?r3zi ?r3zj ?r3zx ?_ ?r3zh6; (case r3zN => k_asm); (case r3zm => k_extra "mem"); (case r3zi => exact rfl); (case r3zj => decide); (case r3zx => exact rfl); (case r3zh6 => rfl); k_whole) | (refine' di_item ?r3zN ?r3zm ?r3zd ?r3zv ?_ ?r3zh6; (case r3zN => k_asm); (case r3zm => k_extra "mem"); (case r3zd => with_reducible assumption); (case r3zv => with_reducible assumption); (case r3zh6 => rfl); k_whole; intro _) | (refine' ds_item ?r3zN ?r3zm ?r3zd ?r3zv ?_ ?r3zh6; (case r3zN => k_asm); (case r3zm => k_extra "mem"); (case r3zd => with_reducible assumption); (case r3zv => with_reducible assumption); (case r3zh6 => rfl); k_whole; intro _))))
  k_with "subscriptTail" => (k_extra "mysub")
  k_with "subscriptTail Name Constant ref int" => (k_extra "mysub")
  k_with "subscriptTail Name Name ref int" => (k_extra "mysub")
  k_with "subscriptTail Attribute Name Subscript Name Constant ref int" => (k_extra "mysub")
  k_with "getMethod ref" => (((with_reducible show wpAny _ _ (getMethod (Value.ref _) (PySem.Str.ofString "get") _) _ _ _); k_dflt (first | (refine' di_method ?r8zN ?r8zm ?r8zd ?_; (case r8zN => k_asm); (case r8zm => k_extra "mem"); (case r8zd => with_reducible assumption)) | (refine' ds_method ?r8zN ?r8zm ?r8zd ?_; (case r8zN => k_asm); (case r8zm => k_extra "mem"); (case r8zd => with_reducible assumption)))))
  k_with "call builtin:dict.get" => ((k_dflt (first | (refine' di_get ?r9zN ?r9zm ?r9zd ?r9zlo ?_; (case r9zN => k_asm); (case r9zm => k_extra "mem"); (case r9zd => with_reducible assumption); (case r9zlo => with_reducible assumption)) | (refine' ds_get ?r9zN ?r9zm ?r9zd ?r9zlo ?_; (case r9zN => k_asm); (case r9zm => k_extra "mem"); (case r9zd => with_reducible assumption); (case r9zlo => with_reducible assumption))); intro _))
  k_with "compareOp NotIn int ref" => ((k_dflt (refine' di_notin2 ?r10zN ?r10zm ?r10zd ?r10zlo ?_ ?_; (case r10zN => k_asm); (case r10zm => k_extra "mem"); (case r10zd => with_reducible assumption); (case r10zlo => with_reducible assumption)); intros))
  k_with "ite" => (with_reducible first | refine ite_t ?_ | refine ite_f ?_ | (refine' ite_bt ?r11zh ?_; (case r11zh => assumption)) | (refine' ite_bf ?r11zh ?_; (case r11zh => assumption)))
  k_with "opAt" => (first | with_reducible assumption | (refine' OpAt.mono ?r12zs ?r12zh; (case r12zh => with_reducible assumption); (case r12zs => k_extra "sub")) | (refine' OpAt.t ?r12zq; (case r12zq => k_extra "mem")) | (refine' OpAt.a ?r12zq; (case r12zq => k_extra "mem")) | (refine' OpAt.y ?r12zq; (case r12zq => k_extra "mem")) | (refine' OpAt.x ?r12zq; (case r12zq => k_extra "mem")))
  k_with "units" => (first | exact un1 (by with_reducible assumption) rfl | exact un0 (by with_reducible assumption) rfl | exact un2 (by with_reducible assumption) rfl | (simp only [units_in1, units_deeper, Around.mark_units, units_caller] at *; omega))
  k_with "compareOp Eq ref ref" => ((k_dflt (refine' op_eq ?r14zN ?r14za ?r14zb ?r14zu ?_; (case r14zN => k_asm); (case r14za => k_extra "opAt"); (case r14zb => k_extra "opAt"); (case r14zu => k_extra "units"); k_whole)))
  k_with "compareOp NotEq ref ref" => ((k_dflt (refine' op_ne ?r15zN ?r15za ?r15zb ?r15zu ?_; (case r15zN => k_asm); (case r15za => k_extra "opAt"); (case r15zb => k_extra "opAt"); (case r15zu => k_extra "units"); k_whole)))
  k_with "ne" => (first | with_reducible assumption | with_reducible exact Ne.symm (by with_reducible assumption) | with_reducible exact lt_ne_1 (by with_reducible assumption) | with_reducible exact lt_ne_2 (by with_reducible assumption) | with_reducible exact lt_ne_3 (by with_reducible assumption) | with_reducible exact lt_ne_4 (by with_reducible assumption) | with_reducible exact lt_ne_5 (by with_reducible assumption) | with_reducible exact lt_ne_6 (by with_reducible assumption) | with_reducible exact lt_ne_7 (by with_reducible assumption) | with_reducible exact lt_ne_8 (by with_reducible assumption) | with_reducible exact Ne.symm (lt_ne_1 (by with_reducible assumption)) | with_reducible exact Ne.symm (lt_ne_2 (by with_reducible assumption)) | with_reducible exact Ne.symm (lt_ne_3 (by with_reducible assumption)) | with_reducible exact Ne.symm (lt_ne_4 (by with_reducible assumption)) | with_reducible exact Ne.symm (lt_ne_5 (by with_reducible assumption)) | with_reducible exact Ne.symm (lt_ne_6 (by with_reducible assumption)) | with_reducible exact Ne.symm (lt_ne_7 (by with_reducible assumption)) | with_reducible exact Ne.symm (lt_ne_8 (by with_reducible assumption)) | omega)
  k_with "allne" => (first | with_reducible assumption | (refine' ne_of_lt_all ?r17zz; (case r17zz => with_reducible assumption)) | (refine' ne_of_fresh ?r17zz ?r17zm; (case r17zz => with_reducible assumption); (case r17zm => k_extra "mem")) | exact List.forall_mem_nil _ | (refine' List.forall_mem_cons.mpr ⟨?r17za, ?r17zb⟩; (case r17za => ((try dsimp only); k_extra "ne")); (case r17zb => k_extra "allne")))
  k_with "updF" => (first | (refine' UpdF.head ?r18za; (case r18za => k_extra "allne")) | (refine' UpdF.tail ?r18za ?r18zb; (case r18za => ((try dsimp only); k_extra "ne")); (case r18zb => k_extra "updF")))
  k_with "setItem ref int" => ((k_dflt (first | (refine' di_set ?r19zF ?r19zN ?r19zU ?r19zd ?r19zz ?_; (case r19zF => k_asm); (case r19zN => k_asm); (case r19zU => k_extra "updF"); (case r19zd => with_reducible assumption); (case r19zz => omega)) | (refine' ds_set ?r19zF ?r19zN ?r19zU ?r19zd ?r19zz ?_; (case r19zF => k_asm); (case r19zN => k_asm); (case r19zU => k_extra "updF"); (case r19zd => with_reducible assumption); (case r19zz => omega))); intro zq_h' zq_o' zq_F' zq_N' zq_hd'; (try dsimp only at zq_N'); (try k_sweep)))
  k_with "ifline" => (first | ((with_reducible refine' if_ne ?r20zF ?r20zv ?r20zn ?_ ?r20zk ?r20zl ?r20zd); (case r20zF => k_asm); (case r20zv => with_unfolding_all rfl); (case r20zn => decide +kernel); (case r20zk => rfl); (case r20zl => rfl); (case r20zd => decide); intro _) | ((with_reducible refine' if_eq ?r20zF ?r20zv ?r20zn ?_ ?r20zk ?r20zl ?r20zd); (case r20zF => k_asm); (case r20zv => with_unfolding_all rfl); (case r20zn => decide +kernel); (case r20zk => rfl); (case r20zl => rfl); (case r20zd => decide); intro _; dsimp only) | ((with_reducible refine' ifo_ne ?r20zF ?r20zv ?r20zn ?_ ?r20zk ?r20zl ?r20zd); (case r20zF => k_asm); (case r20zv => with_unfolding_all rfl); (case r20zn => decide +kernel); (case r20zk => rfl); (case r20zl => rfl); (case r20zd => decide); intro _) | ((with_reducible refine' ifo_eq ?r20zF ?r20zv ?r20zn ?_ ?r20zk ?r20zl ?r20zd); (case r20zF => k_asm); (case r20zv => with_unfolding_all rfl); (case r20zn => decide +kernel); (case r20zk => rfl); (case r20zl => rfl); (case r20zd => decide); intro _; dsimp only))
  k_with "execs cons" => (((with_reducible show wpAny _ _ (execs (Stmt.If _ _ _ _ :: _) _) _ _ _); k_dflt (k_extra "ifline")))
  k_with "ltall" => (first | assumption | exact tb_ltOf (by assumption) | (refine' tb_ltOf (And.right ?r22zz); (case r22zz => assumption)) | (refine' tb_ltOf (And.right (And.right ?r22zz)); (case r22zz => assumption)) | (refine' tb_ltOf (And.right (And.right (And.right ?r22zz))); (case r22zz => assumption)))
  k_with "fresh" => (first | exact FreshOver.nil | (refine' FreshOver.cons ?r23za ?r23zb; (case r23za => ((try dsimp only); k_extra "ltall")); (case r23zb => k_extra "fresh")))
  k_with "pairs" => (first | exact All2.nil | (refine' All2.cons ?r24za ?r24zb; (case r24za => (refine' PairAt.mk ?r24zc; (case r24zc => k_extra "mem"))); (case r24zb => k_extra "pairs")))
  k_with "upd" => (first | (refine' upd_app ?r25za ?r25zb; (case r25za => k_extra "allne"); (case r25zb => k_extra "upd")) | (refine' Upd.head ?r25za; (case r25za => k_extra "allne")) | (refine' Upd.tail ?r25za ?r25zb; (case r25za => ((try dsimp only); k_extra "ne")); (case r25zb => k_extra "upd")))
  k_with "setAttr ref" => ((k_dflt (refine' set_dict ?r26zF ?r26zX ?r26zN ?r26zI ?r26zd ?r26zs ?r26zp ?r26zt ?r26zh ?r26zl ?r26ze ?r26zU ?r26zz ?_; (case r26zF => k_asm); (case r26zX => k_asm); (case r26zN => k_asm); (case r26zI => k_inst); (case r26zd => exact rfl); (case r26zs => k_is); (case r26zp => k_is); (case r26zt => k_is); (case r26zh => k_is); (case r26zl => k_get); (case r26ze => k_put); (case r26zU => k_extra "upd"); (case r26zz => exact Nat.le_of_ble_eq_true rfl)); intro zq_h' zq_F' zq_N'; (try k_sweep)))
  k_with "compareOp Eq" => ((k_dflt (refine' pt_eq ?r27zN ?r27za ?r27zb ?r27zu ?_; (case r27zN => k_asm); (case r27za => with_reducible assumption); (case r27zb => with_reducible assumption); (case r27zu => k_extra "units"); k_whole)))
  k_with "compareOp NotEq" => ((k_dflt (refine' pt_ne ?r28zN ?r28za ?r28zb ?r28zu ?_; (case r28zN => k_asm); (case r28za => with_reducible assumption); (case r28zb => with_reducible assumption); (case r28zu => k_extra "units"); k_whole)))
  k_with "exec While Compare cons nil" => (first | ((k_dflt (k_extra "while")); (all_goals ((try ((try k_unmd); k_unfold; clear gG)); (try k_unmd); (try k_fold)))) | (k_here; (try k_fold); k_dflt (refine whl_start 100 ?_)))
  k_with "call builtin:isinstance" => ((k_dflt (first | (refine' isi_tup ?r30zF ?r30zX ?r30zN ?r30zm ?_; (case r30zF => k_asm); (case r30zX => k_asm); (case r30zN => k_asm); (case r30zm => k_extra "mem")) | (refine' isi_int ?r30zF ?r30zX ?r30zN ?_; (case r30zF => k_asm); (case r30zX => k_asm); (case r30zN => k_asm))); intro _))
  k_with "eval Name" => (((with_reducible refine' ldq ?r31zF ?r31zv ?r31zk ?r31zl ?r31zd ?_); (case r31zF => with_reducible assumption); (case r31zl => decide +kernel); (case r31zd => decide +kernel); (case r31zv => k_dflt (first | with_reducible assumption | exact @rfl _ (some _) | assumption)); (case r31zk => exact rfl)))
  k_with "TurnPost" => ((first | (with_reducible refine TurnPost.retI ?_) | (with_reducible refine TurnPost.nextI ?_)))
  k_with "exec For" => (((rename Fr _ _ _ _ => zq_lF'); (with_unfolding_all refine' For_invVF zq_lF' ?r33zk1 ?r33zk2 ?_; (case r33zk1 => exact rfl); (case r33zk2 => exact rfl); k_whole)))
  k_with "exec For Name Attribute cons nil" => (walk_at "exec For")
  k_with "exec For Name Name cons nil" => (walk_at "exec For")
  k_with "exec For Name Call cons nil" => (walk_at "exec For")
  k_with "rowAt" => (with_reducible assumption)
  k_with "depth" => (first | exact dp1 (by with_reducible assumption) rfl | exact dp0 (by with_reducible assumption) rfl | exact dp2 (by with_reducible assumption) rfl | (simp only [depth_under_make, depth_under_kw, depth_in1, depth_deeper, depth_caller] at *; omega))
  k_with "exec If" => (first | k_dflt (k_extra "if") | ((with_reducible refine wpAny_If ?_); (try dsimp only)))
  k_with "exec If Compare cons nil" => (walk_at "exec If")
  k_with "exec If BoolOp cons nil" => (walk_at "exec If")
  k_with "exec If Call cons nil" => (walk_at "exec If")
  k_with "exec If UnaryOp cons nil" => (walk_at "exec If")
  k_with "exec If Compare cons cons" => (walk_at "exec If")
  k_with "exec If BoolOp cons cons" => (walk_at "exec If")
  k_with "eval Call" => (((fail_if_success (with_reducible show wpAny _ _ (eval (Expr.Call (Expr.Name (PySem.Str.ofString "range") _) _ _ _) _) _ _ _)); (with_reducible show wpAny _ _ (eval (Expr.Call (Expr.Name _ _) _ _ _) _) _ _ _); k_dflt (refine Call_ ?_)))
  k_with "eval Call Attribute" => ((k_dflt (refine MethodCall_ ?_)))
  k_with "handled" => (first | assumption | exact rfl)
  k_with "frames" => (first | exact rfl | (refine' frames_deeper ?r49zz; (case r49zz => assumption)))
  k_with "pyIter ref" => (((k_dflt (k_extra "loop")); (all_goals ((try ((try k_unmd); k_unfold; clear gG)); (try dsimp only); (try k_unmd); (try k_fold)))))
  k_with "call ref" => (k_dflt (k_extra "call"))
  k_with "sub" => (first | with_reducible assumption | with_reducible exact sub_refl | (with_reducible refine sub_cons ?_; k_extra "sub") | (with_reducible refine sub_app ?_; k_extra "sub"))
  k_with "call builtin:list.append" => ((k_dflt (refine' app_l ?r53zF ?r53zN ?r53zU ?r53zz ?_; (case r53zF => k_asm); (case r53zN => k_asm); (case r53zU => k_extra "upd"); (case r53zz => exact Nat.le_of_ble_eq_true rfl)); intro zq_h' zq_F' zq_N'; (try dsimp only [List.cons_append, List.nil_append] at zq_N'); (try k_sweep)))
  k_with "compareOp In ref ref" => ((k_dflt (first | (refine' in_ops0 ?r54zN ?r54zl ?r54zo ?r54zu ?_; (case r54zN => k_asm); (case r54zl => k_extra "mem"); (case r54zo => k_extra "opAt"); (case r54zu => k_extra "units")) | (refine' in_ops1 ?r54zN ?r54zl ?r54zv ?r54zo ?r54zu ?_; (case r54zN => k_asm); (case r54zl => k_extra "mem"); (case r54zv => k_extra "opAt"); (case r54zo => k_extra "opAt"); (case r54zu => k_extra "units")))))
  k_with "assign Tuple" => ((k_dflt (refine' unpackN_ ?r55zF ?r55zN ?r55zT ?r55zh ?r55z2 ?r55z3 ?_; (case r55zF => k_asm); (case r55zN => k_asm); (case r55zT => (refine' News.isTup ?r55zy1 ?r55zy2; (case r55zy1 => k_asm); (case r55zy2 => k_extra "mem"))); (case r55zh => k_extra "handled"); (case r55z2 => exact rfl); (case r55z3 => exact rfl)); intro zq_h' zq_F' zq_N'; (try k_sweep)))
  k_with "WPost" => ((first | (with_reducible refine WPost.retI ?_) | (with_reducible refine WPost.nextI ?_)))
  k_with "WhlIf" => (((first | (refine' WhlIf.yes ?r57zz ?_; (case r57zz => (refine decide_eq_true ?_; omega))) | (refine' WhlIf.no ?r57zz ?_; (case r57zz => (refine decide_eq_false ?_; omega)))); (try dsimp only); (try k_unmd); (try k_fold)))
  k_with "call builtin:len" => ((k_dflt (refine' len_l ?r58zN ?r58zm ?r58zz ?_; (case r58zN => k_asm); (case r58zm => k_extra "mem"); (case r58zz => first | exact Nat.le_of_ble_eq_true rfl | omega)); intro _ _))
  k_with "loadName" => (((with_reducible refine' ldnq ?r59zF ?r59zv ?r59zk ?r59zl ?_); (case r59zF => with_reducible assumption); (case r59zl => decide +kernel); (case r59zv => k_dflt (first | with_reducible assumption | exact @rfl _ (some _) | assumption)); (case r59zk => exact rfl)))
  k_with "kv" => (with_reducible first | exact kv_held | exact kv_temps | exact kv_given | exact kv_out | exact kv_count)
  k_with "stitem" => ((k_dflt (refine' st_item ?r61zN ?r61zm ?r61zd ?r61zv ?_ ?r61zh6; (case r61zN => k_asm); (case r61zm => k_extra "mem"); (case r61zd => with_reducible assumption); (case r61zv => k_extra "kv"); (case r61zh6 => with_unfolding_all rfl))))
  k_with "subscriptTail Name Constant ref str" => (k_extra "stitem")
  k_with "call type:range" => ((k_dflt (first | (refine' range1_rows ?r63zF ?r63zN ?_; (case r63zF => k_asm); (case r63zN => k_asm)) | (refine' range2_rows ?r63zF ?r63zN ?_; (case r63zF => k_asm); (case r63zN => k_asm))); intro zq_h' zq_tk' zq_t9 zq_u9 zq_w9 zq_R' zq_F' zq_N' zq_kp'; clear zq_kp'; (try k_sweep)))
  k_with "TurnPost" => ((with_reducible refine TurnPost.contI ?_))
  k_with "unpackItems ref" => ((k_dflt (refine' unpackItemsN_ ?r65zF ?r65zN ?r65zT ?r65zh ?r65z2 ?_; (case r65zF => k_asm); (case r65zN => k_asm); (case r65zT => (refine' News.isTup ?r65zy1 ?r65zy2; (case r65zy1 => k_asm); (case r65zy2 => k_extra "mem"))); (case r65zh => k_extra "handled"); (case r65z2 => exact rfl)); intro zq_h' zq_F' zq_N'; (try k_sweep)))
  k_with "storeName" => (((k_dflt (refine' store_let ?r66zF ?r66zN ?_ ?r66za ?r66zb; (case r66zF => k_asm); (case r66zN => k_asm); (case r66za => rfl); (case r66zb => rfl); k_whole)); (intro zq_mk zq_h' zq_F' zq_N'); (try k_sweep)))
  k_with "callWith" => (((with_reducible show wpAny _ _ (callWith _ (Value.builtin "list.append") _ _ _) _ _ _); (k_dflt (refine callWith_method1 ?_))))
  k_with "call" => ((with_reducible show wpAny _ _ (call (Value.ref 77) _) _ _ _); (k_dflt (refine' ct_use_t (ct_x hx (copied_ct c hS ?y1 ?y2 hw)) ?zh ?zA ?zf ?zk ?zd ?zu ?zB ?zF ?zX ?zN ?zT ?_; (case zN => k_asm); (case y1 => exact fun _ h => List.mem_append_left _ h); (case y2 => (refine' RowAt.mono ?ZQ hr0; (case ZQ => k_extra "sub"))); (case zh => k_extra "handled"); (case zA => k_extra "frames"); (case zf => exact rfl); (case zk => exact rfl); (case zd => k_extra "depth"); (case zu => k_extra "units"); (case zB => k_asm); (case zF => k_asm); (case zX => k_asm); (case zT => k_asm))); (intro t9 h' tk' F' N'); (try k_sweep))
  by_cases h0 : copied st r = 0
  · have hz1 : (copied st r == 0) = true := by simp [h0]
    refine wpAny_call ?_
    k_dflt (refine' code_def (binds := [(PySem.Str.ofString "self", .ref x0), (PySem.Str.ofString "instruction", iv)]) ?zk1 ?zk2 ?zk3 ?zk4 ?zk5 ?zkA ?zkF ?zkK ?zk6 ?zk7 ?zk8 ?zk9 ?zkB ?_ ?zc2 ?zc3 ?zc4 ?zc5; (case zkA => assumption); (case zkF => assumption); (case zkK => assumption); (case zk1 => k_asm); (case zk2 => k_asm); (case zk3 => k_asm); (case zk4 => k_asm); (case zk5 => k_asm); (case zk6 => k_is); (case zk7 => k_is); (case zk8 => omega); (case zk9 => exact BindsTo.of_eq rfl); (case zc5 => decide); (case zkB => exact locs rfl); (case zc2 => exact rfl); (case zc3 => exact rfl); (case zc4 => exact rfl); k_whole; intro g' L' h' FG' F' N' B' X' T'; (try dsimp only [List.reverse_cons, List.reverse_nil, List.nil_append, List.cons_append] at F'); (try dsimp only); (try k_fold))
    k_steps
    all_goals try exact absurd h0 (by assumption)
    exact ret _ _ _ _ (by assumption) (by assumption) ⟨_, a, st, rfl, rfl, hx, hS, hK, hn.mono (by omega)⟩
  · have hz1 : (copied st r == 0) = false := by simp [h0]
    have hS0 := hS
    obtain ⟨x, dx, V, H, I, O, t1, t2, t3, t4, t5, tn, h1, h2, h3, h4, h5, oV, oH, oI, oO⟩ := a
    obtain ⟨dV, dH, dI, dO, loV, loH, loI, loO, n1, n2, n3, n4, n5, n6, n7, n8, n9, n10, n11, n12, n13, n14, n15⟩ := hS
    obtain ⟨k1, k2, k3, k4, k5, k6⟩ := hK
    obtain ⟨l1, l2, l3, l4⟩ := hn
    simp only at hx
    subst hx
    simp only [CA.fp, List.cons_append, List.nil_append] at N
    clear m1 m2
    k_with_none
    k_with "mem" => (first | with_reducible assumption | with_reducible exact List.mem_cons_self | (with_reducible refine List.mem_cons_of_mem _ ?_; k_extra "mem") | (with_reducible refine List.mem_append_left _ ?_; k_extra "mem") | (with_reducible refine List.mem_append_right _ ?_; k_extra "mem"))
    k_with "my_enter" => ((refine' code_def ?r2zk1 ?r2zk2 ?r2zk3 ?r2zk4 ?r2zk5 ?r2zkA ?r2zkF ?r2zkK ?r2zk6 ?r2zk7 ?r2zk8 ?r2zk9 ?r2zkB ?_ ?r2zc2 ?r2zc3 ?r2zc4 ?r2zc5; (case r2zkA => assumption); (case r2zkF => assumption); (case r2zkK => assumption); (case r2zk1 => k_asm); (case r2zk2 => k_asm); (case r2zk3 => k_asm); (case r2zk4 => k_asm); (case r2zk5 => k_asm); (case r2zk6 => k_is); (case r2zk7 => k_is); (case r2zk8 => omega); (case r2zk9 => exact BindsTo.of_eq rfl); (case r2zc5 => decide); (case r2zkB => exact locs rfl); (case r2zc2 => exact rfl); (case r2zc3 => exact rfl); (case r2zc4 => exact rfl); k_whole; intro zq_g' zq_L' zq_h' zq_FG' zq_F' zq_N' zq_B' zq_X' zq_T'; (try dsimp only); (try k_fold)))
    k_with "mysub" => (((with_reducible show wpAny _ _ (subscriptTail _ _ (Value.ref _) (Value.int _ _)) _ _ _); (with_unfolding_all first | (refine' sub_tup ?r3zN ?r3zm ?r3zi ?r3zj ?r3zx ?_ ?r3zh6; (case r3zN => k_asm); (case r3zm => k_extra "mem"); (case r3zi => exact rfl); (case r3zj => decide); (case r3zx => exact rfl); (case r3zh6 => rfl); k_whole) | (refine' sub_list ?r3zN ?r3zm ?r3zi ?r3zj ?r3zx ?_ ?r3zh6; (case r3zN => k_asm); (case r3zm => k_extra "mem"); (case r3zi => exact rfl); (case r3zj => omega); (case r3zx => assumption); (case r3zh6 => rfl); k_whole) | (refine' sub_list ?r3zN ?r3zm ?r3zi ?r3zj ?r3zx ?_ ?r3zh6; (case r3zN => k_asm); (case r3zm => k_extra "mem"); (case r3zi => exact rfl); (case r3zj => decide); (case r3zx => exact rfl); (case r3zh6 => rfl); k_whole) | (refine' di_item ?r3zN ?r3zm ?r3zd ?r3zv ?_ ?r3zh6; (case r3zN => k_asm); (case r3zm => k_extra "mem"); (case r3zd => with_reducible assumption); (case r3zv => with_reducible assumption); (case r3zh6 => rfl); k_whole; intro _) | (refine' ds_item ?r3zN ?r3zm ?r3zd ?r3zv ?_ ?r3zh6; (case r3zN => k_asm); (case r3zm => k_extra "mem"); (case r3zd => with_reducible assumption); (case r3zv => with_reducible assumption); (case r3zh6 => rfl); k_whole; intro _))))
    k_with "subscriptTail" => (k_extra "mysub")
    k_with "subscriptTail Name Constant ref int" => (k_extra "mysub")
    k_with "subscriptTail Name Name ref int" => (k_extra "mysub")
    k_with "subscriptTail Attribute Name Subscript Name Constant ref int" => (k_extra "mysub")
    k_with "getMethod ref" => (((with_reducible show wpAny _ _ (getMethod (Value.ref _) (PySem.Str.ofString "get") _) _ _ _); k_dflt (first | (refine' di_method ?r8zN ?r8zm ?r8zd ?_; (case r8zN => k_asm); (case r8zm => k_extra "mem"); (case r8zd => with_reducible assumption)) | (refine' ds_method ?r8zN ?r8zm ?r8zd ?_; (case r8zN => k_asm); (case r8zm => k_extra "mem"); (case r8zd => with_reducible assumption)))))
    k_with "call builtin:dict.get" => ((k_dflt (first | (refine' di_get ?r9zN ?r9zm ?r9zd ?r9zlo ?_; (case r9zN => k_asm); (case r9zm => k_extra "mem"); (case r9zd => with_reducible assumption); (case r9zlo => with_reducible assumption)) | (refine' ds_get ?r9zN ?r9zm ?r9zd ?r9zlo ?_; (case r9zN => k_asm); (case r9zm => k_extra "mem"); (case r9zd => with_reducible assumption); (case r9zlo => with_reducible assumption))); intro _))
    k_with "compareOp NotIn int ref" => ((k_dflt (refine' di_notin2 ?r10zN ?r10zm ?r10zd ?r10zlo ?_ ?_; (case r10zN => k_asm); (case r10zm => k_extra "mem"); (case r10zd => with_reducible assumption); (case r10zlo => with_reducible assumption)); intros))
    k_with "ite" => (with_reducible first | refine ite_t ?_ | refine ite_f ?_ | (refine' ite_bt ?r11zh ?_; (case r11zh => assumption)) | (refine' ite_bf ?r11zh ?_; (case r11zh => assumption)))
    k_with "opAt" => (first | with_reducible assumption | (refine' OpAt.mono ?r12zs ?r12zh; (case r12zh => with_reducible assumption); (case r12zs => k_extra "sub")) | (refine' OpAt.t ?r12zq; (case r12zq => k_extra "mem")) | (refine' OpAt.a ?r12zq; (case r12zq => k_extra "mem")) | (refine' OpAt.y ?r12zq; (case r12zq => k_extra "mem")) | (refine' OpAt.x ?r12zq; (case r12zq => k_extra "mem")))
    k_with "units" => (first | exact un1 (by with_reducible assumption) rfl | exact un0 (by with_reducible assumption) rfl | exact un2 (by with_reducible assumption) rfl | (simp only [units_in1, units_deeper, Around.mark_units, units_caller] at *; omega))
    k_with "compareOp Eq ref ref" => ((k_dflt (refine' op_eq ?r14zN ?r14za ?r14zb ?r14zu ?_; (case r14zN => k_asm); (case r14za => k_extra "opAt"); (case r14zb => k_extra "opAt"); (case r14zu => k_extra "units"); k_whole)))
    k_with "compareOp NotEq ref ref" => ((k_dflt (refine' op_ne ?r15zN ?r15za ?r15zb ?r15zu ?_; (case r15zN => k_asm); (case r15za => k_extra "opAt"); (case r15zb => k_extra "opAt"); (case r15zu => k_extra "units"); k_whole)))
    k_with "ne" => (first | with_reducible assumption | with_reducible exact Ne.symm (by with_reducible assumption) | with_reducible exact lt_ne_1 (by with_reducible assumption) | with_reducible exact lt_ne_2 (by with_reducible assumption) | with_reducible exact lt_ne_3 (by with_reducible assumption) | with_reducible exact lt_ne_4 (by with_reducible assumption) | with_reducible exact lt_ne_5 (by with_reducible assumption) | with_reducible exact lt_ne_6 (by with_reducible assumption) | with_reducible exact lt_ne_7 (by with_reducible assumption) | with_reducible exact lt_ne_8 (by with_reducible assumption) | with_reducible exact Ne.symm (lt_ne_1 (by with_reducible assumption)) | with_reducible exact Ne.symm (lt_ne_2 (by with_reducible assumption)) | with_reducible exact Ne.symm (lt_ne_3 (by with_reducible assumption)) | with_reducible exact Ne.symm (lt_ne_4 (by with_reducible assumption)) | with_reducible exact Ne.symm (lt_ne_5 (by with_reducible assumption)) | with_reducible exact Ne.symm (lt_ne_6 (by with_reducible assumption)) | with_reducible exact Ne.symm (lt_ne_7 (by with_reducible assumption)) | with_reducible exact Ne.symm (lt_ne_8 (by with_reducible assumption)) | omega)
    k_with "allne" => (first | with_reducible assumption | (refine' ne_of_lt_all ?r17zz; (case r17zz => with_reducible assumption)) | (refine' ne_of_fresh ?r17zz ?r17zm; (case r17zz => with_reducible assumption); (case r17zm => k_extra "mem")) | exact List.forall_mem_nil _ | (refine' List.forall_mem_cons.mpr ⟨?r17za, ?r17zb⟩; (case r17za => ((try dsimp only); k_extra "ne")); (case r17zb => k_extra "allne")))
    k_with "updF" => (first | (refine' UpdF.head ?r18za; (case r18za => k_extra "allne")) | (refine' UpdF.tail ?r18za ?r18zb; (case r18za => ((try dsimp only); k_extra "ne")); (case r18zb => k_extra "updF")))
    k_with "setItem ref int" => ((k_dflt (first | (refine' di_set ?r19zF ?r19zN ?r19zU ?r19zd ?r19zz ?_; (case r19zF => k_asm); (case r19zN => k_asm); (case r19zU => k_extra "updF"); (case r19zd => with_reducible assumption); (case r19zz => omega)) | (refine' ds_set ?r19zF ?r19zN ?r19zU ?r19zd ?r19zz ?_; (case r19zF => k_asm); (case r19zN => k_asm); (case r19zU => k_extra "updF"); (case r19zd => with_reducible assumption); (case r19zz => omega))); intro zq_h' zq_o' zq_F' zq_N' zq_hd'; (try dsimp only at zq_N'); (try k_sweep)))
    k_with "ifline" => (first | ((with_reducible refine' if_ne ?r20zF ?r20zv ?r20zn ?_ ?r20zk ?r20zl ?r20zd); (case r20zF => k_asm); (case r20zv => with_unfolding_all rfl); (case r20zn => decide +kernel); (case r20zk => rfl); (case r20zl => rfl); (case r20zd => decide); intro _) | ((with_reducible refine' if_eq ?r20zF ?r20zv ?r20zn ?_ ?r20zk ?r20zl ?r20zd); (case r20zF => k_asm); (case r20zv => with_unfolding_all rfl); (case r20zn => decide +kernel); (case r20zk => rfl); (case r20zl => rfl); (case r20zd => decide); intro _; dsimp only) | ((with_reducible refine' ifo_ne ?r20zF ?r20zv ?r20zn ?_ ?r20zk ?r20zl ?r20zd); (case r20zF => k_asm); (case r20zv => with_unfolding_all rfl); (case r20zn => decide +kernel); (case r20zk => rfl); (case r20zl => rfl); (case r20zd => decide); intro _) | ((with_reducible refine' ifo_eq ?r20zF ?r20zv ?r20zn ?_ ?r20zk ?r20zl ?r20zd); (case r20zF => k_asm); (case r20zv => with_unfolding_all rfl); (case r20zn => decide +kernel); (case r20zk => rfl); (case r20zl => rfl); (case r20zd => decide); intro _; dsimp only))
    k_with "execs cons" => (((with_reducible show wpAny _ _ (execs (Stmt.If _ _ _ _ :: _) _) _ _ _); k_dflt (k_extra "ifline")))
    k_with "ltall" => (first | assumption | exact tb_ltOf (by assumption) | (refine' tb_ltOf (And.right ?r22zz); (case r22zz => assumption)) | (refine' tb_ltOf (And.right (And.right ?r22zz)); (case r22zz => assumption)) | (refine' tb_ltOf (And.right (And.right (And.right ?r22zz))); (case r22zz => assumption)))
    k_with "fresh" => (first | exact FreshOver.nil | (refine' FreshOver.cons ?r23za ?r23zb; (case r23za => ((try dsimp only); k_extra "ltall")); (case r23zb => k_extra "fresh")))
    k_with "pairs" => (first | exact All2.nil | (refine' All2.cons ?r24za ?r24zb; (case r24za => (refine' PairAt.mk ?r24zc; (case r24zc => k_extra "mem"))); (case r24zb => k_extra "pairs")))
    k_with "upd" => (first | (refine' upd_app ?r25za ?r25zb; (case r25za => k_extra "allne"); (case r25zb => k_extra "upd")) | (refine' Upd.head ?r25za; (case r25za => k_extra "allne")) | (refine' Upd.tail ?r25za ?r25zb; (case r25za => ((try dsimp only); k_extra "ne")); (case r25zb => k_extra "upd")))
    k_with "setAttr ref" => ((k_dflt (refine' set_dict ?r26zF ?r26zX ?r26zN ?r26zI ?r26zd ?r26zs ?r26zp ?r26zt ?r26zh ?r26zl ?r26ze ?r26zU ?r26zz ?_; (case r26zF => k_asm); (case r26zX => k_asm); (case r26zN => k_asm); (case r26zI => k_inst); (case r26zd => exact rfl); (case r26zs => k_is); (case r26zp => k_is); (case r26zt => k_is); (case r26zh => k_is); (case r26zl => k_get); (case r26ze => k_put); (case r26zU => k_extra "upd"); (case r26zz => exact Nat.le_of_ble_eq_true rfl)); intro zq_h' zq_F' zq_N'; (try k_sweep)))
    k_with "compareOp Eq" => ((k_dflt (refine' pt_eq ?r27zN ?r27za ?r27zb ?r27zu ?_; (case r27zN => k_asm); (case r27za => with_reducible assumption); (case r27zb => with_reducible assumption); (case r27zu => k_extra "units"); k_whole)))
    k_with "compareOp NotEq" => ((k_dflt (refine' pt_ne ?r28zN ?r28za ?r28zb ?r28zu ?_; (case r28zN => k_asm); (case r28za => with_reducible assumption); (case r28zb => with_reducible assumption); (case r28zu => k_extra "units"); k_whole)))
    k_with "exec While Compare cons nil" => (first | ((k_dflt (k_extra "while")); (all_goals ((try ((try k_unmd); k_unfold; clear gG)); (try k_unmd); (try k_fold)))) | (k_here; (try k_fold); k_dflt (refine whl_start 100 ?_)))
    k_with "call builtin:isinstance" => ((k_dflt (first | (refine' isi_tup ?r30zF ?r30zX ?r30zN ?r30zm ?_; (case r30zF => k_asm); (case r30zX => k_asm); (case r30zN => k_asm); (case r30zm => k_extra "mem")) | (refine' isi_int ?r30zF ?r30zX ?r30zN ?_; (case r30zF => k_asm); (case r30zX => k_asm); (case r30zN => k_asm))); intro _))
    k_with "eval Name" => (((with_reducible refine' ldq ?r31zF ?r31zv ?r31zk ?r31zl ?r31zd ?_); (case r31zF => with_reducible assumption); (case r31zl => decide +kernel); (case r31zd => decide +kernel); (case r31zv => k_dflt (first | with_reducible assumption | exact @rfl _ (some _) | assumption)); (case r31zk => exact rfl)))
    k_with "TurnPost" => ((first | (with_reducible refine TurnPost.retI ?_) | (with_reducible refine TurnPost.nextI ?_)))
    k_with "exec For" => (((rename Fr _ _ _ _ => zq_lF'); (with_unfolding_all refine' For_invVF zq_lF' ?r33zk1 ?r33zk2 ?_; (case r33zk1 => exact rfl); (case r33zk2 => exact rfl); k_whole)))
    k_with "exec For Name Attribute cons nil" => (walk_at "exec For")
    k_with "exec For Name Name cons nil" => (walk_at "exec For")
    k_with "exec For Name Call cons nil" => (walk_at "exec For")
    k_with "rowAt" => (with_reducible assumption)
    k_with "depth" => (first | exact dp1 (by with_reducible assumption) rfl | exact dp0 (by with_reducible assumption) rfl | exact dp2 (by with_reducible assumption) rfl | (simp only [depth_under_make, depth_under_kw, depth_in1, depth_deeper, depth_caller] at *; omega))
    k_with "exec If" => (first | k_dflt (k_extra "if") | ((with_reducible refine wpAny_If ?_); (try dsimp only)))
    k_with "exec If Compare cons nil" => (walk_at "exec If")
    k_with "exec If BoolOp cons nil" => (walk_at "exec If")
    k_with "exec If Call cons nil" => (walk_at "exec If")
    k_with "exec If UnaryOp cons nil" => (walk_at "exec If")
    k_with "exec If Compare cons cons" => (walk_at "exec If")
    k_with "exec If BoolOp cons cons" => (walk_at "exec If")
    k_with "eval Call" => (((fail_if_success (with_reducible show wpAny _ _ (eval (Expr.Call (Expr.Name (PySem.Str.ofString "range") _) _ _ _) _) _ _ _)); (with_reducible show wpAny _ _ (eval (Expr.Call (Expr.Name _ _) _ _ _) _) _ _ _); k_dflt (refine Call_ ?_)))
    k_with "eval Call Attribute" => ((k_dflt (refine MethodCall_ ?_)))
    k_with "handled" => (first | assumption | exact rfl)
    k_with "frames" => (first | exact rfl | (refine' frames_deeper ?r49zz; (case r49zz => assumption)))
    k_with "pyIter ref" => (((k_dflt (k_extra "loop")); (all_goals ((try ((try k_unmd); k_unfold; clear gG)); (try dsimp only); (try k_unmd); (try k_fold)))))
    k_with "call ref" => (k_dflt (k_extra "call"))
    k_with "sub" => (first | with_reducible assumption | with_reducible exact sub_refl | (with_reducible refine sub_cons ?_; k_extra "sub") | (with_reducible refine sub_app ?_; k_extra "sub"))
    k_with "call builtin:list.append" => ((k_dflt (refine' app_l ?r53zF ?r53zN ?r53zU ?r53zz ?_; (case r53zF => k_asm); (case r53zN => k_asm); (case r53zU => k_extra "upd"); (case r53zz => exact Nat.le_of_ble_eq_true rfl)); intro zq_h' zq_F' zq_N'; (try dsimp only [List.cons_append, List.nil_append] at zq_N'); (try k_sweep)))
    k_with "compareOp In ref ref" => ((k_dflt (first | (refine' in_ops0 ?r54zN ?r54zl ?r54zo ?r54zu ?_; (case r54zN => k_asm); (case r54zl => k_extra "mem"); (case r54zo => k_extra "opAt"); (case r54zu => k_extra "units")) | (refine' in_ops1 ?r54zN ?r54zl ?r54zv ?r54zo ?r54zu ?_; (case r54zN => k_asm); (case r54zl => k_extra "mem"); (case r54zv => k_extra "opAt"); (case r54zo => k_extra "opAt"); (case r54zu => k_extra "units")))))
    k_with "assign Tuple" => ((k_dflt (refine' unpackN_ ?r55zF ?r55zN ?r55zT ?r55zh ?r55z2 ?r55z3 ?_; (case r55zF => k_asm); (case r55zN => k_asm); (case r55zT => (refine' News.isTup ?r55zy1 ?r55zy2; (case r55zy1 => k_asm); (case r55zy2 => k_extra "mem"))); (case r55zh => k_extra "handled"); (case r55z2 => exact rfl); (case r55z3 => exact rfl)); intro zq_h' zq_F' zq_N'; (try k_sweep)))
    k_with "WPost" => ((first | (with_reducible refine WPost.retI ?_) | (with_reducible refine WPost.nextI ?_)))
    k_with "WhlIf" => (((first | (refine' WhlIf.yes ?r57zz ?_; (case r57zz => (refine decide_eq_true ?_; omega))) | (refine' WhlIf.no ?r57zz ?_; (case r57zz => (refine decide_eq_false ?_; omega)))); (try dsimp only); (try k_unmd); (try k_fold)))
    k_with "call builtin:len" => ((k_dflt (refine' len_l ?r58zN ?r58zm ?r58zz ?_; (case r58zN => k_asm); (case r58zm => k_extra "mem"); (case r58zz => first | exact Nat.le_of_ble_eq_true rfl | omega)); intro _ _))
    k_with "loadName" => (((with_reducible refine' ldnq ?r59zF ?r59zv ?r59zk ?r59zl ?_); (case r59zF => with_reducible assumption); (case r59zl => decide +kernel); (case r59zv => k_dflt (first | with_reducible assumption | exact @rfl _ (some _) | assumption)); (case r59zk => exact rfl)))
    k_with "kv" => (with_reducible first | exact kv_held | exact kv_temps | exact kv_given | exact kv_out | exact kv_count)
    k_with "stitem" => ((k_dflt (refine' st_item ?r61zN ?r61zm ?r61zd ?r61zv ?_ ?r61zh6; (case r61zN => k_asm); (case r61zm => k_extra "mem"); (case r61zd => with_reducible assumption); (case r61zv => k_extra "kv"); (case r61zh6 => with_unfolding_all rfl))))
    k_with "subscriptTail Name Constant ref str" => (k_extra "stitem")
    k_with "call type:range" => ((k_dflt (first | (refine' range1_rows ?r63zF ?r63zN ?_; (case r63zF => k_asm); (case r63zN => k_asm)) | (refine' range2_rows ?r63zF ?r63zN ?_; (case r63zF => k_asm); (case r63zN => k_asm))); intro zq_h' zq_tk' zq_t9 zq_u9 zq_w9 zq_R' zq_F' zq_N' zq_kp'; clear zq_kp'; (try k_sweep)))
    k_with "TurnPost" => ((with_reducible refine TurnPost.contI ?_))
    k_with "unpackItems ref" => ((k_dflt (refine' unpackItemsN_ ?r65zF ?r65zN ?r65zT ?r65zh ?r65z2 ?_; (case r65zF => k_asm); (case r65zN => k_asm); (case r65zT => (refine' News.isTup ?r65zy1 ?r65zy2; (case r65zy1 => k_asm); (case r65zy2 => k_extra "mem"))); (case r65zh => k_extra "handled"); (case r65z2 => exact rfl)); intro zq_h' zq_F' zq_N'; (try k_sweep)))
    k_with "storeName" => (((k_dflt (refine' store_let ?r66zF ?r66zN ?_ ?r66za ?r66zb; (case r66zF => k_asm); (case r66zN => k_asm); (case r66za => rfl); (case r66zb => rfl); k_whole)); (intro zq_mk zq_h' zq_F' zq_N'); (try k_sweep)))
    k_with "callWith" => (((with_reducible show wpAny _ _ (callWith _ (Value.builtin "list.append") _ _ _) _ _ _); (k_dflt (refine callWith_method1 ?_))))
    k_with "call" => ((with_reducible show wpAny _ _ (call (Value.ref 77) _) _ _ _); (k_dflt (refine' ct_use_t (copied_ct c hS0 ?y1 ?y2 hw) ?zh ?zA ?zf ?zk ?zd ?zu ?zB ?zF ?zX ?zN ?zT ?_; (case zN => k_asm); (case y1 => (intro p hp; simp only [CA.fp, List.mem_cons, List.not_mem_nil, or_false] at hp ⊢; rcases hp with h | h | h | h | h | h <;> simp only [h, true_or, or_true])); (case y2 => (refine' RowAt.mono ?ZQ hr0; (case ZQ => k_extra "sub"))); (case zh => k_extra "handled"); (case zA => k_extra "frames"); (case zf => exact rfl); (case zk => exact rfl); (case zd => k_extra "depth"); (case zu => k_extra "units"); (case zB => k_asm); (case zF => k_asm); (case zX => k_asm); (case zT => k_asm))); (intro t9 h' tk' F' N'); (try k_sweep))
    rcases copied_ne hw h0 with ⟨t, a, rfl⟩ | ⟨t, a, rfl⟩
    · cases hr with
      | @mk ia tk n k vs ps hi hv =>
        obtain ⟨v1, v2, rfl, p1, p2⟩ := hv.two
        replace p1 := p1.toOp
        replace p2 := p2.toOp
        clear hv
        cases p1
        cases p2
        dsimp only [Kd.name] at hi
        refine wpAny_call ?_
        k_dflt (refine' code_def (binds := [(PySem.Str.ofString "self", .ref x), (PySem.Str.ofString "instruction", .ref ia)]) ?zk1 ?zk2 ?zk3 ?zk4 ?zk5 ?zkA ?zkF ?zkK ?zk6 ?zk7 ?zk8 ?zk9 ?zkB ?_ ?zc2 ?zc3 ?zc4 ?zc5; (case zkA => assumption); (case zkF => assumption); (case zkK => assumption); (case zk1 => k_asm); (case zk2 => k_asm); (case zk3 => k_asm); (case zk4 => k_asm); (case zk5 => k_asm); (case zk6 => k_is); (case zk7 => k_is); (case zk8 => omega); (case zk9 => exact BindsTo.of_eq rfl); (case zc5 => decide); (case zkB => exact locs rfl); (case zc2 => exact rfl); (case zc3 => exact rfl); (case zc4 => exact rfl); k_whole; intro g' L' h' FG' F' N' B' X' T'; (try dsimp only [List.reverse_cons, List.reverse_nil, List.nil_append, List.cons_append] at F'); (try dsimp only); (try k_fold))
        k_steps
        all_goals (rename News h₀ _ _ _ => N9; rename Fr h₀ _ _ _ => F9; first
          | (refine ret _ _ _ _ F9 N9 ⟨_, ⟨x, dx, V, H, I, O, t1, t2, t3, t4, t5, tn, h1, h2, h3, h4, h5, oV, oH, oI, oO⟩, st, rfl, rfl, rfl, hS0, ⟨k1, k2, k3, k4, k5, k6⟩, ?_⟩; refine ⟨?_, ?_, ?_, ?_⟩ <;> omega)
          | (refine ret _ _ _ _ F9 N9 ⟨_, ⟨x, dx, V, H, I, O, t1, t2, t3, t4, t5, tn, h1, h2, h3, h4, h5, _, oH, oI, oO⟩, { st with vo := put st.vo t (copied st ⟨.getVar, [.op (.t t), .op (.a a)]⟩) }, rfl, rfl, rfl, ?_, ⟨k1, k2, k3, k4, k5, k6⟩, ?_⟩; (constructor <;> assumption); (exact ⟨Nat.le_trans (put_length _ _ _) (Nat.succ_le_succ l1), Nat.le_succ_of_le l2, Nat.le_succ_of_le l3, Nat.le_succ_of_le l4⟩))
          | (refine ret _ _ _ _ F9 N9 ⟨_, ⟨x, dx, V, H, I, O, t1, t2, t3, t4, t5, tn, h1, h2, h3, h4, h5, oV, oH, oI, _⟩, { st with out := put st.out a (copied st ⟨.getVar, [.op (.t t), .op (.a a)]⟩) }, rfl, rfl, rfl, ?_, ⟨k1, k2, k3, k4, k5, k6⟩, ?_⟩; (constructor <;> assumption); (exact ⟨Nat.le_succ_of_le l1, Nat.le_succ_of_le l2, Nat.le_succ_of_le l3, Nat.le_trans (put_length _ _ _) (Nat.succ_le_succ l4)⟩)))
    · cases hr with
      | @mk ia tk n k vs ps hi hv =>
        obtain ⟨v1, v2, rfl, p1, p2⟩ := hv.two
        replace p1 := p1.toOp
        replace p2 := p2.toOp
        clear hv
        cases p1
        cases p2
        dsimp only [Kd.name] at hi
        refine wpAny_call ?_
        k_dflt (refine' code_def (binds := [(PySem.Str.ofString "self", .ref x), (PySem.Str.ofString "instruction", .ref ia)]) ?zk1 ?zk2 ?zk3 ?zk4 ?zk5 ?zkA ?zkF ?zkK ?zk6 ?zk7 ?zk8 ?zk9 ?zkB ?_ ?zc2 ?zc3 ?zc4 ?zc5; (case zkA => assumption); (case zkF => assumption); (case zkK => assumption); (case zk1 => k_asm); (case zk2 => k_asm); (case zk3 => k_asm); (case zk4 => k_asm); (case zk5 => k_asm); (case zk6 => k_is); (case zk7 => k_is); (case zk8 => omega); (case zk9 => exact BindsTo.of_eq rfl); (case zc5 => decide); (case zkB => exact locs rfl); (case zc2 => exact rfl); (case zc3 => exact rfl); (case zc4 => exact rfl); k_whole; intro g' L' h' FG' F' N' B' X' T'; (try dsimp only [List.reverse_cons, List.reverse_nil, List.nil_append, List.cons_append] at F'); (try dsimp only); (try k_fold))
        k_steps
        all_goals (rename News h₀ _ _ _ => N9; rename Fr h₀ _ _ _ => F9; first
          | (refine ret _ _ _ _ F9 N9 ⟨_, ⟨x, dx, V, H, I, O, t1, t2, t3, t4, t5, tn, h1, h2, h3, h4, h5, oV, oH, oI, oO⟩, st, rfl, rfl, rfl, hS0, ⟨k1, k2, k3, k4, k5, k6⟩, ?_⟩; refine ⟨?_, ?_, ?_, ?_⟩ <;> omega)
          | (refine ret _ _ _ _ F9 N9 ⟨_, ⟨x, dx, V, H, I, O, t1, t2, t3, t4, t5, tn, h1, h2, h3, h4, h5, _, oH, oI, oO⟩, { st with vo := put st.vo t (copied st ⟨.putVal, [.op (.t t), .op (.a a)]⟩) }, rfl, rfl, rfl, ?_, ⟨k1, k2, k3, k4, k5, k6⟩, ?_⟩; (constructor <;> assumption); (exact ⟨Nat.le_trans (put_length _ _ _) (Nat.succ_le_succ l1), Nat.le_succ_of_le l2, Nat.le_succ_of_le l3, Nat.le_succ_of_le l4⟩))
          | (refine ret _ _ _ _ F9 N9 ⟨_, ⟨x, dx, V, H, I, O, t1, t2, t3, t4, t5, tn, h1, h2, h3, h4, h5, oV, oH, oI, _⟩, { st with out := put st.out a (copied st ⟨.putVal, [.op (.t t), .op (.a a)]⟩) }, rfl, rfl, rfl, ?_, ⟨k1, k2, k3, k4, k5, k6⟩, ?_⟩; (constructor <;> assumption); (exact ⟨Nat.le_succ_of_le l1, Nat.le_succ_of_le l2, Nat.le_succ_of_le l3, Nat.le_trans (put_length _ _ _) (Nat.succ_le_succ l4)⟩)))
end
section
noncomputable def iniS : Nat → CS
  | 0 => ⟨0, [], [], [], []⟩
  | k + 1 => { iniS k with nv := (iniS k).nv + 1, inc := put (iniS k).inc ((k : Int) + 1) ((iniS k).nv + 1), held := put (iniS k).held ((k : Int) + 1) ((iniS k).nv + 1) }
theorem iniS_le (k : Nat) : (iniS k).Le k := by
  induction k with
  | zero => exact ⟨Nat.le_refl _, Nat.le_refl _, Nat.le_refl _, Nat.le_refl _⟩
  | succ k ih => exact ⟨Nat.le_succ_of_le ih.vo, Nat.le_trans (put_length _ _ _) (Nat.succ_le_succ ih.held), Nat.le_trans (put_length _ _ _) (Nat.succ_le_succ ih.inc), Nat.le_succ_of_le ih.out⟩
set_option maxRecDepth 100000 in
set_option maxHeartbeats 0 in
theorem class_ct (c : Cx) {ar : Int} {ta : Tok} {keep : List (Addr × Obj)} (h0 : 0 ≤ ar) (h3 : ar ≤ 3) :
    Ct c 115 8 200 [.int ar ta] keep (fun v news' => ∃ a, v = .ref a.x ∧ news' = a.fp (iniS ar.toNat).nv ++ keep ∧ CkS c.w a (iniS ar.toNat) ∧ CkOff a keep) := by
  unfold Ct PR
  k_fill
  intro A env outer A₀ base h₀ L m s Q E hh hA hf hke hd hu B F X N T ret
  refine' call_cls ?zk1 ?zk2 ?zk3 ?zk4 ?zk5 ?zk6 ?_
  (case zk1 => k_asm); (case zk2 => k_asm); (case zk3 => k_asm); (case zk4 => k_is); (case zk5 => k_is); (case zk6 => k_is)
  k_whole
  intro x d h' F8 N8 l1 l2
  k_sweep
  have huU := units_under_make A 115 [Value.int ar ta]
  have hdU := depth_under_make A 115 [Value.int ar ta]
  have hoff1 : Off d keep := fun q hq => Nat.ne_of_lt (l1 q hq)
  have hoff2 : Off x keep := fun q hq => Nat.ne_of_lt (Nat.lt_trans (l1 q hq) l2)
  have hne : d ≠ x := Nat.ne_of_lt l2
  k_with_none
  k_with "mem" => (first | with_reducible assumption | with_reducible exact List.mem_cons_self | (with_reducible refine List.mem_cons_of_mem _ ?_; k_extra "mem") | (with_reducible refine List.mem_append_left _ ?_; k_extra "mem") | (with_reducible refine List.mem_append_right _ ?_; k_extra "mem"))
  k_with "my_enter" => ((refine' code_def ?r2zk1 ?r2zk2 ?r2zk3 ?r2zk4 ?r2zk5 ?r2zkA ?r2zkF ?r2zkK ?r2zk6 ?r2zk7 ?r2zk8 ?r2zk9 ?r2zkB ?_ ?r2zc2 ?r2zc3 ?r2zc4 ?r2zc5; (case r2zkA => assumption); (case r2zkF => assumption); (case r2zkK => assumption); (case r2zk1 => k_asm); (case r2zk2 => k_asm); (case r2zk3 => k_asm); (case r2zk4 => k_asm); (case r2zk5 => k_asm); (case r2zk6 => k_is); (case r2zk7 => k_is); (case r2zk8 => omega); (case r2zk9 => exact BindsTo.of_eq rfl); (case r2zc5 => decide); (case r2zkB => exact locs rfl); (case r2zc2 => exact rfl); (case r2zc3 => exact rfl); (case r2zc4 => exact rfl); k_whole; intro zq_g' zq_L' zq_h' zq_FG' zq_F' zq_N' zq_B' zq_X' zq_T'; (try dsimp only); (try k_fold)))
  k_with "mysub" => (((with_reducible show wpAny _ _ (subscriptTail _ _ (Value.ref _) (Value.int _ _)) _ _ _); (with_unfolding_all first | (refine' sub_tup ?r3zN ?r3zm ?r3zi ?r3zj ?r3zx ?_ ?r3zh6; (case r3zN => k_asm); (case r3zm => k_extra "mem"); (case r3zi => exact rfl); (case r3zj => decide); (case r3zx => exact rfl); (case r3zh6 => rfl); k_whole) | (refine' sub_list ?r3zN ?r3zm ?r3zi ?r3zj ?r3zx ?_ ?r3zh6; (case r3zN => k_asm); (case r3zm => k_extra "mem"); (case r3zi => exact rfl); (case r3zj => omega); (case r3zx => assumption); (case r3zh6 => rfl); k_whole) | (refine' sub_list ?r3zN ?r3zm ?r3zi ?r3zj ?r3zx ?_ ?r3zh6; (case r3zN => k_asm); (case r3zm => k_extra "mem"); (case r3zi => exact rfl); (case r3zj => decide); (case r3zx => exact rfl); (case r3zh6 => rfl); k_whole) | (refine' di_item ?r3zN ?r3zm ?r3zd ?r3zv ?_ ?r3zh6; (case r3zN => k_asm); (case r3zm => k_extra "mem"); (case r3zd => with_reducible assumption); (case r3zv => with_reducible assumption); (case r3zh6 => rfl); k_whole; intro _) | (refine' ds_item ?r3zN ?r3zm ?r3zd ?r3zv ?_ ?r3zh6; (case r3zN => k_asm); (case r3zm => k_extra "mem"); (case r3zd => with_reducible assumption); (case r3zv => with_reducible assumption); (case r3zh6 => rfl); k_whole; intro _))))
  k_with "subscriptTail" => (k_extra "mysub")
  k_with "subscriptTail Name Constant ref int" => (k_extra "mysub")
  k_with "subscriptTail Name Name ref int" => (k_extra "mysub")
  k_with "subscriptTail Attribute Name Subscript Name Constant ref int" => (k_extra "mysub")
  k_with "getMethod ref" => (((with_reducible show wpAny _ _ (getMethod (Value.ref _) (PySem.Str.ofString "get") _) _ _ _); k_dflt (first | (refine' di_method ?r8zN ?r8zm ?r8zd ?_; (case r8zN => k_asm); (case r8zm => k_extra "mem"); (case r8zd => with_reducible assumption)) | (refine' ds_method ?r8zN ?r8zm ?r8zd ?_; (case r8zN => k_asm); (case r8zm => k_extra "mem"); (case r8zd => with_reducible assumption)))))
  k_with "call builtin:dict.get" => ((k_dflt (first | (refine' di_get ?r9zN ?r9zm ?r9zd ?r9zlo ?_; (case r9zN => k_asm); (case r9zm => k_extra "mem"); (case r9zd => with_reducible assumption); (case r9zlo => with_reducible assumption)) | (refine' ds_get ?r9zN ?r9zm ?r9zd ?r9zlo ?_; (case r9zN => k_asm); (case r9zm => k_extra "mem"); (case r9zd => with_reducible assumption); (case r9zlo => with_reducible assumption))); intro _))
  k_with "compareOp NotIn int ref" => ((k_dflt (refine' di_notin2 ?r10zN ?r10zm ?r10zd ?r10zlo ?_ ?_; (case r10zN => k_asm); (case r10zm => k_extra "mem"); (case r10zd => with_reducible assumption); (case r10zlo => with_reducible assumption)); intros))
  k_with "ite" => (with_reducible first | refine ite_t ?_ | refine ite_f ?_ | (refine' ite_bt ?r11zh ?_; (case r11zh => assumption)) | (refine' ite_bf ?r11zh ?_; (case r11zh => assumption)))
  k_with "opAt" => (first | with_reducible assumption | (refine' OpAt.mono ?r12zs ?r12zh; (case r12zh => with_reducible assumption); (case r12zs => k_extra "sub")) | (refine' OpAt.t ?r12zq; (case r12zq => k_extra "mem")) | (refine' OpAt.a ?r12zq; (case r12zq => k_extra "mem")) | (refine' OpAt.y ?r12zq; (case r12zq => k_extra "mem")) | (refine' OpAt.x ?r12zq; (case r12zq => k_extra "mem")))
  k_with "units" => (first | exact un1 (by with_reducible assumption) rfl | exact un0 (by with_reducible assumption) rfl | exact un2 (by with_reducible assumption) rfl | (simp only [units_in1, units_deeper, Around.mark_units, units_caller] at *; omega))
  k_with "compareOp Eq ref ref" => ((k_dflt (refine' op_eq ?r14zN ?r14za ?r14zb ?r14zu ?_; (case r14zN => k_asm); (case r14za => k_extra "opAt"); (case r14zb => k_extra "opAt"); (case r14zu => k_extra "units"); k_whole)))
  k_with "compareOp NotEq ref ref" => ((k_dflt (refine' op_ne ?r15zN ?r15za ?r15zb ?r15zu ?_; (case r15zN => k_asm); (case r15za => k_extra "opAt"); (case r15zb => k_extra "opAt"); (case r15zu => k_extra "units"); k_whole)))
  k_with "ne" => (first | with_reducible assumption | with_reducible exact Ne.symm (by with_reducible assumption) | with_reducible exact lt_ne_1 (by with_reducible assumption) | with_reducible exact lt_ne_2 (by with_reducible assumption) | with_reducible exact lt_ne_3 (by with_reducible assumption) | with_reducible exact lt_ne_4 (by with_reducible assumption) | with_reducible exact lt_ne_5 (by with_reducible assumption) | with_reducible exact lt_ne_6 (by with_reducible assumption) | with_reducible exact lt_ne_7 (by with_reducible assumption) | with_reducible exact lt_ne_8 (by with_reducible assumption) | with_reducible exact Ne.symm (lt_ne_1 (by with_reducible assumption)) | with_reducible exact Ne.symm (lt_ne_2 (by with_reducible assumption)) | with_reducible exact Ne.symm (lt_ne_3 (by with_reducible assumption)) | with_reducible exact Ne.symm (lt_ne_4 (by with_reducible assumption)) | with_reducible exact Ne.symm (lt_ne_5 (by with_reducible assumption)) | with_reducible exact Ne.symm (lt_ne_6 (by with_reducible assumption)) | with_reducible exact Ne.symm (lt_ne_7 (by with_reducible assumption)) | with_reducible exact Ne.symm (lt_ne_8 (by with_reducible assumption)) | omega)
  k_with "allne" => (first | with_reducible assumption | (refine' ne_of_lt_all ?r17zz; (case r17zz => with_reducible assumption)) | (refine' ne_of_fresh ?r17zz ?r17zm; (case r17zz => with_reducible assumption); (case r17zm => k_extra "mem")) | exact List.forall_mem_nil _ | (refine' List.forall_mem_cons.mpr ⟨?r17za, ?r17zb⟩; (case r17za => ((try dsimp only); k_extra "ne")); (case r17zb => k_extra "allne")))
  k_with "updF" => (first | (refine' UpdF.head ?r18za; (case r18za => k_extra "allne")) | (refine' UpdF.tail ?r18za ?r18zb; (case r18za => ((try dsimp only); k_extra "ne")); (case r18zb => k_extra "updF")))
  k_with "setItem ref int" => ((k_dflt (first | (refine' di_set ?r19zF ?r19zN ?r19zU ?r19zd ?r19zz ?_; (case r19zF => k_asm); (case r19zN => k_asm); (case r19zU => k_extra "updF"); (case r19zd => with_reducible assumption); (case r19zz => omega)) | (refine' ds_set ?r19zF ?r19zN ?r19zU ?r19zd ?r19zz ?_; (case r19zF => k_asm); (case r19zN => k_asm); (case r19zU => k_extra "updF"); (case r19zd => with_reducible assumption); (case r19zz => omega))); intro zq_h' zq_o' zq_F' zq_N' zq_hd'; (try dsimp only at zq_N'); (try k_sweep)))
  k_with "ifline" => (first | ((with_reducible refine' if_ne ?r20zF ?r20zv ?r20zn ?_ ?r20zk ?r20zl ?r20zd); (case r20zF => k_asm); (case r20zv => with_unfolding_all rfl); (case r20zn => decide +kernel); (case r20zk => rfl); (case r20zl => rfl); (case r20zd => decide); intro _) | ((with_reducible refine' if_eq ?r20zF ?r20zv ?r20zn ?_ ?r20zk ?r20zl ?r20zd); (case r20zF => k_asm); (case r20zv => with_unfolding_all rfl); (case r20zn => decide +kernel); (case r20zk => rfl); (case r20zl => rfl); (case r20zd => decide); intro _; dsimp only) | ((with_reducible refine' ifo_ne ?r20zF ?r20zv ?r20zn ?_ ?r20zk ?r20zl ?r20zd); (case r20zF => k_asm); (case r20zv => with_unfolding_all rfl); (case r20zn => decide +kernel); (case r20zk => rfl); (case r20zl => rfl); (case r20zd => decide); intro _) | ((with_reducible refine' ifo_eq ?r20zF ?r20zv ?r20zn ?_ ?r20zk ?r20zl ?r20zd); (case r20zF => k_asm); (case r20zv => with_unfolding_all rfl); (case r20zn => decide +kernel); (case r20zk => rfl); (case r20zl => rfl); (case r20zd => decide); intro _; dsimp only))
  k_with "execs cons" => (((with_reducible show wpAny _ _ (execs (Stmt.If _ _ _ _ :: _) _) _ _ _); k_dflt (k_extra "ifline")))
  k_with "ltall" => (first | assumption | exact tb_ltOf (by assumption) | (refine' tb_ltOf (And.right ?r22zz); (case r22zz => assumption)) | (refine' tb_ltOf (And.right (And.right ?r22zz)); (case r22zz => assumption)) | (refine' tb_ltOf (And.right (And.right (And.right ?r22zz))); (case r22zz => assumption)))
  k_with "fresh" => (first | exact FreshOver.nil | (refine' FreshOver.cons ?r23za ?r23zb; (case r23za => ((try dsimp only); k_extra "ltall")); (case r23zb => k_extra "fresh")))
  k_with "pairs" => (first | exact All2.nil | (refine' All2.cons ?r24za ?r24zb; (case r24za => (refine' PairAt.mk ?r24zc; (case r24zc => k_extra "mem"))); (case r24zb => k_extra "pairs")))
  k_with "upd" => (first | (refine' upd_app ?r25za ?r25zb; (case r25za => k_extra "allne"); (case r25zb => k_extra "upd")) | (refine' Upd.head ?r25za; (case r25za => k_extra "allne")) | (refine' Upd.tail ?r25za ?r25zb; (case r25za => ((try dsimp only); k_extra "ne")); (case r25zb => k_extra "upd")))
  k_with "setAttr ref" => ((k_dflt (refine' set_dict ?r26zF ?r26zX ?r26zN ?r26zI ?r26zd ?r26zs ?r26zp ?r26zt ?r26zh ?r26zl ?r26ze ?r26zU ?r26zz ?_; (case r26zF => k_asm); (case r26zX => k_asm); (case r26zN => k_asm); (case r26zI => k_inst); (case r26zd => exact rfl); (case r26zs => k_is); (case r26zp => k_is); (case r26zt => k_is); (case r26zh => k_is); (case r26zl => k_get); (case r26ze => k_put); (case r26zU => k_extra "upd"); (case r26zz => exact Nat.le_of_ble_eq_true rfl)); intro zq_h' zq_F' zq_N'; (try k_sweep)))
  k_with "compareOp Eq" => ((k_dflt (refine' pt_eq ?r27zN ?r27za ?r27zb ?r27zu ?_; (case r27zN => k_asm); (case r27za => with_reducible assumption); (case r27zb => with_reducible assumption); (case r27zu => k_extra "units"); k_whole)))
  k_with "compareOp NotEq" => ((k_dflt (refine' pt_ne ?r28zN ?r28za ?r28zb ?r28zu ?_; (case r28zN => k_asm); (case r28za => with_reducible assumption); (case r28zb => with_reducible assumption); (case r28zu => k_extra "units"); k_whole)))
  k_with "exec While Compare cons nil" => (first | ((k_dflt (k_extra "while")); (all_goals ((try ((try k_unmd); k_unfold; clear gG)); (try k_unmd); (try k_fold)))) | (k_here; (try k_fold); k_dflt (refine whl_start 100 ?_)))
  k_with "call builtin:isinstance" => ((k_dflt (first | (refine' isi_tup ?r30zF ?r30zX ?r30zN ?r30zm ?_; (case r30zF => k_asm); (case r30zX => k_asm); (case r30zN => k_asm); (case r30zm => k_extra "mem")) | (refine' isi_int ?r30zF ?r30zX ?r30zN ?_; (case r30zF => k_asm); (case r30zX => k_asm); (case r30zN => k_asm))); intro _))
  k_with "eval Name" => (((with_reducible refine' ldq ?r31zF ?r31zv ?r31zk ?r31zl ?r31zd ?_); (case r31zF => with_reducible assumption); (case r31zl => decide +kernel); (case r31zd => decide +kernel); (case r31zv => k_dflt (first | with_reducible assumption | exact @rfl _ (some _) | assumption)); (case r31zk => exact rfl)))
  k_with "TurnPost" => ((first | (with_reducible refine TurnPost.retI ?_) | (with_reducible refine TurnPost.nextI ?_)))
  k_with "exec For" => (((rename Fr _ _ _ _ => zq_lF'); (with_unfolding_all refine' For_invVF zq_lF' ?r33zk1 ?r33zk2 ?_; (case r33zk1 => exact rfl); (case r33zk2 => exact rfl); k_whole)))
  k_with "exec For Name Attribute cons nil" => (walk_at "exec For")
  k_with "exec For Name Name cons nil" => (walk_at "exec For")
  k_with "exec For Name Call cons nil" => (walk_at "exec For")
  k_with "rowAt" => (with_reducible assumption)
  k_with "depth" => (first | exact dp1 (by with_reducible assumption) rfl | exact dp0 (by with_reducible assumption) rfl | exact dp2 (by with_reducible assumption) rfl | (simp only [depth_under_make, depth_under_kw, depth_in1, depth_deeper, depth_caller] at *; omega))
  k_with "exec If" => (first | k_dflt (k_extra "if") | ((with_reducible refine wpAny_If ?_); (try dsimp only)))
  k_with "exec If Compare cons nil" => (walk_at "exec If")
  k_with "exec If BoolOp cons nil" => (walk_at "exec If")
  k_with "exec If Call cons nil" => (walk_at "exec If")
  k_with "exec If UnaryOp cons nil" => (walk_at "exec If")
  k_with "exec If Compare cons cons" => (walk_at "exec If")
  k_with "exec If BoolOp cons cons" => (walk_at "exec If")
  k_with "eval Call" => (((fail_if_success (with_reducible show wpAny _ _ (eval (Expr.Call (Expr.Name (PySem.Str.ofString "range") _) _ _ _) _) _ _ _)); (with_reducible show wpAny _ _ (eval (Expr.Call (Expr.Name _ _) _ _ _) _) _ _ _); k_dflt (refine Call_ ?_)))
  k_with "eval Call Attribute" => ((k_dflt (refine MethodCall_ ?_)))
  k_with "handled" => (first | assumption | exact rfl)
  k_with "frames" => (first | exact rfl | (refine' frames_deeper ?r49zz; (case r49zz => assumption)))
  k_with "pyIter ref" => (((k_dflt (k_extra "loop")); (all_goals ((try ((try k_unmd); k_unfold; clear gG)); (try dsimp only); (try k_unmd); (try k_fold)))))
  k_with "call ref" => (k_dflt (k_extra "call"))
  k_with "sub" => (first | with_reducible assumption | with_reducible exact sub_refl | (with_reducible refine sub_cons ?_; k_extra "sub") | (with_reducible refine sub_app ?_; k_extra "sub"))
  k_with "call builtin:list.append" => ((k_dflt (refine' app_l ?r53zF ?r53zN ?r53zU ?r53zz ?_; (case r53zF => k_asm); (case r53zN => k_asm); (case r53zU => k_extra "upd"); (case r53zz => exact Nat.le_of_ble_eq_true rfl)); intro zq_h' zq_F' zq_N'; (try dsimp only [List.cons_append, List.nil_append] at zq_N'); (try k_sweep)))
  k_with "compareOp In ref ref" => ((k_dflt (first | (refine' in_ops0 ?r54zN ?r54zl ?r54zo ?r54zu ?_; (case r54zN => k_asm); (case r54zl => k_extra "mem"); (case r54zo => k_extra "opAt"); (case r54zu => k_extra "units")) | (refine' in_ops1 ?r54zN ?r54zl ?r54zv ?r54zo ?r54zu ?_; (case r54zN => k_asm); (case r54zl => k_extra "mem"); (case r54zv => k_extra "opAt"); (case r54zo => k_extra "opAt"); (case r54zu => k_extra "units")))))
  k_with "assign Tuple" => ((k_dflt (refine' unpackN_ ?r55zF ?r55zN ?r55zT ?r55zh ?r55z2 ?r55z3 ?_; (case r55zF => k_asm); (case r55zN => k_asm); (case r55zT => (refine' News.isTup ?r55zy1 ?r55zy2; (case r55zy1 => k_asm); (case r55zy2 => k_extra "mem"))); (case r55zh => k_extra "handled"); (case r55z2 => exact rfl); (case r55z3 => exact rfl)); intro zq_h' zq_F' zq_N'; (try k_sweep)))
  k_with "WPost" => ((first | (with_reducible refine WPost.retI ?_) | (with_reducible refine WPost.nextI ?_)))
  k_with "WhlIf" => (((first | (refine' WhlIf.yes ?r57zz ?_; (case r57zz => (refine decide_eq_true ?_; omega))) | (refine' WhlIf.no ?r57zz ?_; (case r57zz => (refine decide_eq_false ?_; omega)))); (try dsimp only); (try k_unmd); (try k_fold)))
  k_with "call builtin:len" => ((k_dflt (refine' len_l ?r58zN ?r58zm ?r58zz ?_; (case r58zN => k_asm); (case r58zm => k_extra "mem"); (case r58zz => first | exact Nat.le_of_ble_eq_true rfl | omega)); intro _ _))
  k_with "loadName" => (((with_reducible refine' ldnq ?r59zF ?r59zv ?r59zk ?r59zl ?_); (case r59zF => with_reducible assumption); (case r59zl => decide +kernel); (case r59zv => k_dflt (first | with_reducible assumption | exact @rfl _ (some _) | assumption)); (case r59zk => exact rfl)))
  k_with "kv" => (with_reducible first | exact kv_held | exact kv_temps | exact kv_given | exact kv_out | exact kv_count)
  k_with "stitem" => ((k_dflt (refine' st_item ?r61zN ?r61zm ?r61zd ?r61zv ?_ ?r61zh6; (case r61zN => k_asm); (case r61zm => k_extra "mem"); (case r61zd => with_reducible assumption); (case r61zv => k_extra "kv"); (case r61zh6 => with_unfolding_all rfl))))
  k_with "subscriptTail Name Constant ref str" => (k_extra "stitem")
  k_with "call type:range" => ((k_dflt (first | (refine' range1_rows ?r63zF ?r63zN ?_; (case r63zF => k_asm); (case r63zN => k_asm)) | (refine' range2_rows ?r63zF ?r63zN ?_; (case r63zF => k_asm); (case r63zN => k_asm))); intro zq_h' zq_tk' zq_t9 zq_u9 zq_w9 zq_R' zq_F' zq_N' zq_kp'; clear zq_kp'; (try k_sweep)))
  k_with "TurnPost" => ((with_reducible refine TurnPost.contI ?_))
  k_with "unpackItems ref" => ((k_dflt (refine' unpackItemsN_ ?r65zF ?r65zN ?r65zT ?r65zh ?r65z2 ?_; (case r65zF => k_asm); (case r65zN => k_asm); (case r65zT => (refine' News.isTup ?r65zy1 ?r65zy2; (case r65zy1 => k_asm); (case r65zy2 => k_extra "mem"))); (case r65zh => k_extra "handled"); (case r65z2 => exact rfl)); intro zq_h' zq_F' zq_N'; (try k_sweep)))
  k_with "storeName" => (((k_dflt (refine' store_let ?r66zF ?r66zN ?_ ?r66za ?r66zb; (case r66zF => k_asm); (case r66zN => k_asm); (case r66za => rfl); (case r66zb => rfl); k_whole)); (intro zq_mk zq_h' zq_F' zq_N'); (try k_sweep)))
  k_with "callWith" => (((with_reducible show wpAny _ _ (callWith _ (Value.builtin "list.append") _ _ _) _ _ _); (k_dflt (refine callWith_method1 ?_))))
  k_with "call" => ((with_reducible show wpAny _ _ (call (Value.ref 49) _) _ _ _); (k_dflt (refine' ct_use (ct_x hx1 (newv_ct c hS1 hK1)) ?zh ?zA ?zf ?zk ?zd ?zu ?zB ?zF ?zX ?zN ?zT ?_; (case zN => k_asm);  (case zh => k_extra "handled"); (case zA => k_extra "frames"); (case zf => exact rfl); (case zk => exact rfl); (case zd => k_extra "depth"); (case zu => k_extra "units"); (case zB => k_asm); (case zF => k_asm); (case zX => k_asm); (case zT => k_asm))); (intro r' news' h' tk' F' N' p'); (show (let gG : Prop := _; gG)); intro gG; obtain ⟨a3, t9, e1, e2, hx3, hS3, hK3⟩ := p'; (try k_unmd); k_unfold; clear gG; subst e1; subst e2; replace hx3 := hx3.trans hx1; obtain ⟨x2, dx, V, H, I, O, t1, t2, t3, t4, t5, tn, h1, h2, h3, h4, h5, oV, oH, oI, oO⟩ := a3; obtain ⟨dV, dH, dI, dO, loV, loH, loI, loO, n1, n2, n3, n4, n5, n6, n7, n8, n9, n10, n11, n12, n13, n14, n15⟩ := hS3; obtain ⟨k1, k2, k3, k4, k5, k6⟩ := hK3; dsimp only at hx3; subst hx3; simp only [CA.fp, List.cons_append, List.nil_append] at N'; clear hS1 hK1 m3 m4; dsimp only at *; (try k_sweep))
  k_with "while" => (
    (rename Fr _ _ _ _ => lF'); (rename News _ _ _ _ => lN')
    rename_i q1 V q2 oV loV q3 q4 hV q5 lV q6 H q7 oH loH q8 q9 hH q10 lH q11 I q12 oI loI q13 q14 hI q15 lI q16 O q17 oO loO q18 q19 hO q20 lO q21
    clear q3 q4 q5 q8 q9 q10 q13 q14 q15 q18 q19 q20
    obtain ⟨a0, N0, hx0, hS0, hK0⟩ : ∃ a0 : CA, News g' L' _ (a0.fp 0 ++ keep) ∧ a0.x = x ∧ CkS c.w a0 (iniS 0) ∧ CkOff a0 keep := by
      refine' ⟨⟨x, d, V, H, I, O, _, _, _, _, _, _, _, _, _, _, _, oV, oH, oI, oO⟩, News.sub lN' (sub6 (a := ⟨x, d, V, H, I, O, _, _, _, _, _, _, _, _, _, _, _, oV, oH, oI, oO⟩) ?q1 ?q2 ?q3 ?q4 ?q5 ?q6 ?q7), rfl, ?q8, ?q9⟩
      case q2 => k_extra "mem"
      case q1 => k_extra "mem"
      case q3 => k_extra "mem"
      case q4 => k_extra "mem"
      case q5 => k_extra "mem"
      case q6 => k_extra "mem"
      case q7 => intro p hp; simp only [List.mem_cons, List.mem_append]; simp only [hp, or_true]
      case q8 => constructor <;> dsimp only <;> first | assumption | exact DI.nil (by assumption) | (refine neN ?_; (try dsimp only); first | k_extra "ne" | omega)
      case q9 => exact ⟨hoff2, hoff1, off_lt lV.2.2, off_lt lH.2.2.2, off_lt lI.2.2.2.2, off_lt lO.2.2.2.2.2⟩
    clear lN' lV lH lI lO hV hH hI hO loV loH loI loO
    refine while_J (fun n m nx => ∃ k a2 t, n + k = ar.toNat ∧ m (PySem.Str.ofString "self") = some (.ref x) ∧ m (PySem.Str.ofString "arity") = some (.int ar ta) ∧ m (PySem.Str.ofString "number") = some (.int ((k : Int) + 1) t) ∧ nx = CA.fp a2 (iniS k).nv ++ keep ∧ a2.x = x ∧ CkS c.w a2 (iniS k) ∧ CkOff a2 keep) ar.toNat lF' N0 ⟨0, a0, _, by omega, rfl, rfl, rfl, rfl, hx0, hS0, hK0⟩ ?_ (by first | passes_own | with_unfolding_all passes_own)
    clear lF' N0 hx0 hS0 hK0 hoff1 hoff2
    rintro n0 m9 nx9 hp9 tk9 F' N' hJ; (show (let gG : Prop := _; gG)); intro gG; obtain ⟨k, a2, ti, hki, hm1, hm2, hm3, hnx, hx1, hS1, hK1⟩ := hJ; k_unfold; clear gG
    subst hnx
    obtain ⟨m3, m4⟩ := CA.self_mem (nv := (iniS k).nv) hx1
    have hLe := iniS_le k
    obtain ⟨ll1, ll2, ll3, ll4⟩ := hLe
    rcases Int.lt_or_le ar ((k : Int) + 1) with hi9 | hi9)
  refine' code_def (binds := [(PySem.Str.ofString "self", .ref x), (PySem.Str.ofString "arity", .int ar ta)]) ?zk1 ?zk2 ?zk3 ?zk4 ?zk5 ?zkA ?zkF ?zkK ?zk6 ?zk7 ?zk8 ?zk9 ?zkB ?_ ?zc2 ?zc3 ?zc4 ?zc5; (case zkA => assumption); (case zkF => assumption); (case zkK => assumption); (case zk1 => k_asm); (case zk2 => k_asm); (case zk3 => k_asm); (case zk4 => k_asm); (case zk5 => k_asm); (case zk6 => k_is); (case zk7 => k_is); (case zk8 => omega); (case zk9 => exact BindsTo.of_eq rfl); (case zc5 => decide); (case zkB => exact locs rfl); (case zc2 => exact rfl); (case zc3 => exact rfl); (case zc4 => exact rfl); k_whole; intro g' L' h' FG' F' N' B' X' T'; (try dsimp only [List.reverse_cons, List.reverse_nil, List.nil_append, List.cons_append] at F'); (try dsimp only); (try k_fold)
  k_steps
  · obtain rfl : k = ar.toNat := by omega
    rename Fr h₀ _ _ _ => F9
    rename News h₀ _ _ _ => N9
    refine ret _ _ _ _ F9 N9 ⟨a2, ?_, rfl, hS1, hK1⟩
    rw [hx1]
  · rename Fr g' _ _ _ => F9
    rename News g' _ _ _ => N9
    refine WEnd.intro (n' := n0 - 1) F9 N9 (by omega) ⟨k + 1, ⟨x2, dx, V, H, I, O, t1, t2, t3, t4, t5, tn, h1, h2, h3, h4, h5, oV, _, _, oO⟩, _, by omega, hm1, hm2, rfl, rfl, rfl, ?_, ?_⟩
    · constructor <;> assumption
    · exact ⟨k1, k2, k3, k4, k5, k6⟩
end
section
noncomputable def cRun : CS → List Row → List Row → Bool
  | _, [], [] => true
  | st, r :: rs, s :: ss => matchB st r s && cRun (advB st r s) rs ss
  | _, _, _ => false
theorem CkOff.own {a : CA} {nv : Int} {own keep : List (Addr × Obj)} (h : CkOff a keep) (ho : OwnOff own ((a.fp nv ++ keep).map (·.1))) : CkOff a (keep ++ own) := by
  have go : ∀ d o, (d, o) ∈ a.fp nv → Off d keep → Off d (keep ++ own) := by
    intro d o hm hk q hq
    rcases List.mem_append.mp hq with hq | hq
    · exact hk q hq
    · exact ho q hq d (List.mem_map.mpr ⟨(d, o), List.mem_append_left _ hm, rfl⟩)
  exact ⟨go _ (instObj 115 a.dx) (by simp [CA.fp]) h.x, go a.dx (dictOf (ckEs a.h1 a.h2 a.h3 a.h4 a.h5 a.t1 a.t2 a.t3 a.t4 a.t5 a.tn nv a.V a.H a.I a.O) 5) (by simp [CA.fp]) h.dx, go _ a.oV (by simp [CA.fp]) h.V, go _ a.oH (by simp [CA.fp]) h.H, go _ a.oI (by simp [CA.fp]) h.I, go _ a.oO (by simp [CA.fp]) h.O⟩
theorem CkOff.left {a : CA} {own keep : List (Addr × Obj)} (h : CkOff a (keep ++ own)) : CkOff a keep :=
  have go : ∀ {d}, Off d (keep ++ own) → Off d keep := fun h q hq => h q (List.mem_append_left _ hq)
  ⟨go h.x, go h.dx, go h.V, go h.H, go h.I, go h.O⟩
theorem CkOff.ownoff {a : CA} {nv : Int} {own keep : List (Addr × Obj)} (h : CkOff a (keep ++ own)) (ho : OwnOff own (keep.map (·.1))) : OwnOff own ((a.fp nv ++ keep).map (·.1)) := by
  intro p hp b hb
  rw [List.map_append] at hb
  rcases List.mem_append.mp hb with hb | hb
  · have hp' : p ∈ keep ++ own := List.mem_append_right _ hp
    simp only [CA.fp, List.map_cons, List.map_nil, List.mem_cons, List.not_mem_nil, or_false] at hb
    rcases hb with rfl | rfl | rfl | rfl | rfl | rfl
    · exact h.x p hp'
    · exact h.dx p hp'
    · exact h.V p hp'
    · exact h.H p hp'
    · exact h.I p hp'
    · exact h.O p hp'
  · exact ho p hp b hb
theorem own_right {a : CA} {nv : Int} {own keep : List (Addr × Obj)} (ho : OwnOff own ((a.fp nv ++ keep).map (·.1))) : OwnOff own (keep.map (·.1)) :=
  fun p hp b hb => ho p hp b (by rw [List.map_append]; exact List.mem_append_right _ hb)
theorem match_shape {st : CS} {r s : Row} (h : matchB st r s = true) : shapeB r s = true := by
  unfold matchB at h
  split at h
  · assumption
  · cases h
/-- good: all matched so far; bad: one did not -/
noncomputable def CkJ (st0 : CS) (rs ss : List Row) (i k : Nat) (st : CS) : Prop := (k = i ∧ cRun st (rs.drop i) (ss.drop i) = cRun st0 rs ss) ∨ (k < i ∧ cRun st0 rs ss = false)
theorem CkJ.yes {st0 st : CS} {rs ss : List Row} {i k : Nat} {r s : Row} (h : CkJ st0 rs ss i k st) (hr : rs[i]? = some r) (hs : ss[k]? = some s) (hm : matchB st r s = true) : CkJ st0 rs ss (i + 1) (k + 1) (advB st r s) := by
  rcases h with ⟨rfl, h⟩ | ⟨h1, h2⟩
  · refine .inl ⟨rfl, ?_⟩
    rw [drop_get hr, drop_get hs] at h
    simpa [cRun, hm] using h
  · exact .inr ⟨by omega, h2⟩
theorem CkJ.no {st0 st : CS} {rs ss : List Row} {i k : Nat} {r s : Row} (h : CkJ st0 rs ss i k st) (hr : rs[i]? = some r) (hs : ss[k]? = some s) (hm : matchB st r s = false) : k < i + 1 ∧ cRun st0 rs ss = false := by
  rcases h with ⟨rfl, h⟩ | ⟨h1, h2⟩
  · refine ⟨by omega, ?_⟩
    rw [drop_get hr, drop_get hs] at h
    simpa [cRun, hm] using h.symm
  · exact ⟨by omega, h2⟩
theorem CkJ.le {st0 st : CS} {rs ss : List Row} {i k : Nat} (h : CkJ st0 rs ss i k st) : k ≤ i := by rcases h with ⟨rfl, _⟩ | ⟨h, _⟩ <;> omega
theorem CkJ.fin {st0 st : CS} {rs ss : List Row} {k : Nat} {b : Bool} (h : CkJ st0 rs ss rs.length k st) (hl : rs.length = ss.length) (hb : b = decide ((k : Int) = (ss.length : Int))) : b = cRun st0 rs ss := by
  rcases h with ⟨rfl, h⟩ | ⟨h1, h2⟩
  · rw [List.drop_length, hl, List.drop_length] at h
    rw [← h, hb, hl]
    simp [cRun]
  · rw [h2, hb]
    exact decide_eq_false (by omega)
set_option maxRecDepth 100000 in
set_option maxHeartbeats 0 in
theorem check_ct (c : Cx) {la lb : Addr} {vs ws : List Value} {rs ss : List Row} {n1 n2 : Nat} {ar : Int} {ta : Tok} {keep : List (Addr × Obj)} (hA1 : (la, listOf vs.toArray n1) ∈ keep) (hB1 : (lb, listOf ws.toArray n2) ∈ keep)
    (hr : All2 (RowAt keep) vs rs) (hs : All2 (RowAt keep) ws ss) (hw : ∀ r ∈ rs, WA r) (hw' : ∀ r ∈ ss, WR r) (hl : rs.length = ss.length) (hz : rs.length ≤ 50) (h0 : 0 ≤ ar) (h3 : ar ≤ 3) :
    Ct c 133 12 400 [.ref la, .ref lb, .int ar ta] keep (fun v news' => v = .bool (cRun (iniS ar.toNat) rs ss) ∧ news' = keep) := by
  unfold Ct PR
  k_fill
  intro A env outer A₀ base h₀ L m s Q E hh hA hf hke hd hu B F X N T ret
  have hl1 := all2_length hr
  have hl2 := all2_length hs
  k_with_none
  k_with "mem" => (first | with_reducible assumption | with_reducible exact List.mem_cons_self | (with_reducible refine List.mem_cons_of_mem _ ?_; k_extra "mem") | (with_reducible refine List.mem_append_left _ ?_; k_extra "mem") | (with_reducible refine List.mem_append_right _ ?_; k_extra "mem"))
  k_with "my_enter" => ((refine' code_def ?r2zk1 ?r2zk2 ?r2zk3 ?r2zk4 ?r2zk5 ?r2zkA ?r2zkF ?r2zkK ?r2zk6 ?r2zk7 ?r2zk8 ?r2zk9 ?r2zkB ?_ ?r2zc2 ?r2zc3 ?r2zc4 ?r2zc5; (case r2zkA => assumption); (case r2zkF => assumption); (case r2zkK => assumption); (case r2zk1 => k_asm); (case r2zk2 => k_asm); (case r2zk3 => k_asm); (case r2zk4 => k_asm); (case r2zk5 => k_asm); (case r2zk6 => k_is); (case r2zk7 => k_is); (case r2zk8 => omega); (case r2zk9 => exact BindsTo.of_eq rfl); (case r2zc5 => decide); (case r2zkB => exact locs rfl); (case r2zc2 => exact rfl); (case r2zc3 => exact rfl); (case r2zc4 => exact rfl); k_whole; intro zq_g' zq_L' zq_h' zq_FG' zq_F' zq_N' zq_B' zq_X' zq_T'; (try dsimp only); (try k_fold)))
  k_with "mysub" => (((with_reducible show wpAny _ _ (subscriptTail _ _ (Value.ref _) (Value.int _ _)) _ _ _); (with_unfolding_all first | (refine' sub_tup ?r3zN ?r3zm ?r3zi ?r3zj ?r3zx ?_ ?r3zh6; (case r3zN => k_asm); (case r3zm => k_extra "mem"); (case r3zi => exact rfl); (case r3zj => decide); (case r3zx => exact rfl); (case r3zh6 => rfl); k_whole) | (refine' sub_list ?r3zN ?r3zm ?r3zi ?r3zj ?r3zx ?_ ?r3zh6; (case r3zN => k_asm); (case r3zm => k_extra "mem"); (case r3zi => exact rfl); (case r3zj => omega); (case r3zx => assumption); (case r3zh6 => rfl); k_whole) | (refine' sub_list ?r3zN ?r3zm ?r3zi ?r3zj ?r3zx ?_ ?r3zh6; (case r3zN => k_asm); (case r3zm => k_extra "mem"); (case r3zi => exact rfl); (case r3zj => decide); (case r3zx => exact rfl); (case r3zh6 => rfl); k_whole) | (refine' di_item ?r3zN ?r3zm ?r3zd ?r3zv ?_ ?r3zh6; (case r3zN => k_asm); (case r3zm => k_extra "mem"); (case r3zd => with_reducible assumption); (case r3zv => with_reducible assumption); (case r3zh6 => rfl); k_whole; intro _) | (refine' ds_item ?r3zN ?r3zm ?r3zd ?r3zv ?_ ?r3zh6; (case r3zN => k_asm); (case r3zm => k_extra "mem"); (case r3zd => with_reducible assumption); (case r3zv => with_reducible assumption); (case r3zh6 => rfl); k_whole; intro _))))
  k_with "subscriptTail" => (k_extra "mysub")
  k_with "subscriptTail Name Constant ref int" => (k_extra "mysub")
  k_with "subscriptTail Name Name ref int" => (k_extra "mysub")
  k_with "subscriptTail Attribute Name Subscript Name Constant ref int" => (k_extra "mysub")
  k_with "getMethod ref" => (((with_reducible show wpAny _ _ (getMethod (Value.ref _) (PySem.Str.ofString "get") _) _ _ _); k_dflt (first | (refine' di_method ?r8zN ?r8zm ?r8zd ?_; (case r8zN => k_asm); (case r8zm => k_extra "mem"); (case r8zd => with_reducible assumption)) | (refine' ds_method ?r8zN ?r8zm ?r8zd ?_; (case r8zN => k_asm); (case r8zm => k_extra "mem"); (case r8zd => with_reducible assumption)))))
  k_with "call builtin:dict.get" => ((k_dflt (first | (refine' di_get ?r9zN ?r9zm ?r9zd ?r9zlo ?_; (case r9zN => k_asm); (case r9zm => k_extra "mem"); (case r9zd => with_reducible assumption); (case r9zlo => with_reducible assumption)) | (refine' ds_get ?r9zN ?r9zm ?r9zd ?r9zlo ?_; (case r9zN => k_asm); (case r9zm => k_extra "mem"); (case r9zd => with_reducible assumption); (case r9zlo => with_reducible assumption))); intro _))
  k_with "compareOp NotIn int ref" => ((k_dflt (refine' di_notin2 ?r10zN ?r10zm ?r10zd ?r10zlo ?_ ?_; (case r10zN => k_asm); (case r10zm => k_extra "mem"); (case r10zd => with_reducible assumption); (case r10zlo => with_reducible assumption)); intros))
  k_with "ite" => (with_reducible first | refine ite_t ?_ | refine ite_f ?_ | (refine' ite_bt ?r11zh ?_; (case r11zh => assumption)) | (refine' ite_bf ?r11zh ?_; (case r11zh => assumption)))
  k_with "opAt" => (first | with_reducible assumption | (refine' OpAt.mono ?r12zs ?r12zh; (case r12zh => with_reducible assumption); (case r12zs => k_extra "sub")) | (refine' OpAt.t ?r12zq; (case r12zq => k_extra "mem")) | (refine' OpAt.a ?r12zq; (case r12zq => k_extra "mem")) | (refine' OpAt.y ?r12zq; (case r12zq => k_extra "mem")) | (refine' OpAt.x ?r12zq; (case r12zq => k_extra "mem")))
  k_with "units" => (first | exact un1 (by with_reducible assumption) rfl | exact un0 (by with_reducible assumption) rfl | exact un2 (by with_reducible assumption) rfl | (simp only [units_in1, units_deeper, Around.mark_units, units_caller] at *; omega))
  k_with "compareOp Eq ref ref" => ((k_dflt (refine' op_eq ?r14zN ?r14za ?r14zb ?r14zu ?_; (case r14zN => k_asm); (case r14za => k_extra "opAt"); (case r14zb => k_extra "opAt"); (case r14zu => k_extra "units"); k_whole)))
  k_with "compareOp NotEq ref ref" => ((k_dflt (refine' op_ne ?r15zN ?r15za ?r15zb ?r15zu ?_; (case r15zN => k_asm); (case r15za => k_extra "opAt"); (case r15zb => k_extra "opAt"); (case r15zu => k_extra "units"); k_whole)))
  k_with "ne" => (first | with_reducible assumption | with_reducible exact Ne.symm (by with_reducible assumption) | with_reducible exact lt_ne_1 (by with_reducible assumption) | with_reducible exact lt_ne_2 (by with_reducible assumption) | with_reducible exact lt_ne_3 (by with_reducible assumption) | with_reducible exact lt_ne_4 (by with_reducible assumption) | with_reducible exact lt_ne_5 (by with_reducible assumption) | with_reducible exact lt_ne_6 (by with_reducible assumption) | with_reducible exact lt_ne_7 (by with_reducible assumption) | with_reducible exact lt_ne_8 (by with_reducible assumption) | with_reducible exact Ne.symm (lt_ne_1 (by with_reducible assumption)) | with_reducible exact Ne.symm (lt_ne_2 (by with_reducible assumption)) | with_reducible exact Ne.symm (lt_ne_3 (by with_reducible assumption)) | with_reducible exact Ne.symm (lt_ne_4 (by with_reducible assumption)) | with_reducible exact Ne.symm (lt_ne_5 (by with_reducible assumption)) | with_reducible exact Ne.symm (lt_ne_6 (by with_reducible assumption)) | with_reducible exact Ne.symm (lt_ne_7 (by with_reducible assumption)) | with_reducible exact Ne.symm (lt_ne_8 (by with_reducible assumption)) | omega)
  k_with "allne" => (first | with_reducible assumption | (refine' ne_of_lt_all ?r17zz; (case r17zz => with_reducible assumption)) | (refine' ne_of_fresh ?r17zz ?r17zm; (case r17zz => with_reducible assumption); (case r17zm => k_extra "mem")) | exact List.forall_mem_nil _ | (refine' List.forall_mem_cons.mpr ⟨?r17za, ?r17zb⟩; (case r17za => ((try dsimp only); k_extra "ne")); (case r17zb => k_extra "allne")))
  k_with "updF" => (first | (refine' UpdF.head ?r18za; (case r18za => k_extra "allne")) | (refine' UpdF.tail ?r18za ?r18zb; (case r18za => ((try dsimp only); k_extra "ne")); (case r18zb => k_extra "updF")))
  k_with "setItem ref int" => ((k_dflt (first | (refine' di_set ?r19zF ?r19zN ?r19zU ?r19zd ?r19zz ?_; (case r19zF => k_asm); (case r19zN => k_asm); (case r19zU => k_extra "updF"); (case r19zd => with_reducible assumption); (case r19zz => omega)) | (refine' ds_set ?r19zF ?r19zN ?r19zU ?r19zd ?r19zz ?_; (case r19zF => k_asm); (case r19zN => k_asm); (case r19zU => k_extra "updF"); (case r19zd => with_reducible assumption); (case r19zz => omega))); intro zq_h' zq_o' zq_F' zq_N' zq_hd'; (try dsimp only at zq_N'); (try k_sweep)))
  k_with "ifline" => (first | ((with_reducible refine' if_ne ?r20zF ?r20zv ?r20zn ?_ ?r20zk ?r20zl ?r20zd); (case r20zF => k_asm); (case r20zv => with_unfolding_all rfl); (case r20zn => decide +kernel); (case r20zk => rfl); (case r20zl => rfl); (case r20zd => decide); intro _) | ((with_reducible refine' if_eq ?r20zF ?r20zv ?r20zn ?_ ?r20zk ?r20zl ?r20zd); (case r20zF => k_asm); (case r20zv => with_unfolding_all rfl); (case r20zn => decide +kernel); (case r20zk => rfl); (case r20zl => rfl); (case r20zd => decide); intro _; dsimp only) | ((with_reducible refine' ifo_ne ?r20zF ?r20zv ?r20zn ?_ ?r20zk ?r20zl ?r20zd); (case r20zF => k_asm); (case r20zv => with_unfolding_all rfl); (case r20zn => decide +kernel); (case r20zk => rfl); (case r20zl => rfl); (case r20zd => decide); intro _) | ((with_reducible refine' ifo_eq ?r20zF ?r20zv ?r20zn ?_ ?r20zk ?r20zl ?r20zd); (case r20zF => k_asm); (case r20zv => with_unfolding_all rfl); (case r20zn => decide +kernel); (case r20zk => rfl); (case r20zl => rfl); (case r20zd => decide); intro _; dsimp only))
  k_with "execs cons" => (((with_reducible show wpAny _ _ (execs (Stmt.If _ _ _ _ :: _) _) _ _ _); k_dflt (k_extra "ifline")))
  k_with "ltall" => (first | assumption | exact tb_ltOf (by assumption) | (refine' tb_ltOf (And.right ?r22zz); (case r22zz => assumption)) | (refine' tb_ltOf (And.right (And.right ?r22zz)); (case r22zz => assumption)) | (refine' tb_ltOf (And.right (And.right (And.right ?r22zz))); (case r22zz => assumption)))
  k_with "fresh" => (first | exact FreshOver.nil | (refine' FreshOver.cons ?r23za ?r23zb; (case r23za => ((try dsimp only); k_extra "ltall")); (case r23zb => k_extra "fresh")))
  k_with "pairs" => (first | exact All2.nil | (refine' All2.cons ?r24za ?r24zb; (case r24za => (refine' PairAt.mk ?r24zc; (case r24zc => k_extra "mem"))); (case r24zb => k_extra "pairs")))
  k_with "upd" => (first | (refine' upd_app ?r25za ?r25zb; (case r25za => k_extra "allne"); (case r25zb => k_extra "upd")) | (refine' Upd.head ?r25za; (case r25za => k_extra "allne")) | (refine' Upd.tail ?r25za ?r25zb; (case r25za => ((try dsimp only); k_extra "ne")); (case r25zb => k_extra "upd")))
  k_with "setAttr ref" => ((k_dflt (refine' set_dict ?r26zF ?r26zX ?r26zN ?r26zI ?r26zd ?r26zs ?r26zp ?r26zt ?r26zh ?r26zl ?r26ze ?r26zU ?r26zz ?_; (case r26zF => k_asm); (case r26zX => k_asm); (case r26zN => k_asm); (case r26zI => k_inst); (case r26zd => exact rfl); (case r26zs => k_is); (case r26zp => k_is); (case r26zt => k_is); (case r26zh => k_is); (case r26zl => k_get); (case r26ze => k_put); (case r26zU => k_extra "upd"); (case r26zz => exact Nat.le_of_ble_eq_true rfl)); intro zq_h' zq_F' zq_N'; (try k_sweep)))
  k_with "compareOp Eq" => ((k_dflt (refine' pt_eq ?r27zN ?r27za ?r27zb ?r27zu ?_; (case r27zN => k_asm); (case r27za => with_reducible assumption); (case r27zb => with_reducible assumption); (case r27zu => k_extra "units"); k_whole)))
  k_with "compareOp NotEq" => ((k_dflt (refine' pt_ne ?r28zN ?r28za ?r28zb ?r28zu ?_; (case r28zN => k_asm); (case r28za => with_reducible assumption); (case r28zb => with_reducible assumption); (case r28zu => k_extra "units"); k_whole)))
  k_with "exec While Compare cons nil" => (first | ((k_dflt (k_extra "while")); (all_goals ((try ((try k_unmd); k_unfold; clear gG)); (try k_unmd); (try k_fold)))) | (k_here; (try k_fold); k_dflt (refine whl_start 100 ?_)))
  k_with "call builtin:isinstance" => ((k_dflt (first | (refine' isi_tup ?r30zF ?r30zX ?r30zN ?r30zm ?_; (case r30zF => k_asm); (case r30zX => k_asm); (case r30zN => k_asm); (case r30zm => k_extra "mem")) | (refine' isi_int ?r30zF ?r30zX ?r30zN ?_; (case r30zF => k_asm); (case r30zX => k_asm); (case r30zN => k_asm))); intro _))
  k_with "eval Name" => (((with_reducible refine' ldq ?r31zF ?r31zv ?r31zk ?r31zl ?r31zd ?_); (case r31zF => with_reducible assumption); (case r31zl => decide +kernel); (case r31zd => decide +kernel); (case r31zv => k_dflt (first | with_reducible assumption | exact @rfl _ (some _) | assumption)); (case r31zk => exact rfl)))
  k_with "TurnPost" => ((first | (with_reducible refine TurnPost.retI ?_) | (with_reducible refine TurnPost.nextI ?_)))
  k_with "exec For" => (((rename Fr _ _ _ _ => zq_lF'); (with_unfolding_all refine' For_invVF zq_lF' ?r33zk1 ?r33zk2 ?_; (case r33zk1 => exact rfl); (case r33zk2 => exact rfl); k_whole)))
  k_with "exec For Name Attribute cons nil" => (walk_at "exec For")
  k_with "exec For Name Name cons nil" => (walk_at "exec For")
  k_with "exec For Name Call cons nil" => (walk_at "exec For")
  k_with "rowAt" => (with_reducible assumption)
  k_with "depth" => (first | exact dp1 (by with_reducible assumption) rfl | exact dp0 (by with_reducible assumption) rfl | exact dp2 (by with_reducible assumption) rfl | (simp only [depth_under_make, depth_under_kw, depth_in1, depth_deeper, depth_caller] at *; omega))
  k_with "exec If" => (first | k_dflt (k_extra "if") | ((with_reducible refine wpAny_If ?_); (try dsimp only)))
  k_with "exec If Compare cons nil" => (walk_at "exec If")
  k_with "exec If BoolOp cons nil" => (walk_at "exec If")
  k_with "exec If Call cons nil" => (walk_at "exec If")
  k_with "exec If UnaryOp cons nil" => (walk_at "exec If")
  k_with "exec If Compare cons cons" => (walk_at "exec If")
  k_with "exec If BoolOp cons cons" => (walk_at "exec If")
  k_with "eval Call" => (((fail_if_success (with_reducible show wpAny _ _ (eval (Expr.Call (Expr.Name (PySem.Str.ofString "range") _) _ _ _) _) _ _ _)); (with_reducible show wpAny _ _ (eval (Expr.Call (Expr.Name _ _) _ _ _) _) _ _ _); k_dflt (refine Call_ ?_)))
  k_with "eval Call Attribute" => ((k_dflt (refine MethodCall_ ?_)))
  k_with "handled" => (first | assumption | exact rfl)
  k_with "frames" => (first | exact rfl | (refine' frames_deeper ?r49zz; (case r49zz => assumption)))
  k_with "pyIter ref" => (((k_dflt (k_extra "loop")); (all_goals ((try ((try k_unmd); k_unfold; clear gG)); (try dsimp only); (try k_unmd); (try k_fold)))))
  k_with "call ref" => (k_dflt (k_extra "call"))
  k_with "sub" => (first | with_reducible assumption | with_reducible exact sub_refl | (with_reducible refine sub_cons ?_; k_extra "sub") | (with_reducible refine sub_app ?_; k_extra "sub"))
  k_with "call builtin:list.append" => ((k_dflt (refine' app_l ?r53zF ?r53zN ?r53zU ?r53zz ?_; (case r53zF => k_asm); (case r53zN => k_asm); (case r53zU => k_extra "upd"); (case r53zz => exact Nat.le_of_ble_eq_true rfl)); intro zq_h' zq_F' zq_N'; (try dsimp only [List.cons_append, List.nil_append] at zq_N'); (try k_sweep)))
  k_with "compareOp In ref ref" => ((k_dflt (first | (refine' in_ops0 ?r54zN ?r54zl ?r54zo ?r54zu ?_; (case r54zN => k_asm); (case r54zl => k_extra "mem"); (case r54zo => k_extra "opAt"); (case r54zu => k_extra "units")) | (refine' in_ops1 ?r54zN ?r54zl ?r54zv ?r54zo ?r54zu ?_; (case r54zN => k_asm); (case r54zl => k_extra "mem"); (case r54zv => k_extra "opAt"); (case r54zo => k_extra "opAt"); (case r54zu => k_extra "units")))))
  k_with "assign Tuple" => ((k_dflt (refine' unpackN_ ?r55zF ?r55zN ?r55zT ?r55zh ?r55z2 ?r55z3 ?_; (case r55zF => k_asm); (case r55zN => k_asm); (case r55zT => (refine' News.isTup ?r55zy1 ?r55zy2; (case r55zy1 => k_asm); (case r55zy2 => k_extra "mem"))); (case r55zh => k_extra "handled"); (case r55z2 => exact rfl); (case r55z3 => exact rfl)); intro zq_h' zq_F' zq_N'; (try k_sweep)))
  k_with "WPost" => ((first | (with_reducible refine WPost.retI ?_) | (with_reducible refine WPost.nextI ?_)))
  k_with "WhlIf" => (((first | (refine' WhlIf.yes ?r57zz ?_; (case r57zz => (refine decide_eq_true ?_; omega))) | (refine' WhlIf.no ?r57zz ?_; (case r57zz => (refine decide_eq_false ?_; omega)))); (try dsimp only); (try k_unmd); (try k_fold)))
  k_with "call builtin:len" => ((k_dflt (refine' len_l ?r58zN ?r58zm ?r58zz ?_; (case r58zN => k_asm); (case r58zm => k_extra "mem"); (case r58zz => first | exact Nat.le_of_ble_eq_true rfl | omega)); intro _ _))
  k_with "loadName" => (((with_reducible refine' ldnq ?r59zF ?r59zv ?r59zk ?r59zl ?_); (case r59zF => with_reducible assumption); (case r59zl => decide +kernel); (case r59zv => k_dflt (first | with_reducible assumption | exact @rfl _ (some _) | assumption)); (case r59zk => exact rfl)))
  k_with "kv" => (with_reducible first | exact kv_held | exact kv_temps | exact kv_given | exact kv_out | exact kv_count)
  k_with "stitem" => ((k_dflt (refine' st_item ?r61zN ?r61zm ?r61zd ?r61zv ?_ ?r61zh6; (case r61zN => k_asm); (case r61zm => k_extra "mem"); (case r61zd => with_reducible assumption); (case r61zv => k_extra "kv"); (case r61zh6 => with_unfolding_all rfl))))
  k_with "subscriptTail Name Constant ref str" => (k_extra "stitem")
  k_with "call type:range" => ((k_dflt (first | (refine' range1_rows ?r63zF ?r63zN ?_; (case r63zF => k_asm); (case r63zN => k_asm)) | (refine' range2_rows ?r63zF ?r63zN ?_; (case r63zF => k_asm); (case r63zN => k_asm))); intro zq_h' zq_tk' zq_t9 zq_u9 zq_w9 zq_R' zq_F' zq_N' zq_kp'; clear zq_kp'; (try k_sweep)))
  k_with "TurnPost" => ((with_reducible refine TurnPost.contI ?_))
  k_with "unpackItems ref" => ((k_dflt (refine' unpackItemsN_ ?r65zF ?r65zN ?r65zT ?r65zh ?r65z2 ?_; (case r65zF => k_asm); (case r65zN => k_asm); (case r65zT => (refine' News.isTup ?r65zy1 ?r65zy2; (case r65zy1 => k_asm); (case r65zy2 => k_extra "mem"))); (case r65zh => k_extra "handled"); (case r65z2 => exact rfl)); intro zq_h' zq_F' zq_N'; (try k_sweep)))
  k_with "storeName" => (((k_dflt (refine' store_let ?r66zF ?r66zN ?_ ?r66za ?r66zb; (case r66zF => k_asm); (case r66zN => k_asm); (case r66za => rfl); (case r66zb => rfl); k_whole)); (intro zq_mk zq_h' zq_F' zq_N'); (try k_sweep)))
  k_with "callWith" => (((with_reducible show wpAny _ _ (callWith _ (Value.builtin "list.append") _ _ _) _ _ _); (k_dflt (refine callWith_method1 ?_))))
  k_with "call" => ((with_reducible show wpAny _ _ (call (Value.ref 115) _) _ _ _); (k_dflt (refine' ct_use (class_ct c h0 h3) ?zh ?zA ?zf ?zk ?zd ?zu ?zB ?zF ?zX ?zN ?zT ?_; (case zN => k_asm);  (case zh => k_extra "handled"); (case zA => k_extra "frames"); (case zf => exact rfl); (case zk => exact rfl); (case zd => k_extra "depth"); (case zu => k_extra "units"); (case zB => k_asm); (case zF => k_asm); (case zX => k_asm); (case zT => k_asm))); (intro r' news' h' tk' F' N' p'); (show (let gG : Prop := _; gG)); intro gG; obtain ⟨a1, e1, e2, hS1, hK1⟩ := p'; (try k_unmd); k_unfold; clear gG; subst e1; subst e2; (have hx1 : a1.x = a1.x := rfl); (have hLe1 := (iniS_le ar.toNat).mono (show ar.toNat ≤ 3 from (by omega))); (try k_sweep))
  k_with "loop" => (
    (rename Fr _ _ _ _ => lF'); (rename News _ _ _ _ => lN')
    refine li_iter (fun i m nx => ∃ a2 st2 k t, m (PySem.Str.ofString "real") = some (.ref lb) ∧ m (PySem.Str.ofString "check") = some (.ref a1.x) ∧ m (PySem.Str.ofString "at") = some (.int (k : Nat) t) ∧ nx = CA.fp a2 st2.nv ++ keep ∧ a2.x = a1.x ∧ CkS c.w a2 st2 ∧ CkOff a2 keep ∧ st2.Le (3 + 2 * i) ∧ CkJ (iniS ar.toNat) rs ss i k st2)
      (by assumption) (List.mem_append_right _ hA1) lF' lN' ⟨a1, iniS ar.toNat, 0, _, rfl, rfl, rfl, rfl, rfl, hS1, hK1, hLe1, .inl ⟨rfl, rfl⟩⟩ (fun i v m₁ nx h' tk' own hget hoff hmem hJ F' N' => ?_) (fun m₁ nx h' tk' hJ F' N' => ?_)
    all_goals (
      clear lF' lN' hS1 hK1 hLe1
      (show (let gG : Prop := _; gG)); intro gG; obtain ⟨a2, st2, k, ti, hm1, hm2, hm3, hnx, hx2, hS2, hK2, hLe, hcj⟩ := hJ; k_unfold; clear gG
      subst hnx
      change Fr g' L' h' _ at F'
      change News g' L' h' _ at N'
      (try dsimp only)
      have hki := hcj.le
      (obtain ⟨m3, m4⟩ := CA.self_mem (nv := st2.nv) hx2))
    rotate_left 1
    have hkd : ((k : Int) == (ws.length : Int)) = decide ((k : Int) = (ws.length : Int)) := rfl
    rotate_right 1
    rw [List.append_assoc] at N'
    have hK3 := hK2.own hoff
    obtain ⟨r9, hr9, hra⟩ := all2_get hr hget
    have hi9 : i < vs.length := (List.getElem?_eq_some_iff.mp hget).1
    obtain ⟨w9, hw9⟩ : ∃ w9, ws[k]? = some w9 := ⟨_, List.getElem?_eq_getElem (show k < ws.length by omega)⟩
    obtain ⟨s9, hs9, hrb⟩ := all2_get hs hw9
    replace hra : RowAt (keep ++ own) v r9 := RowAt.mono (fun p hp => List.mem_append_left _ hp) hra
    replace hrb : RowAt (keep ++ own) w9 s9 := RowAt.mono (fun p hp => List.mem_append_left _ hp) hrb
    have hwa := hw _ (List.mem_of_getElem? hr9)
    have hwr := hw' _ (List.mem_of_getElem? hs9)
    have hkn : ((k : Int)) < (ws.length : Int) := by omega
    have hB2 : (lb, listOf ws.toArray n2) ∈ keep ++ own := List.mem_append_left _ hB1)
  k_with "call" => ((with_reducible show wpAny _ _ (call (Value.ref 91) _) _ _ _); (k_dflt (refine' ct_use_eq (ct_x hx2 (matches_ct c hS2 ?y1 ?y2 ?y3 hwa hwr)) ?zh ?zA ?zf ?zk ?zd ?zu ?zB ?zF ?zX ?zN ?zT ?_; (case zN => k_asm); (case y1 => exact fun _ h => List.mem_append_left _ h); (case y2 => (refine' RowAt.mono ?ZQ hra; (case ZQ => exact fun _ h => List.mem_append_right _ h))); (case y3 => (refine' RowAt.mono ?ZQ hrb; (case ZQ => exact fun _ h => List.mem_append_right _ h))); (case zh => k_extra "handled"); (case zA => k_extra "frames"); (case zf => exact rfl); (case zk => exact rfl); (case zd => k_extra "depth"); (case zu => k_extra "units"); (case zB => k_asm); (case zF => k_asm); (case zX => k_asm); (case zT => k_asm))); (intro h' tk' F' N'); cases hmb : matchB st2 r9 s9; (try k_sweep))
  k_with "call" => ((with_reducible show wpAny _ _ (call (Value.ref 105) _) _ _ _); (k_dflt (refine' ct_use (ct_x hx2 (advance_ct c rfl hS2 hK3 hra hrb hwa hwr (match_shape hmb) hLe (by omega))) ?zh ?zA ?zf ?zk ?zd ?zu ?zB ?zF ?zX ?zN ?zT ?_; (case zN => k_asm);  (case zh => k_extra "handled"); (case zA => k_extra "frames"); (case zf => exact rfl); (case zk => exact rfl); (case zd => k_extra "depth"); (case zu => k_extra "units"); (case zB => k_asm); (case zF => k_asm); (case zX => k_asm); (case zT => k_asm))); (intro r' news' h' tk' F' N' p'); (show (let gG : Prop := _; gG)); intro gG; obtain ⟨a4, e2, hx4, hS4, hK4, hLe4⟩ := p'; (try k_unmd); k_unfold; clear gG; subst e2; replace hx4 := hx4.trans hx2; (try k_sweep))
  k_with "call" => ((with_reducible show wpAny _ _ (call (Value.ref 112) _) _ _ _); (k_dflt (refine' ct_use (ct_x hx2 (left_ct c rfl hS2 hK3 hra hwa hLe (by omega))) ?zh ?zA ?zf ?zk ?zd ?zu ?zB ?zF ?zX ?zN ?zT ?_; (case zN => k_asm);  (case zh => k_extra "handled"); (case zA => k_extra "frames"); (case zf => exact rfl); (case zk => exact rfl); (case zd => k_extra "depth"); (case zu => k_extra "units"); (case zB => k_asm); (case zF => k_asm); (case zX => k_asm); (case zT => k_asm))); (intro r' news' h' tk' F' N' p'); (show (let gG : Prop := _; gG)); intro gG; obtain ⟨b4, a4, st4, e1, e2, hx4, hS4, hK4, hLe4⟩ := p'; (try k_unmd); k_unfold; clear gG; subst e1; subst e2; replace hx4 := hx4.trans hx2; cases b4; (try k_sweep))
  refine wpAny_call ?_
  k_dflt (refine' code_def (binds := [(PySem.Str.ofString "abstract", .ref la), (PySem.Str.ofString "real", .ref lb), (PySem.Str.ofString "arity", .int ar ta)]) ?zk1 ?zk2 ?zk3 ?zk4 ?zk5 ?zkA ?zkF ?zkK ?zk6 ?zk7 ?zk8 ?zk9 ?zkB ?_ ?zc2 ?zc3 ?zc4 ?zc5; (case zkA => assumption); (case zkF => assumption); (case zkK => assumption); (case zk1 => k_asm); (case zk2 => k_asm); (case zk3 => k_asm); (case zk4 => k_asm); (case zk5 => k_asm); (case zk6 => k_is); (case zk7 => k_is); (case zk8 => omega); (case zk9 => exact BindsTo.of_eq rfl); (case zc5 => decide); (case zkB => exact locs rfl); (case zc2 => exact rfl); (case zc3 => exact rfl); (case zc4 => exact rfl); k_whole; intro g' L' h' FG' F' N' B' X' T'; (try dsimp only [List.reverse_cons, List.reverse_nil, List.nil_append, List.cons_append] at F'); (try dsimp only); (try k_fold))
  k_steps
  · rename Fr h₀ _ _ _ => F9
    rename News h₀ _ _ _ => N9
    refine ret _ _ _ _ F9 (News.sub N9 fun p hp => List.mem_append_right _ (List.mem_append_left _ hp)) ⟨?_, rfl⟩
    rw [(hcj.no hr9 hs9 hmb).2]
  · rename Fr g' _ _ _ => F9
    rename News g' _ _ _ => N9
    refine TurnEnd.intro (nx := a4.fp st4.nv ++ keep) F9 N9 (fun p hp => ?_) (fun p hp => List.mem_append_right _ (List.mem_append_right _ hp)) (hK4.ownoff (own_right hoff)) ⟨List.mem_append_right _ hA1, a4, st4, k, ti, hm1, hm2, hm3, rfl, hx4, hS4, hK4.left, hLe4.mono (by omega), .inr (hcj.no hr9 hs9 hmb)⟩
    rw [← List.append_assoc]
    exact List.mem_append_left _ hp
  · rename Fr g' _ _ _ => F9
    rename News g' _ _ _ => N9
    refine TurnEnd.intro (nx := a4.fp (advB st2 r9 s9).nv ++ keep) F9 N9 (fun p hp => ?_) (fun p hp => List.mem_append_right _ (List.mem_append_right _ hp)) (hK4.ownoff (own_right hoff)) ⟨List.mem_append_right _ hA1, a4, _, k + 1, _, hm1, hm2, rfl, rfl, hx4, hS4, hK4.left, hLe4.mono (by omega), hcj.yes hr9 hs9 hmb⟩
    rw [← List.append_assoc]
    exact List.mem_append_left _ hp
  · rename Fr h₀ _ _ _ => F9
    rename News h₀ _ _ _ => N9
    refine ret _ _ _ _ F9 (News.sub N9 fun p hp => List.mem_append_right _ hp) ⟨?_, rfl⟩
    rw [hl1] at hcj
    refine congrArg Value.bool (hcj.fin hl ?_)
    rw [hl2]
    rfl
end
section
noncomputable def Kd.deeds : Kd → PySem.Str
  | .getVar => PySem.Str.ofString "wr"
  | .getVal => PySem.Str.ofString "rr"
  | .getStr => PySem.Str.ofString ".r"
  | .uniVar => PySem.Str.ofString "w"
  | .putVal => PySem.Str.ofString "rw"
  | .putVar => PySem.Str.ofString "ww"
  | .putList => PySem.Str.ofString "w"
  | .setLoc => PySem.Str.ofString "u"
  | .setVar => PySem.Str.ofString "w"
  | .putCon => PySem.Str.ofString ".w"
  | .putStr => PySem.Str.ofString ".w"
  | .putVoid => PySem.Str.ofString "w"
  | .call => PySem.Str.ofString ".."
section
variable {w : World} {A : Around} {E : Value → Shared → Prop} {s : Shared} {h₀ : Heap} {L d : Addr} {m : PySem.Str → Option Value} {news : List (Addr × Obj)} {o : Obj} {tk : Tok} {value slice : PySem.Expr} {Q : Value → Shared → Prop} {kvs : List (PySem.Str × Value)} {x : PySem.Str}
theorem st_item {v : Value} (N : News h₀ L s.heap news) (hp : (d, o) ∈ news) (hd : o.IsDictOf (PySem.strKind PR w) kvs) (hv : valueAt kvs x = some v) (h : Q v { s with toks := s.toks + 1 })
    (hs : subscripted slice false (.ref d) (.str x tk) = operate [.ref d, .str x tk] (getItem (.ref d) (.str x tk)) := by with_unfolding_all rfl) :
    wpAny (model PR w) A (subscriptTail value slice (.ref d) (.str x tk)) Q E s :=
  kdt_tail (knd := PySem.strKind _ _) N hp hd (kdt_getItem (knd := PySem.strKind _ _) N hp hd (strKind_is _ _ _ _) hv h) hs
theorem ms_item {y : PySem.Str} (N : News h₀ L s.heap news) (hp : (d, o) ∈ news) (hd : o.IsDictOf (PySem.strKind PR w) kvs) (hv : ∃ t, valueAt kvs x = some (.str y t)) (h : ∀ t, Q (.str y t) { s with toks := s.toks + 1 })
    (hs : subscripted slice false (.ref d) (.str x tk) = operate [.ref d, .str x tk] (getItem (.ref d) (.str x tk)) := by with_unfolding_all rfl) :
    wpAny (model PR w) A (subscriptTail value slice (.ref d) (.str x tk)) Q E s :=
  let ⟨t, hv⟩ := hv
  st_item N hp hd hv (h t) hs
end
section
set_option maxRecDepth 100000 in
set_option maxHeartbeats 0 in
theorem meant_ct (c : Cx) {k : Kd} {tk : Tok} {news : List (Addr × Obj)} : Ct c 168 3 100 [.str k.name tk] news (fun v news' => (∃ t, v = .str k.deeds t) ∧ news' = news) := by
  unfold Ct PR
  k_fill
  intro A env outer A₀ base h₀ L m s Q E hh hA hf hke hd hu B F X N T ret
  k_with_none
  k_with "mem" => (first | with_reducible assumption | with_reducible exact List.mem_cons_self | (with_reducible refine List.mem_cons_of_mem _ ?_; k_extra "mem") | (with_reducible refine List.mem_append_left _ ?_; k_extra "mem") | (with_reducible refine List.mem_append_right _ ?_; k_extra "mem"))
  k_with "my_enter" => ((refine' code_def ?r2zk1 ?r2zk2 ?r2zk3 ?r2zk4 ?r2zk5 ?r2zkA ?r2zkF ?r2zkK ?r2zk6 ?r2zk7 ?r2zk8 ?r2zk9 ?r2zkB ?_ ?r2zc2 ?r2zc3 ?r2zc4 ?r2zc5; (case r2zkA => assumption); (case r2zkF => assumption); (case r2zkK => assumption); (case r2zk1 => k_asm); (case r2zk2 => k_asm); (case r2zk3 => k_asm); (case r2zk4 => k_asm); (case r2zk5 => k_asm); (case r2zk6 => k_is); (case r2zk7 => k_is); (case r2zk8 => omega); (case r2zk9 => exact BindsTo.of_eq rfl); (case r2zc5 => decide); (case r2zkB => exact locs rfl); (case r2zc2 => exact rfl); (case r2zc3 => exact rfl); (case r2zc4 => exact rfl); k_whole; intro zq_g' zq_L' zq_h' zq_FG' zq_F' zq_N' zq_B' zq_X' zq_T'; (try dsimp only); (try k_fold)))
  k_with "mysub" => (((with_reducible show wpAny _ _ (subscriptTail _ _ (Value.ref _) (Value.int _ _)) _ _ _); (with_unfolding_all first | (refine' sub_tup ?r3zN ?r3zm ?r3zi ?r3zj ?r3zx ?_ ?r3zh6; (case r3zN => k_asm); (case r3zm => k_extra "mem"); (case r3zi => exact rfl); (case r3zj => decide); (case r3zx => exact rfl); (case r3zh6 => rfl); k_whole) | (refine' sub_list ?r3zN ?r3zm ?r3zi ?r3zj ?r3zx ?_ ?r3zh6; (case r3zN => k_asm); (case r3zm => k_extra "mem"); (case r3zi => exact rfl); (case r3zj => omega); (case r3zx => assumption); (case r3zh6 => rfl); k_whole) | (refine' sub_list ?r3zN ?r3zm ?r3zi ?r3zj ?r3zx ?_ ?r3zh6; (case r3zN => k_asm); (case r3zm => k_extra "mem"); (case r3zi => exact rfl); (case r3zj => decide); (case r3zx => exact rfl); (case r3zh6 => rfl); k_whole) | (refine' di_item ?r3zN ?r3zm ?r3zd ?r3zv ?_ ?r3zh6; (case r3zN => k_asm); (case r3zm => k_extra "mem"); (case r3zd => with_reducible assumption); (case r3zv => with_reducible assumption); (case r3zh6 => rfl); k_whole; intro _) | (refine' ds_item ?r3zN ?r3zm ?r3zd ?r3zv ?_ ?r3zh6; (case r3zN => k_asm); (case r3zm => k_extra "mem"); (case r3zd => with_reducible assumption); (case r3zv => with_reducible assumption); (case r3zh6 => rfl); k_whole; intro _))))
  k_with "subscriptTail" => (k_extra "mysub")
  k_with "subscriptTail Name Constant ref int" => (k_extra "mysub")
  k_with "subscriptTail Name Name ref int" => (k_extra "mysub")
  k_with "subscriptTail Attribute Name Subscript Name Constant ref int" => (k_extra "mysub")
  k_with "getMethod ref" => (((with_reducible show wpAny _ _ (getMethod (Value.ref _) (PySem.Str.ofString "get") _) _ _ _); k_dflt (first | (refine' di_method ?r8zN ?r8zm ?r8zd ?_; (case r8zN => k_asm); (case r8zm => k_extra "mem"); (case r8zd => with_reducible assumption)) | (refine' ds_method ?r8zN ?r8zm ?r8zd ?_; (case r8zN => k_asm); (case r8zm => k_extra "mem"); (case r8zd => with_reducible assumption)))))
  k_with "call builtin:dict.get" => ((k_dflt (first | (refine' di_get ?r9zN ?r9zm ?r9zd ?r9zlo ?_; (case r9zN => k_asm); (case r9zm => k_extra "mem"); (case r9zd => with_reducible assumption); (case r9zlo => with_reducible assumption)) | (refine' ds_get ?r9zN ?r9zm ?r9zd ?r9zlo ?_; (case r9zN => k_asm); (case r9zm => k_extra "mem"); (case r9zd => with_reducible assumption); (case r9zlo => with_reducible assumption))); intro _))
  k_with "compareOp NotIn int ref" => ((k_dflt (refine' di_notin2 ?r10zN ?r10zm ?r10zd ?r10zlo ?_ ?_; (case r10zN => k_asm); (case r10zm => k_extra "mem"); (case r10zd => with_reducible assumption); (case r10zlo => with_reducible assumption)); intros))
  k_with "ite" => (with_reducible first | refine ite_t ?_ | refine ite_f ?_ | (refine' ite_bt ?r11zh ?_; (case r11zh => assumption)) | (refine' ite_bf ?r11zh ?_; (case r11zh => assumption)))
  k_with "opAt" => (first | with_reducible assumption | (refine' OpAt.mono ?r12zs ?r12zh; (case r12zh => with_reducible assumption); (case r12zs => k_extra "sub")) | (refine' OpAt.t ?r12zq; (case r12zq => k_extra "mem")) | (refine' OpAt.a ?r12zq; (case r12zq => k_extra "mem")) | (refine' OpAt.y ?r12zq; (case r12zq => k_extra "mem")) | (refine' OpAt.x ?r12zq; (case r12zq => k_extra "mem")))
  k_with "units" => (first | exact un1 (by with_reducible assumption) rfl | exact un0 (by with_reducible assumption) rfl | exact un2 (by with_reducible assumption) rfl | (simp only [units_in1, units_deeper, Around.mark_units, units_caller] at *; omega))
  k_with "compareOp Eq ref ref" => ((k_dflt (refine' op_eq ?r14zN ?r14za ?r14zb ?r14zu ?_; (case r14zN => k_asm); (case r14za => k_extra "opAt"); (case r14zb => k_extra "opAt"); (case r14zu => k_extra "units"); k_whole)))
  k_with "compareOp NotEq ref ref" => ((k_dflt (refine' op_ne ?r15zN ?r15za ?r15zb ?r15zu ?_; (case r15zN => k_asm); (case r15za => k_extra "opAt"); (case r15zb => k_extra "opAt"); (case r15zu => k_extra "units"); k_whole)))
  k_with "ne" => (first | with_reducible assumption | with_reducible exact Ne.symm (by with_reducible assumption) | with_reducible exact lt_ne_1 (by with_reducible assumption) | with_reducible exact lt_ne_2 (by with_reducible assumption) | with_reducible exact lt_ne_3 (by with_reducible assumption) | with_reducible exact lt_ne_4 (by with_reducible assumption) | with_reducible exact lt_ne_5 (by with_reducible assumption) | with_reducible exact lt_ne_6 (by with_reducible assumption) | with_reducible exact lt_ne_7 (by with_reducible assumption) | with_reducible exact lt_ne_8 (by with_reducible assumption) | with_reducible exact Ne.symm (lt_ne_1 (by with_reducible assumption)) | with_reducible exact Ne.symm (lt_ne_2 (by with_reducible assumption)) | with_reducible exact Ne.symm (lt_ne_3 (by with_reducible assumption)) | with_reducible exact Ne.symm (lt_ne_4 (by with_reducible assumption)) | with_reducible exact Ne.symm (lt_ne_5 (by with_reducible assumption)) | with_reducible exact Ne.symm (lt_ne_6 (by with_reducible assumption)) | with_reducible exact Ne.symm (lt_ne_7 (by with_reducible assumption)) | with_reducible exact Ne.symm (lt_ne_8 (by with_reducible assumption)) | omega)
  k_with "allne" => (first | with_reducible assumption | (refine' ne_of_lt_all ?r17zz; (case r17zz => with_reducible assumption)) | (refine' ne_of_fresh ?r17zz ?r17zm; (case r17zz => with_reducible assumption); (case r17zm => k_extra "mem")) | exact List.forall_mem_nil _ | (refine' List.forall_mem_cons.mpr ⟨?r17za, ?r17zb⟩; (case r17za => ((try dsimp only); k_extra "ne")); (case r17zb => k_extra "allne")))
  k_with "updF" => (first | (refine' UpdF.head ?r18za; (case r18za => k_extra "allne")) | (refine' UpdF.tail ?r18za ?r18zb; (case r18za => ((try dsimp only); k_extra "ne")); (case r18zb => k_extra "updF")))
  k_with "setItem ref int" => ((k_dflt (first | (refine' di_set ?r19zF ?r19zN ?r19zU ?r19zd ?r19zz ?_; (case r19zF => k_asm); (case r19zN => k_asm); (case r19zU => k_extra "updF"); (case r19zd => with_reducible assumption); (case r19zz => omega)) | (refine' ds_set ?r19zF ?r19zN ?r19zU ?r19zd ?r19zz ?_; (case r19zF => k_asm); (case r19zN => k_asm); (case r19zU => k_extra "updF"); (case r19zd => with_reducible assumption); (case r19zz => omega))); intro zq_h' zq_o' zq_F' zq_N' zq_hd'; (try dsimp only at zq_N'); (try k_sweep)))
  k_with "ifline" => (first | ((with_reducible refine' if_ne ?r20zF ?r20zv ?r20zn ?_ ?r20zk ?r20zl ?r20zd); (case r20zF => k_asm); (case r20zv => with_unfolding_all rfl); (case r20zn => decide +kernel); (case r20zk => rfl); (case r20zl => rfl); (case r20zd => decide); intro _) | ((with_reducible refine' if_eq ?r20zF ?r20zv ?r20zn ?_ ?r20zk ?r20zl ?r20zd); (case r20zF => k_asm); (case r20zv => with_unfolding_all rfl); (case r20zn => decide +kernel); (case r20zk => rfl); (case r20zl => rfl); (case r20zd => decide); intro _; dsimp only) | ((with_reducible refine' ifo_ne ?r20zF ?r20zv ?r20zn ?_ ?r20zk ?r20zl ?r20zd); (case r20zF => k_asm); (case r20zv => with_unfolding_all rfl); (case r20zn => decide +kernel); (case r20zk => rfl); (case r20zl => rfl); (case r20zd => decide); intro _) | ((with_reducible refine' ifo_eq ?r20zF ?r20zv ?r20zn ?_ ?r20zk ?r20zl ?r20zd); (case r20zF => k_asm); (case r20zv => with_unfolding_all rfl); (case r20zn => decide +kernel); (case r20zk => rfl); (case r20zl => rfl); (case r20zd => decide); intro _; dsimp only))
  k_with "execs cons" => (((with_reducible show wpAny _ _ (execs (Stmt.If _ _ _ _ :: _) _) _ _ _); k_dflt (k_extra "ifline")))
  k_with "ltall" => (first | assumption | exact tb_ltOf (by assumption) | (refine' tb_ltOf (And.right ?r22zz); (case r22zz => assumption)) | (refine' tb_ltOf (And.right (And.right ?r22zz)); (case r22zz => assumption)) | (refine' tb_ltOf (And.right (And.right (And.right ?r22zz))); (case r22zz => assumption)))
  k_with "fresh" => (first | exact FreshOver.nil | (refine' FreshOver.cons ?r23za ?r23zb; (case r23za => ((try dsimp only); k_extra "ltall")); (case r23zb => k_extra "fresh")))
  k_with "pairs" => (first | exact All2.nil | (refine' All2.cons ?r24za ?r24zb; (case r24za => (refine' PairAt.mk ?r24zc; (case r24zc => k_extra "mem"))); (case r24zb => k_extra "pairs")))
  k_with "upd" => (first | (refine' upd_app ?r25za ?r25zb; (case r25za => k_extra "allne"); (case r25zb => k_extra "upd")) | (refine' Upd.head ?r25za; (case r25za => k_extra "allne")) | (refine' Upd.tail ?r25za ?r25zb; (case r25za => ((try dsimp only); k_extra "ne")); (case r25zb => k_extra "upd")))
  k_with "setAttr ref" => ((k_dflt (refine' set_dict ?r26zF ?r26zX ?r26zN ?r26zI ?r26zd ?r26zs ?r26zp ?r26zt ?r26zh ?r26zl ?r26ze ?r26zU ?r26zz ?_; (case r26zF => k_asm); (case r26zX => k_asm); (case r26zN => k_asm); (case r26zI => k_inst); (case r26zd => exact rfl); (case r26zs => k_is); (case r26zp => k_is); (case r26zt => k_is); (case r26zh => k_is); (case r26zl => k_get); (case r26ze => k_put); (case r26zU => k_extra "upd"); (case r26zz => exact Nat.le_of_ble_eq_true rfl)); intro zq_h' zq_F' zq_N'; (try k_sweep)))
  k_with "compareOp Eq" => ((k_dflt (refine' pt_eq ?r27zN ?r27za ?r27zb ?r27zu ?_; (case r27zN => k_asm); (case r27za => with_reducible assumption); (case r27zb => with_reducible assumption); (case r27zu => k_extra "units"); k_whole)))
  k_with "compareOp NotEq" => ((k_dflt (refine' pt_ne ?r28zN ?r28za ?r28zb ?r28zu ?_; (case r28zN => k_asm); (case r28za => with_reducible assumption); (case r28zb => with_reducible assumption); (case r28zu => k_extra "units"); k_whole)))
  k_with "exec While Compare cons nil" => (first | ((k_dflt (k_extra "while")); (all_goals ((try ((try k_unmd); k_unfold; clear gG)); (try k_unmd); (try k_fold)))) | (k_here; (try k_fold); k_dflt (refine whl_start 100 ?_)))
  k_with "call builtin:isinstance" => ((k_dflt (first | (refine' isi_tup ?r30zF ?r30zX ?r30zN ?r30zm ?_; (case r30zF => k_asm); (case r30zX => k_asm); (case r30zN => k_asm); (case r30zm => k_extra "mem")) | (refine' isi_int ?r30zF ?r30zX ?r30zN ?_; (case r30zF => k_asm); (case r30zX => k_asm); (case r30zN => k_asm))); intro _))
  k_with "eval Name" => (((with_reducible refine' ldq ?r31zF ?r31zv ?r31zk ?r31zl ?r31zd ?_); (case r31zF => with_reducible assumption); (case r31zl => decide +kernel); (case r31zd => decide +kernel); (case r31zv => k_dflt (first | with_reducible assumption | exact @rfl _ (some _) | assumption)); (case r31zk => exact rfl)))
  k_with "TurnPost" => ((first | (with_reducible refine TurnPost.retI ?_) | (with_reducible refine TurnPost.nextI ?_)))
  k_with "exec For" => (((rename Fr _ _ _ _ => zq_lF'); (with_unfolding_all refine' For_invVF zq_lF' ?r33zk1 ?r33zk2 ?_; (case r33zk1 => exact rfl); (case r33zk2 => exact rfl); k_whole)))
  k_with "exec For Name Attribute cons nil" => (walk_at "exec For")
  k_with "exec For Name Name cons nil" => (walk_at "exec For")
  k_with "exec For Name Call cons nil" => (walk_at "exec For")
  k_with "rowAt" => (with_reducible assumption)
  k_with "depth" => (first | exact dp1 (by with_reducible assumption) rfl | exact dp0 (by with_reducible assumption) rfl | exact dp2 (by with_reducible assumption) rfl | (simp only [depth_under_make, depth_under_kw, depth_in1, depth_deeper, depth_caller] at *; omega))
  k_with "exec If" => (first | k_dflt (k_extra "if") | ((with_reducible refine wpAny_If ?_); (try dsimp only)))
  k_with "exec If Compare cons nil" => (walk_at "exec If")
  k_with "exec If BoolOp cons nil" => (walk_at "exec If")
  k_with "exec If Call cons nil" => (walk_at "exec If")
  k_with "exec If UnaryOp cons nil" => (walk_at "exec If")
  k_with "exec If Compare cons cons" => (walk_at "exec If")
  k_with "exec If BoolOp cons cons" => (walk_at "exec If")
  k_with "eval Call" => (((fail_if_success (with_reducible show wpAny _ _ (eval (Expr.Call (Expr.Name (PySem.Str.ofString "range") _) _ _ _) _) _ _ _)); (with_reducible show wpAny _ _ (eval (Expr.Call (Expr.Name _ _) _ _ _) _) _ _ _); k_dflt (refine Call_ ?_)))
  k_with "eval Call Attribute" => ((k_dflt (refine MethodCall_ ?_)))
  k_with "handled" => (first | assumption | exact rfl)
  k_with "frames" => (first | exact rfl | (refine' frames_deeper ?r49zz; (case r49zz => assumption)))
  k_with "pyIter ref" => (((k_dflt (k_extra "loop")); (all_goals ((try ((try k_unmd); k_unfold; clear gG)); (try dsimp only); (try k_unmd); (try k_fold)))))
  k_with "call ref" => (k_dflt (k_extra "call"))
  k_with "sub" => (first | with_reducible assumption | with_reducible exact sub_refl | (with_reducible refine sub_cons ?_; k_extra "sub") | (with_reducible refine sub_app ?_; k_extra "sub"))
  k_with "call builtin:list.append" => ((k_dflt (refine' app_l ?r53zF ?r53zN ?r53zU ?r53zz ?_; (case r53zF => k_asm); (case r53zN => k_asm); (case r53zU => k_extra "upd"); (case r53zz => exact Nat.le_of_ble_eq_true rfl)); intro zq_h' zq_F' zq_N'; (try dsimp only [List.cons_append, List.nil_append] at zq_N'); (try k_sweep)))
  k_with "compareOp In ref ref" => ((k_dflt (first | (refine' in_ops0 ?r54zN ?r54zl ?r54zo ?r54zu ?_; (case r54zN => k_asm); (case r54zl => k_extra "mem"); (case r54zo => k_extra "opAt"); (case r54zu => k_extra "units")) | (refine' in_ops1 ?r54zN ?r54zl ?r54zv ?r54zo ?r54zu ?_; (case r54zN => k_asm); (case r54zl => k_extra "mem"); (case r54zv => k_extra "opAt"); (case r54zo => k_extra "opAt"); (case r54zu => k_extra "units")))))
  k_with "assign Tuple" => ((k_dflt (refine' unpackN_ ?r55zF ?r55zN ?r55zT ?r55zh ?r55z2 ?r55z3 ?_; (case r55zF => k_asm); (case r55zN => k_asm); (case r55zT => (refine' News.isTup ?r55zy1 ?r55zy2; (case r55zy1 => k_asm); (case r55zy2 => k_extra "mem"))); (case r55zh => k_extra "handled"); (case r55z2 => exact rfl); (case r55z3 => exact rfl)); intro zq_h' zq_F' zq_N'; (try k_sweep)))
  k_with "WPost" => ((first | (with_reducible refine WPost.retI ?_) | (with_reducible refine WPost.nextI ?_)))
  k_with "WhlIf" => (((first | (refine' WhlIf.yes ?r57zz ?_; (case r57zz => (refine decide_eq_true ?_; omega))) | (refine' WhlIf.no ?r57zz ?_; (case r57zz => (refine decide_eq_false ?_; omega)))); (try dsimp only); (try k_unmd); (try k_fold)))
  k_with "call builtin:len" => ((k_dflt (refine' len_l ?r58zN ?r58zm ?r58zz ?_; (case r58zN => k_asm); (case r58zm => k_extra "mem"); (case r58zz => first | exact Nat.le_of_ble_eq_true rfl | omega)); intro _ _))
  k_with "loadName" => (((with_reducible refine' ldnq ?r59zF ?r59zv ?r59zk ?r59zl ?_); (case r59zF => with_reducible assumption); (case r59zl => decide +kernel); (case r59zv => k_dflt (first | with_reducible assumption | exact @rfl _ (some _) | assumption)); (case r59zk => exact rfl)))
  k_with "kv" => (with_reducible first | exact kv_held | exact kv_temps | exact kv_given | exact kv_out | exact kv_count)
  k_with "stitem" => ((k_dflt (refine' st_item ?r61zN ?r61zm ?r61zd ?r61zv ?_ ?r61zh6; (case r61zN => k_asm); (case r61zm => k_extra "mem"); (case r61zd => with_reducible assumption); (case r61zv => k_extra "kv"); (case r61zh6 => with_unfolding_all rfl))))
  k_with "subscriptTail Name Constant ref str" => (k_extra "stitem")
  k_with "call type:range" => ((k_dflt (first | (refine' range1_rows ?r63zF ?r63zN ?_; (case r63zF => k_asm); (case r63zN => k_asm)) | (refine' range2_rows ?r63zF ?r63zN ?_; (case r63zF => k_asm); (case r63zN => k_asm))); intro zq_h' zq_tk' zq_t9 zq_u9 zq_w9 zq_R' zq_F' zq_N' zq_kp'; clear zq_kp'; (try k_sweep)))
  k_with "TurnPost" => ((with_reducible refine TurnPost.contI ?_))
  k_with "unpackItems ref" => ((k_dflt (refine' unpackItemsN_ ?r65zF ?r65zN ?r65zT ?r65zh ?r65z2 ?_; (case r65zF => k_asm); (case r65zN => k_asm); (case r65zT => (refine' News.isTup ?r65zy1 ?r65zy2; (case r65zy1 => k_asm); (case r65zy2 => k_extra "mem"))); (case r65zh => k_extra "handled"); (case r65z2 => exact rfl)); intro zq_h' zq_F' zq_N'; (try k_sweep)))
  k_with "storeName" => (((k_dflt (refine' store_let ?r66zF ?r66zN ?_ ?r66za ?r66zb; (case r66zF => k_asm); (case r66zN => k_asm); (case r66za => rfl); (case r66zb => rfl); k_whole)); (intro zq_mk zq_h' zq_F' zq_N'); (try k_sweep)))
  k_with "callWith" => (((with_reducible show wpAny _ _ (callWith _ (Value.builtin "list.append") _ _ _) _ _ _); (k_dflt (refine callWith_method1 ?_))))
  k_with "subscriptTail Dict cons cons Name ref str" => ((k_dflt (refine' ms_item (y := Kd.deeds _) ?r123zN ?r123zm ?r123zd ?r123zv ?_ ?r123zh6; (case r123zN => k_asm); (case r123zm => k_extra "mem"); (case r123zd => with_reducible assumption); (case r123zv => k_extra "meant"); (case r123zh6 => with_unfolding_all rfl)); intro _))
  k_with "meant" => (show ∃ t, valueAt _ k.name = some (.str k.deeds t); (cases k <;> exact ⟨_, rfl⟩))
  refine wpAny_call ?_
  k_dflt (refine' code_def (binds := [(PySem.Str.ofString "name", .str k.name tk)]) ?zk1 ?zk2 ?zk3 ?zk4 ?zk5 ?zkA ?zkF ?zkK ?zk6 ?zk7 ?zk8 ?zk9 ?zkB ?_ ?zc2 ?zc3 ?zc4 ?zc5; (case zkA => assumption); (case zkF => assumption); (case zkK => assumption); (case zk1 => k_asm); (case zk2 => k_asm); (case zk3 => k_asm); (case zk4 => k_asm); (case zk5 => k_asm); (case zk6 => k_is); (case zk7 => k_is); (case zk8 => omega); (case zk9 => exact BindsTo.of_eq rfl); (case zc5 => decide); (case zkB => exact locs rfl); (case zc2 => exact rfl); (case zc3 => exact rfl); (case zc4 => exact rfl); k_whole; intro g' L' h' FG' F' N' B' X' T'; (try dsimp only [List.reverse_cons, List.reverse_nil, List.nil_append, List.cons_append] at F'); (try dsimp only); (try k_fold))
  k_steps
  exact ret _ _ _ _ (by assumption) (News.sub (by assumption) fun p hp => List.mem_cons_of_mem _ hp) ⟨⟨_, rfl⟩, rfl⟩
end
structure LS where
  held : List (Int × PySem.Str)
  temps : List (Int × PySem.Str)
  given : List (Int × PySem.Str)
  out : List (Int × PySem.Str)
  n : Int
structure LA where
  S : Addr
  H : Addr
  T : Addr
  G : Addr
  O : Addr
  oS : Obj
  oH : Obj
  oT : Obj
  oG : Obj
  oO : Obj
  tn : Tok
noncomputable def LA.fp (a : LA) : List (Addr × Obj) := [(a.S, a.oS), (a.H, a.oH), (a.T, a.oT), (a.G, a.oG), (a.O, a.oO)]
abbrev lawKv (H T G O : Addr) (tn : Tok) (n : Int) : List (PySem.Str × Value) :=
  [(PySem.Str.ofString "held", .ref H), (PySem.Str.ofString "temps", .ref T), (PySem.Str.ofString "given", .ref G), (PySem.Str.ofString "out", .ref O), (PySem.Str.ofString "count", .int n tn)]
structure LkS (w : World) (a : LA) (st : LS) : Prop where
  dS : a.oS.IsDictOf (PySem.strKind PR w) (lawKv a.H a.T a.G a.O a.tn st.n)
  dH : DS w a.oH st.held
  dT : DS w a.oT st.temps
  dG : DS w a.oG st.given
  dO : DS w a.oO st.out
  loS : (a.S == sysModules) = false
  loH : (a.H == sysModules) = false
  loT : (a.T == sysModules) = false
  loG : (a.G == sysModules) = false
  loO : (a.O == sysModules) = false
  n1 : a.H ≠ a.S
  n2 : a.T ≠ a.S
  n3 : a.G ≠ a.S
  n4 : a.O ≠ a.S
  n5 : a.T ≠ a.H
  n6 : a.G ≠ a.H
  n7 : a.O ≠ a.H
  n8 : a.G ≠ a.T
  n9 : a.O ≠ a.T
  n10 : a.O ≠ a.G
structure LkOff (a : LA) (keep : List (Addr × Obj)) : Prop where
  S : Off a.S keep
  H : Off a.H keep
  T : Off a.T keep
  G : Off a.G keep
  O : Off a.O keep
theorem LA.mems {a : LA} {news : List (Addr × Obj)} (h : ∀ p ∈ a.fp, p ∈ news) : (a.S, a.oS) ∈ news ∧ (a.H, a.oH) ∈ news ∧ (a.T, a.oT) ∈ news ∧ (a.G, a.oG) ∈ news ∧ (a.O, a.oO) ∈ news := by
  refine ⟨h _ ?_, h _ ?_, h _ ?_, h _ ?_, h _ ?_⟩ <;> simp [LA.fp]
theorem kv_held {H T G O : Addr} {tn : Tok} {n : Int} : valueAt (lawKv H T G O tn n) (PySem.Str.ofString "held") = some (.ref H) := rfl
theorem kv_temps {H T G O : Addr} {tn : Tok} {n : Int} : valueAt (lawKv H T G O tn n) (PySem.Str.ofString "temps") = some (.ref T) := rfl
theorem kv_given {H T G O : Addr} {tn : Tok} {n : Int} : valueAt (lawKv H T G O tn n) (PySem.Str.ofString "given") = some (.ref G) := rfl
theorem kv_out {H T G O : Addr} {tn : Tok} {n : Int} : valueAt (lawKv H T G O tn n) (PySem.Str.ofString "out") = some (.ref O) := rfl
theorem kv_count {H T G O : Addr} {tn : Tok} {n : Int} : valueAt (lawKv H T G O tn n) (PySem.Str.ofString "count") = some (.int n tn) := rfl
noncomputable def label (st : LS) : Op → PySem.Str
  | .t k => (lk st.temps k).getD (PySem.Str.ofString "none")
  | o => (lk st.given o.num).getD (PySem.Str.ofString "none")
theorem TurnPost.contI {h₀ : Heap} {L : Addr} {J : (PySem.Str → Option Value) → List (Addr × Obj) → Prop} {own : List (Addr × Obj)} {s₁ s₂ : Shared} {Q : Flow → Shared → Prop} (h : TurnEnd h₀ L J own s₁ s₂) : TurnPost h₀ L J own s₁ Q .cont s₂ := h
end
section
set_option maxRecDepth 100000 in
set_option maxHeartbeats 0 in
theorem label_ct (c : Cx) {a : LA} {st : LS} {ov : Value} {o : Op} {news : List (Addr × Obj)} (hS : LkS c.w a st) (hsub : ∀ p ∈ a.fp, p ∈ news) (ho : OpAt news ov o) :
    Ct c 175 3 100 [.ref a.S, ov] news (fun v news' => (∃ t, v = .str (label st o) t) ∧ news' = news) := by
  unfold Ct PR
  k_fill
  intro A env outer A₀ base h₀ L m s Q E hh hA hf hke hd hu B F X N T ret
  obtain ⟨m1, m2, m3, m4, m5⟩ := LA.mems hsub
  clear hsub
  obtain ⟨S, H, TT, G, O, oS, oH, oT, oG, oO, tn⟩ := a
  obtain ⟨dS, dH, dT, dG, dO, loS, loH, loT, loG, loO, n1, n2, n3, n4, n5, n6, n7, n8, n9, n10⟩ := hS
  clear n1 n2 n3 n4 n5 n6 n7 n8 n9 n10
  dsimp only at *
  k_with_none
  k_with "mem" => (first | with_reducible assumption | with_reducible exact List.mem_cons_self | (with_reducible refine List.mem_cons_of_mem _ ?_; k_extra "mem") | (with_reducible refine List.mem_append_left _ ?_; k_extra "mem") | (with_reducible refine List.mem_append_right _ ?_; k_extra "mem"))
  k_with "my_enter" => ((refine' code_def ?r2zk1 ?r2zk2 ?r2zk3 ?r2zk4 ?r2zk5 ?r2zkA ?r2zkF ?r2zkK ?r2zk6 ?r2zk7 ?r2zk8 ?r2zk9 ?r2zkB ?_ ?r2zc2 ?r2zc3 ?r2zc4 ?r2zc5; (case r2zkA => assumption); (case r2zkF => assumption); (case r2zkK => assumption); (case r2zk1 => k_asm); (case r2zk2 => k_asm); (case r2zk3 => k_asm); (case r2zk4 => k_asm); (case r2zk5 => k_asm); (case r2zk6 => k_is); (case r2zk7 => k_is); (case r2zk8 => omega); (case r2zk9 => exact BindsTo.of_eq rfl); (case r2zc5 => decide); (case r2zkB => exact locs rfl); (case r2zc2 => exact rfl); (case r2zc3 => exact rfl); (case r2zc4 => exact rfl); k_whole; intro zq_g' zq_L' zq_h' zq_FG' zq_F' zq_N' zq_B' zq_X' zq_T'; (try dsimp only); (try k_fold)))
  k_with "mysub" => (((with_reducible show wpAny _ _ (subscriptTail _ _ (Value.ref _) (Value.int _ _)) _ _ _); (with_unfolding_all first | (refine' sub_tup ?r3zN ?r3zm ?r3zi ?r3zj ?r3zx ?_ ?r3zh6; (case r3zN => k_asm); (case r3zm => k_extra "mem"); (case r3zi => exact rfl); (case r3zj => decide); (case r3zx => exact rfl); (case r3zh6 => rfl); k_whole) | (refine' sub_list ?r3zN ?r3zm ?r3zi ?r3zj ?r3zx ?_ ?r3zh6; (case r3zN => k_asm); (case r3zm => k_extra "mem"); (case r3zi => exact rfl); (case r3zj => omega); (case r3zx => assumption); (case r3zh6 => rfl); k_whole) | (refine' sub_list ?r3zN ?r3zm ?r3zi ?r3zj ?r3zx ?_ ?r3zh6; (case r3zN => k_asm); (case r3zm => k_extra "mem"); (case r3zi => exact rfl); (case r3zj => decide); (case r3zx => exact rfl); (case r3zh6 => rfl); k_whole) | (refine' di_item ?r3zN ?r3zm ?r3zd ?r3zv ?_ ?r3zh6; (case r3zN => k_asm); (case r3zm => k_extra "mem"); (case r3zd => with_reducible assumption); (case r3zv => with_reducible assumption); (case r3zh6 => rfl); k_whole; intro _) | (refine' ds_item ?r3zN ?r3zm ?r3zd ?r3zv ?_ ?r3zh6; (case r3zN => k_asm); (case r3zm => k_extra "mem"); (case r3zd => with_reducible assumption); (case r3zv => with_reducible assumption); (case r3zh6 => rfl); k_whole; intro _))))
  k_with "subscriptTail" => (k_extra "mysub")
  k_with "subscriptTail Name Constant ref int" => (k_extra "mysub")
  k_with "subscriptTail Name Name ref int" => (k_extra "mysub")
  k_with "subscriptTail Attribute Name Subscript Name Constant ref int" => (k_extra "mysub")
  k_with "getMethod ref" => (((with_reducible show wpAny _ _ (getMethod (Value.ref _) (PySem.Str.ofString "get") _) _ _ _); k_dflt (first | (refine' di_method ?r8zN ?r8zm ?r8zd ?_; (case r8zN => k_asm); (case r8zm => k_extra "mem"); (case r8zd => with_reducible assumption)) | (refine' ds_method ?r8zN ?r8zm ?r8zd ?_; (case r8zN => k_asm); (case r8zm => k_extra "mem"); (case r8zd => with_reducible assumption)))))
  k_with "call builtin:dict.get" => ((k_dflt (first | (refine' di_get ?r9zN ?r9zm ?r9zd ?r9zlo ?_; (case r9zN => k_asm); (case r9zm => k_extra "mem"); (case r9zd => with_reducible assumption); (case r9zlo => with_reducible assumption)) | (refine' ds_get ?r9zN ?r9zm ?r9zd ?r9zlo ?_; (case r9zN => k_asm); (case r9zm => k_extra "mem"); (case r9zd => with_reducible assumption); (case r9zlo => with_reducible assumption))); intro _))
  k_with "compareOp NotIn int ref" => ((k_dflt (refine' di_notin2 ?r10zN ?r10zm ?r10zd ?r10zlo ?_ ?_; (case r10zN => k_asm); (case r10zm => k_extra "mem"); (case r10zd => with_reducible assumption); (case r10zlo => with_reducible assumption)); intros))
  k_with "ite" => (with_reducible first | refine ite_t ?_ | refine ite_f ?_ | (refine' ite_bt ?r11zh ?_; (case r11zh => assumption)) | (refine' ite_bf ?r11zh ?_; (case r11zh => assumption)))
  k_with "opAt" => (first | with_reducible assumption | (refine' OpAt.mono ?r12zs ?r12zh; (case r12zh => with_reducible assumption); (case r12zs => k_extra "sub")) | (refine' OpAt.t ?r12zq; (case r12zq => k_extra "mem")) | (refine' OpAt.a ?r12zq; (case r12zq => k_extra "mem")) | (refine' OpAt.y ?r12zq; (case r12zq => k_extra "mem")) | (refine' OpAt.x ?r12zq; (case r12zq => k_extra "mem")))
  k_with "units" => (first | exact un1 (by with_reducible assumption) rfl | exact un0 (by with_reducible assumption) rfl | exact un2 (by with_reducible assumption) rfl | (simp only [units_in1, units_deeper, Around.mark_units, units_caller] at *; omega))
  k_with "compareOp Eq ref ref" => ((k_dflt (refine' op_eq ?r14zN ?r14za ?r14zb ?r14zu ?_; (case r14zN => k_asm); (case r14za => k_extra "opAt"); (case r14zb => k_extra "opAt"); (case r14zu => k_extra "units"); k_whole)))
  k_with "compareOp NotEq ref ref" => ((k_dflt (refine' op_ne ?r15zN ?r15za ?r15zb ?r15zu ?_; (case r15zN => k_asm); (case r15za => k_extra "opAt"); (case r15zb => k_extra "opAt"); (case r15zu => k_extra "units"); k_whole)))
  k_with "ne" => (first | with_reducible assumption | with_reducible exact Ne.symm (by with_reducible assumption) | with_reducible exact lt_ne_1 (by with_reducible assumption) | with_reducible exact lt_ne_2 (by with_reducible assumption) | with_reducible exact lt_ne_3 (by with_reducible assumption) | with_reducible exact lt_ne_4 (by with_reducible assumption) | with_reducible exact lt_ne_5 (by with_reducible assumption) | with_reducible exact lt_ne_6 (by with_reducible assumption) | with_reducible exact lt_ne_7 (by with_reducible assumption) | with_reducible exact lt_ne_8 (by with_reducible assumption) | with_reducible exact Ne.symm (lt_ne_1 (by with_reducible assumption)) | with_reducible exact Ne.symm (lt_ne_2 (by with_reducible assumption)) | with_reducible exact Ne.symm (lt_ne_3 (by with_reducible assumption)) | with_reducible exact Ne.symm (lt_ne_4 (by with_reducible assumption)) | with_reducible exact Ne.symm (lt_ne_5 (by with_reducible assumption)) | with_reducible exact Ne.symm (lt_ne_6 (by with_reducible assumption)) | with_reducible exact Ne.symm (lt_ne_7 (by with_reducible assumption)) | with_reducible exact Ne.symm (lt_ne_8 (by with_reducible assumption)) | omega)
  k_with "allne" => (first | with_reducible assumption | (refine' ne_of_lt_all ?r17zz; (case r17zz => with_reducible assumption)) | (refine' ne_of_fresh ?r17zz ?r17zm; (case r17zz => with_reducible assumption); (case r17zm => k_extra "mem")) | exact List.forall_mem_nil _ | (refine' List.forall_mem_cons.mpr ⟨?r17za, ?r17zb⟩; (case r17za => ((try dsimp only); k_extra "ne")); (case r17zb => k_extra "allne")))
  k_with "updF" => (first | (refine' UpdF.head ?r18za; (case r18za => k_extra "allne")) | (refine' UpdF.tail ?r18za ?r18zb; (case r18za => ((try dsimp only); k_extra "ne")); (case r18zb => k_extra "updF")))
  k_with "setItem ref int" => ((k_dflt (first | (refine' di_set ?r19zF ?r19zN ?r19zU ?r19zd ?r19zz ?_; (case r19zF => k_asm); (case r19zN => k_asm); (case r19zU => k_extra "updF"); (case r19zd => with_reducible assumption); (case r19zz => omega)) | (refine' ds_set ?r19zF ?r19zN ?r19zU ?r19zd ?r19zz ?_; (case r19zF => k_asm); (case r19zN => k_asm); (case r19zU => k_extra "updF"); (case r19zd => with_reducible assumption); (case r19zz => omega))); intro zq_h' zq_o' zq_F' zq_N' zq_hd'; (try dsimp only at zq_N'); (try k_sweep)))
  k_with "ifline" => (first | ((with_reducible refine' if_ne ?r20zF ?r20zv ?r20zn ?_ ?r20zk ?r20zl ?r20zd); (case r20zF => k_asm); (case r20zv => with_unfolding_all rfl); (case r20zn => decide +kernel); (case r20zk => rfl); (case r20zl => rfl); (case r20zd => decide); intro _) | ((with_reducible refine' if_eq ?r20zF ?r20zv ?r20zn ?_ ?r20zk ?r20zl ?r20zd); (case r20zF => k_asm); (case r20zv => with_unfolding_all rfl); (case r20zn => decide +kernel); (case r20zk => rfl); (case r20zl => rfl); (case r20zd => decide); intro _; dsimp only) | ((with_reducible refine' ifo_ne ?r20zF ?r20zv ?r20zn ?_ ?r20zk ?r20zl ?r20zd); (case r20zF => k_asm); (case r20zv => with_unfolding_all rfl); (case r20zn => decide +kernel); (case r20zk => rfl); (case r20zl => rfl); (case r20zd => decide); intro _) | ((with_reducible refine' ifo_eq ?r20zF ?r20zv ?r20zn ?_ ?r20zk ?r20zl ?r20zd); (case r20zF => k_asm); (case r20zv => with_unfolding_all rfl); (case r20zn => decide +kernel); (case r20zk => rfl); (case r20zl => rfl); (case r20zd => decide); intro _; dsimp only))
  k_with "execs cons" => (((with_reducible show wpAny _ _ (execs (Stmt.If _ _ _ _ :: _) _) _ _ _); k_dflt (k_extra "ifline")))
  k_with "ltall" => (first | assumption | exact tb_ltOf (by assumption) | (refine' tb_ltOf (And.right ?r22zz); (case r22zz => assumption)) | (refine' tb_ltOf (And.right (And.right ?r22zz)); (case r22zz => assumption)) | (refine' tb_ltOf (And.right (And.right (And.right ?r22zz))); (case r22zz => assumption)))
  k_with "fresh" => (first | exact FreshOver.nil | (refine' FreshOver.cons ?r23za ?r23zb; (case r23za => ((try dsimp only); k_extra "ltall")); (case r23zb => k_extra "fresh")))
  k_with "pairs" => (first | exact All2.nil | (refine' All2.cons ?r24za ?r24zb; (case r24za => (refine' PairAt.mk ?r24zc; (case r24zc => k_extra "mem"))); (case r24zb => k_extra "pairs")))
  k_with "upd" => (first | (refine' upd_app ?r25za ?r25zb; (case r25za => k_extra "allne"); (case r25zb => k_extra "upd")) | (refine' Upd.head ?r25za; (case r25za => k_extra "allne")) | (refine' Upd.tail ?r25za ?r25zb; (case r25za => ((try dsimp only); k_extra "ne")); (case r25zb => k_extra "upd")))
  k_with "setAttr ref" => ((k_dflt (refine' set_dict ?r26zF ?r26zX ?r26zN ?r26zI ?r26zd ?r26zs ?r26zp ?r26zt ?r26zh ?r26zl ?r26ze ?r26zU ?r26zz ?_; (case r26zF => k_asm); (case r26zX => k_asm); (case r26zN => k_asm); (case r26zI => k_inst); (case r26zd => exact rfl); (case r26zs => k_is); (case r26zp => k_is); (case r26zt => k_is); (case r26zh => k_is); (case r26zl => k_get); (case r26ze => k_put); (case r26zU => k_extra "upd"); (case r26zz => exact Nat.le_of_ble_eq_true rfl)); intro zq_h' zq_F' zq_N'; (try k_sweep)))
  k_with "compareOp Eq" => ((k_dflt (refine' pt_eq ?r27zN ?r27za ?r27zb ?r27zu ?_; (case r27zN => k_asm); (case r27za => with_reducible assumption); (case r27zb => with_reducible assumption); (case r27zu => k_extra "units"); k_whole)))
  k_with "compareOp NotEq" => ((k_dflt (refine' pt_ne ?r28zN ?r28za ?r28zb ?r28zu ?_; (case r28zN => k_asm); (case r28za => with_reducible assumption); (case r28zb => with_reducible assumption); (case r28zu => k_extra "units"); k_whole)))
  k_with "exec While Compare cons nil" => (first | ((k_dflt (k_extra "while")); (all_goals ((try ((try k_unmd); k_unfold; clear gG)); (try k_unmd); (try k_fold)))) | (k_here; (try k_fold); k_dflt (refine whl_start 100 ?_)))
  k_with "call builtin:isinstance" => ((k_dflt (first | (refine' isi_tup ?r30zF ?r30zX ?r30zN ?r30zm ?_; (case r30zF => k_asm); (case r30zX => k_asm); (case r30zN => k_asm); (case r30zm => k_extra "mem")) | (refine' isi_int ?r30zF ?r30zX ?r30zN ?_; (case r30zF => k_asm); (case r30zX => k_asm); (case r30zN => k_asm))); intro _))
  k_with "eval Name" => (((with_reducible refine' ldq ?r31zF ?r31zv ?r31zk ?r31zl ?r31zd ?_); (case r31zF => with_reducible assumption); (case r31zl => decide +kernel); (case r31zd => decide +kernel); (case r31zv => k_dflt (first | with_reducible assumption | exact @rfl _ (some _) | assumption)); (case r31zk => exact rfl)))
  k_with "TurnPost" => ((first | (with_reducible refine TurnPost.retI ?_) | (with_reducible refine TurnPost.nextI ?_)))
  k_with "exec For" => (((rename Fr _ _ _ _ => zq_lF'); (with_unfolding_all refine' For_invVF zq_lF' ?r33zk1 ?r33zk2 ?_; (case r33zk1 => exact rfl); (case r33zk2 => exact rfl); k_whole)))
  k_with "exec For Name Attribute cons nil" => (walk_at "exec For")
  k_with "exec For Name Name cons nil" => (walk_at "exec For")
  k_with "exec For Name Call cons nil" => (walk_at "exec For")
  k_with "rowAt" => (with_reducible assumption)
  k_with "depth" => (first | exact dp1 (by with_reducible assumption) rfl | exact dp0 (by with_reducible assumption) rfl | exact dp2 (by with_reducible assumption) rfl | (simp only [depth_under_make, depth_under_kw, depth_in1, depth_deeper, depth_caller] at *; omega))
  k_with "exec If" => (first | k_dflt (k_extra "if") | ((with_reducible refine wpAny_If ?_); (try dsimp only)))
  k_with "exec If Compare cons nil" => (walk_at "exec If")
  k_with "exec If BoolOp cons nil" => (walk_at "exec If")
  k_with "exec If Call cons nil" => (walk_at "exec If")
  k_with "exec If UnaryOp cons nil" => (walk_at "exec If")
  k_with "exec If Compare cons cons" => (walk_at "exec If")
  k_with "exec If BoolOp cons cons" => (walk_at "exec If")
  k_with "eval Call" => (((fail_if_success (with_reducible show wpAny _ _ (eval (Expr.Call (Expr.Name (PySem.Str.ofString "range") _) _ _ _) _) _ _ _)); (with_reducible show wpAny _ _ (eval (Expr.Call (Expr.Name _ _) _ _ _) _) _ _ _); k_dflt (refine Call_ ?_)))
  k_with "eval Call Attribute" => ((k_dflt (refine MethodCall_ ?_)))
  k_with "handled" => (first | assumption | exact rfl)
  k_with "frames" => (first | exact rfl | (refine' frames_deeper ?r49zz; (case r49zz => assumption)))
  k_with "pyIter ref" => (((k_dflt (k_extra "loop")); (all_goals ((try ((try k_unmd); k_unfold; clear gG)); (try dsimp only); (try k_unmd); (try k_fold)))))
  k_with "call ref" => (k_dflt (k_extra "call"))
  k_with "sub" => (first | with_reducible assumption | with_reducible exact sub_refl | (with_reducible refine sub_cons ?_; k_extra "sub") | (with_reducible refine sub_app ?_; k_extra "sub"))
  k_with "call builtin:list.append" => ((k_dflt (refine' app_l ?r53zF ?r53zN ?r53zU ?r53zz ?_; (case r53zF => k_asm); (case r53zN => k_asm); (case r53zU => k_extra "upd"); (case r53zz => exact Nat.le_of_ble_eq_true rfl)); intro zq_h' zq_F' zq_N'; (try dsimp only [List.cons_append, List.nil_append] at zq_N'); (try k_sweep)))
  k_with "compareOp In ref ref" => ((k_dflt (first | (refine' in_ops0 ?r54zN ?r54zl ?r54zo ?r54zu ?_; (case r54zN => k_asm); (case r54zl => k_extra "mem"); (case r54zo => k_extra "opAt"); (case r54zu => k_extra "units")) | (refine' in_ops1 ?r54zN ?r54zl ?r54zv ?r54zo ?r54zu ?_; (case r54zN => k_asm); (case r54zl => k_extra "mem"); (case r54zv => k_extra "opAt"); (case r54zo => k_extra "opAt"); (case r54zu => k_extra "units")))))
  k_with "assign Tuple" => ((k_dflt (refine' unpackN_ ?r55zF ?r55zN ?r55zT ?r55zh ?r55z2 ?r55z3 ?_; (case r55zF => k_asm); (case r55zN => k_asm); (case r55zT => (refine' News.isTup ?r55zy1 ?r55zy2; (case r55zy1 => k_asm); (case r55zy2 => k_extra "mem"))); (case r55zh => k_extra "handled"); (case r55z2 => exact rfl); (case r55z3 => exact rfl)); intro zq_h' zq_F' zq_N'; (try k_sweep)))
  k_with "WPost" => ((first | (with_reducible refine WPost.retI ?_) | (with_reducible refine WPost.nextI ?_)))
  k_with "WhlIf" => (((first | (refine' WhlIf.yes ?r57zz ?_; (case r57zz => (refine decide_eq_true ?_; omega))) | (refine' WhlIf.no ?r57zz ?_; (case r57zz => (refine decide_eq_false ?_; omega)))); (try dsimp only); (try k_unmd); (try k_fold)))
  k_with "call builtin:len" => ((k_dflt (refine' len_l ?r58zN ?r58zm ?r58zz ?_; (case r58zN => k_asm); (case r58zm => k_extra "mem"); (case r58zz => first | exact Nat.le_of_ble_eq_true rfl | omega)); intro _ _))
  k_with "loadName" => (((with_reducible refine' ldnq ?r59zF ?r59zv ?r59zk ?r59zl ?_); (case r59zF => with_reducible assumption); (case r59zl => decide +kernel); (case r59zv => k_dflt (first | with_reducible assumption | exact @rfl _ (some _) | assumption)); (case r59zk => exact rfl)))
  k_with "kv" => (with_reducible first | exact kv_held | exact kv_temps | exact kv_given | exact kv_out | exact kv_count)
  k_with "stitem" => ((k_dflt (refine' st_item ?r61zN ?r61zm ?r61zd ?r61zv ?_ ?r61zh6; (case r61zN => k_asm); (case r61zm => k_extra "mem"); (case r61zd => with_reducible assumption); (case r61zv => k_extra "kv"); (case r61zh6 => with_unfolding_all rfl))))
  k_with "subscriptTail Name Constant ref str" => (k_extra "stitem")
  k_with "call type:range" => ((k_dflt (first | (refine' range1_rows ?r63zF ?r63zN ?_; (case r63zF => k_asm); (case r63zN => k_asm)) | (refine' range2_rows ?r63zF ?r63zN ?_; (case r63zF => k_asm); (case r63zN => k_asm))); intro zq_h' zq_tk' zq_t9 zq_u9 zq_w9 zq_R' zq_F' zq_N' zq_kp'; clear zq_kp'; (try k_sweep)))
  k_with "TurnPost" => ((with_reducible refine TurnPost.contI ?_))
  k_with "unpackItems ref" => ((k_dflt (refine' unpackItemsN_ ?r65zF ?r65zN ?r65zT ?r65zh ?r65z2 ?_; (case r65zF => k_asm); (case r65zN => k_asm); (case r65zT => (refine' News.isTup ?r65zy1 ?r65zy2; (case r65zy1 => k_asm); (case r65zy2 => k_extra "mem"))); (case r65zh => k_extra "handled"); (case r65z2 => exact rfl)); intro zq_h' zq_F' zq_N'; (try k_sweep)))
  k_with "storeName" => (((k_dflt (refine' store_let ?r66zF ?r66zN ?_ ?r66za ?r66zb; (case r66zF => k_asm); (case r66zN => k_asm); (case r66za => rfl); (case r66zb => rfl); k_whole)); (intro zq_mk zq_h' zq_F' zq_N'); (try k_sweep)))
  k_with "callWith" => (((with_reducible show wpAny _ _ (callWith _ (Value.builtin "list.append") _ _ _) _ _ _); (k_dflt (refine callWith_method1 ?_))))
  cases ho
  all_goals (
    refine wpAny_call ?_
    k_dflt (k_extra "my_enter")
    k_steps
    exact ret _ _ _ _ (by assumption) (by assumption) ⟨⟨_, rfl⟩, rfl⟩)
end
section
theorem drop_getL {α : Type} {l : List α} {i : Nat} {x : α} (h : l[i]? = some x) : l.drop i = x :: l.drop (i + 1) := by
  obtain ⟨hi, rfl⟩ := List.getElem?_eq_some_iff.mp h
  exact List.drop_eq_getElem_cons hi
inductive Dd where
  | dot | r | w | u
  deriving DecidableEq
noncomputable def Dd.str : Dd → PySem.Str
  | .dot => PySem.Str.ofString "."
  | .r => PySem.Str.ofString "r"
  | .w => PySem.Str.ofString "w"
  | .u => PySem.Str.ofString "u"
noncomputable def Kd.dl : Kd → List Dd
  | .getVar => [.w, .r]
  | .getVal => [.r, .r]
  | .getStr => [.dot, .r]
  | .uniVar => [.w]
  | .putVal => [.r, .w]
  | .putVar => [.w, .w]
  | .putList => [.w]
  | .setLoc => [.u]
  | .setVar => [.w]
  | .putCon => [.dot, .w]
  | .putStr => [.dot, .w]
  | .putVoid => [.w]
  | .call => [.dot, .dot]
theorem dl_len (k : Kd) : k.dl.length = k.ar := by cases k <;> rfl
theorem deeds_len (k : Kd) : k.deeds.length = k.ar := by cases k <;> decide +kernel
theorem deeds_item {k : Kd} {i : Nat} {d : Dd} (h : k.dl[i]? = some d) : Txt.item k.deeds (i : Int) = d.str := by
  cases k <;> rcases i with _ | _ | i <;> simp [Kd.dl] at h <;> subst h <;> decide +kernel
/-- the pairs of parts that the law meets -/
inductive SpotP : Dd → Pt → Pt → Prop
  | dot (n m : Int) : SpotP .dot (.int n) (.int m)
  | ry (k : Int) (q : Op) : SpotP .r (.op (.y k)) (.op q)
  | rt (k j : Int) : SpotP .r (.op (.t k)) (.op (.x j))
  | ra (k j : Int) : SpotP .r (.op (.a k)) (.op (.x j))
  | wt (k j : Int) : SpotP .w (.op (.t k)) (.op (.x j))
  | wa (k j : Int) : SpotP .w (.op (.a k)) (.op (.x j))
  | rty (k q : Int) : SpotP .r (.op (.t k)) (.op (.y q))
  | ut (k j : Int) : SpotP .u (.op (.t k)) (.op (.x j))
theorem spot_r {r s : Row} (h : Mt r s) {i : Nat} (hi : i < r.k.ar) : ∃ d p q, r.k.dl[i]? = some d ∧ r.ps[i]? = some p ∧ s.ps[i]? = some q ∧ SpotP d p q := by
  rcases i with _ | _ | i
  · cases h <;> exact ⟨_, _, _, rfl, rfl, rfl, by constructor⟩
  · cases h <;> first | exact ⟨_, _, _, rfl, rfl, rfl, by constructor⟩ | exact absurd hi (Nat.lt_irrefl 1)
  · rcases ar_or r.k with e | e <;> rw [e] at hi <;> omega
theorem spot_of {k : Kd} {ps qs : List Pt} (hw : WA ⟨k, ps⟩) (hw' : WR ⟨k, qs⟩) {i : Nat} (hi : i < k.ar) : ∃ d p q, k.dl[i]? = some d ∧ ps[i]? = some p ∧ qs[i]? = some q ∧ SpotP d p q :=
  spot_r (mt_of hw hw' rfl) hi
noncomputable def lHeld (st : LS) (j : Int) : PySem.Str := (lk st.held j).getD (PySem.Str.ofString "empty")
noncomputable def rOne (st : LS) : Dd → Pt → Pt → Option (List Int)
  | .dot, p, q => if p = q then some [] else none
  | _, .op (.y k), q => if .op (.y k) = q then some [] else none
  | .w, .op (.t _), .op (.x j) => some [j]
  | .w, .op (.a k), .op (.x j) => if j = k then some [j] else none
  | _, .op (.t k), .op (.x j) => if lHeld st j = label st (.t k) then some [] else none
  | _, .op (.a k), .op (.x j) => if j = k then (if lHeld st j = label st (.a k) then some [] else none) else none
  | _, _, _ => none
noncomputable def rGo (st : LS) : List (Dd × Pt × Pt) → List Int → Option (List Int)
  | [], wr => some wr
  | (d, p, q) :: rest, wr => match rOne st d p q with
    | none => none
    | some l => rGo st rest (wr ++ l)
noncomputable def spots (r s : Row) : List (Dd × Pt × Pt) := r.k.dl.zip (r.ps.zip s.ps)
noncomputable def outsOk (st : LS) : Bool := st.out.all fun q => decide (lHeld st q.1 = q.2)
noncomputable def distB : List Int → Bool
  | [i, j] => decide (i ≠ j)
  | _ => true
noncomputable def rightB (st : LS) (r s : Row) : Bool := match rGo st (spots r s) [] with
  | none => false
  | some wr => distB wr && (if r.k = .call then outsOk st else true)
theorem zip_get {α β : Type} {l : List α} {r : List β} {i : Nat} {a : α} {b : β} (h : l[i]? = some a) (h' : r[i]? = some b) : (l.zip r)[i]? = some (a, b) := by
  rw [List.zip, List.getElem?_zipWith, h, h']
/-- ints in a list of the ledger -/
noncomputable def IntsOf (vals : List Value) (ns : List Int) : Prop := All2 (fun v (z : Int) => ∃ t, v = .int z t) vals ns
section
variable {w : World} {A : Around} {E : Value → Shared → Prop} {s : Shared} {h₀ : Heap} {L d : Addr} {m : PySem.Str → Option Value} {news : List (Addr × Obj)} {o : Obj} {tk u : Tok} {value slice : PySem.Expr} {Q : Value → Shared → Prop}
theorem dd_item {k : Kd} {i : Nat} {dd : Dd} {prog : Program} (hd : k.dl[i]? = some dd) (h : ∀ t, Q (.str dd.str t) { s with toks := s.toks + 1 })
    (hs : subscripted slice false (.str k.deeds tk) (.int (i : Int) u) = operate [.str k.deeds tk, .int (i : Int) u] (getItem (.str k.deeds tk) (.int (i : Int) u)) := by with_unfolding_all rfl)
    (ht : ∀ r, letTemporaryGo value (.str k.deeds tk) r = pure () := by intro _; with_unfolding_all rfl) :
    wpAny (model prog w) A (subscriptTail value slice (.str k.deeds tk) (.int (i : Int) u)) Q E s := by
  have hi : i < k.ar := by
    obtain ⟨hi, _⟩ := List.getElem?_eq_some_iff.mp hd
    rwa [dl_len] at hi
  have h2 : i < 2 := by rcases ar_or k with e | e <;> omega
  refine item_str (fitsSsize_of (N := 9223372036854775808) (by omega) (by omega) (Int.le_refl _)) (by rw [deeds_len]; omega) (by rw [deeds_len]; omega) (fun _ => ?_) hs ht
  rw [deeds_item hd]
  exact h _
theorem len_d {prog : Program} {k : Kd} (h : ∀ t tk, Q (.int (k.ar : Int) t) { s with toks := tk }) : wpAny (model prog w) A (call (.builtin "len") [.str k.deeds tk]) Q E s := by
  refine PyProof.Rows.len_str (by rw [deeds_len]; rcases ar_or k with e | e <;> rw [e] <;> decide) ?_
  rw [deeds_len]
  exact h _ _
theorem len_t {prog : Program} {l : Addr} {vs : List Value} {n n' : Nat} (N : News h₀ L s.heap news) (hm : (l, tupOf vs.toArray n) ∈ news) (hn : vs.length = n') (hz : n' ≤ 1000) (h : ∀ t tk, Q (.int (n' : Int) t) { s with toks := tk }) : wpAny (model prog w) A (call (.builtin "len") [.ref l]) Q E s := by
  subst hn
  exact len_tuple (News.isTup N hm) (by simp; omega) (by simpa using h _ _)
end
section
variable {w : World} {A : Around} {E : Value → Shared → Prop} {s : Shared} {env : Env} {h₀ : Heap} {x : PySem.Str} {body : List Stmt} {Q : Flow → Shared → Prop}
theorem dks_iter {d : Addr} {o : Obj} {al : List (Int × PySem.Str)} {m₀ : PySem.Str → Option Value} {news : List (Addr × Obj)} (J : Nat → (PySem.Str → Option Value) → List (Addr × Obj) → Prop)
    (hh : A.handled = none) (hl : (d, o) ∈ news) (hD : DS w o al) (lo : (d == sysModules) = false) (F : Fr h₀ env.locals s.heap m₀) (N : News h₀ env.locals s.heap news) (hj : J 0 m₀ news)
    (turn : ∀ i k v t m₁ news₁ h tk own, al[i]? = some (k, v) → OwnOff own (news₁.map (·.1)) → (d, o) ∈ news₁ → J i m₁ news₁ → Fr h₀ env.locals h (fun y => if y = x then some (.int k t) else m₁ y) → News h₀ env.locals h (news₁ ++ own) →
      wpAny (model PR w) A (execs body env) (TurnPost h₀ env.locals (fun m' nx => (d, o) ∈ nx ∧ J (i + 1) m' nx) own { s with heap := h, toks := tk } Q) E { s with heap := h, toks := tk })
    (done : ∀ m₁ news₁ h tk, J al.length m₁ news₁ → Fr h₀ env.locals h m₁ → News h₀ env.locals h news₁ → Q .next { s with heap := h, toks := tk }) :
    wpAny (model PR w) A (pyIter (.ref d)) (fun it s₂ => LoopAtV PR w A h₀ env x body Q E it s₂) E s := by
  have hol : s.heap.get? d = some o := (N _ hl).1
  obtain ⟨kvs, hD, ha⟩ := hD
  obtain ⟨es, ep, c1, c2, c3, c4, c5⟩ := id hD
  have hA : s.heap.DictAt (PySem.intKind PR w) d kvs ep := ⟨o, es, hol, c1, c2, c3, c4, c5⟩
  have hne : d ≠ s.heap.objs.size := Nat.ne_of_lt (Heap.lt_size hol)
  refine wpAny_pyIter_dict lo hA ?_
  have W := Walks.dictKeys (prog := PR) (w := w) (knd := PySem.intKind PR w) hh s.heap.objs.size d hne kvs ep
  have hlen : kvs.length = al.length := all2_length ha
  refine ⟨_, _, _, kvs.length, _, _, m₀, news, (fun i m nx => (d, o) ∈ nx ∧ J i m nx), rfl, W, ?_, ?_, ?_, ⟨⟨_, Heap.get?_push_size _ rfl, rfl, rfl⟩, hA.keep fun b o e => Heap.get?_push_of_some _ e⟩, F.push _, (fun p hp => ⟨Heap.get?_push_of_some _ (N p hp).1, (N p hp).2⟩), ⟨hl, hj⟩, ?_, ?_⟩
  · intro hm
    rcases List.mem_cons.mp hm with e | hm
    · exact absurd F.ns.lt (e ▸ Nat.lt_irrefl _)
    · exact (N _ hl).2.1 ((List.mem_singleton.mp hm).symm)
  · intro b hb
    rw [List.mem_singleton.mp hb]
    exact next_is_new F
  · intro p hp hI
    exact absurd (Heap.lt_size (N p hp).1) ((List.mem_singleton.mp hI) ▸ Nat.lt_irrefl _)
  · rintro i v m₁ news₁ s₁ own ⟨hh', tk', rfl⟩ hin hP hlJ hoff hown hget hfp hst F₁ N₁
    (show (let gG : Prop := _; gG)); intro gG; obtain ⟨hl₁, hJ⟩ := hlJ
    obtain ⟨k, xv, hkx, hkey⟩ := hP
    obtain ⟨⟨k', a⟩, hka, hke, -⟩ := all2_get ha hkx
    dsimp only at hke
    subst hke
    obtain ⟨t, rfl⟩ := Value.isInt_shape hkey
    have hI0 : h₀.get? s.heap.objs.size = none := next_is_new F
    obtain ⟨⟨oI, hoI, _⟩, _⟩ := id hst
    have hIown : (s.heap.objs.size, oI) ∈ own.filter fun p => decide (p.1 = s.heap.objs.size) := List.mem_filter.mpr ⟨hfp _ (List.mem_cons.mpr (.inl rfl)) hI0 _ hoI, by simp⟩
    have hsep : OwnOff (own.filter fun p => decide (p.1 = s.heap.objs.size)) (news₁.map (·.1)) := by
      intro p hp b hb e
      obtain ⟨q, hq, rfl⟩ := List.mem_map.mp hb
      have h1 : p.1 = s.heap.objs.size := by simpa using (List.mem_filter.mp hp).2
      exact hoff q hq (List.mem_singleton.mpr (e ▸ h1))
    have N₂ : News h₀ env.locals hh' (news₁ ++ own.filter fun p => decide (p.1 = s.heap.objs.size)) := fun p hp => N₁ p ((List.mem_append.mp hp).elim (fun h => List.mem_append.mpr (.inr h)) fun h => List.mem_append.mpr (.inl ((List.mem_filter.mp h).1)))
    have hlo : hh'.get? d = some o := (N₁ _ (List.mem_append.mpr (.inr hl₁))).1
    (try k_unmd); k_unfold; clear gG
    refine wpAny_mono (turn i k a t m₁ news₁ hh' tk' _ hka hsep hl₁ hJ F₁ N₂) (fun f s₂ p => ?_) fun _ _ e => e
    replace p := p.inv
    have fin : InvEndG h₀ env.locals (fun m' nx => (d, o) ∈ nx ∧ J (i + 1) m' nx) (own.filter fun p => decide (p.1 = s.heap.objs.size)) { s with heap := hh', toks := tk' } s₂ →
        LoopStepU h₀ env.locals [s.heap.objs.size] own (fun m nx => (d, o) ∈ nx ∧ J (i + 1) m nx) { s with heap := hh', toks := tk' } .next s₂ := by
      rintro ⟨h', tk, m', news', nx, e, F', N', hn, ho, ha, hm⟩
      refine ⟨rfl, h', tk, m', nx, e, F', fun p hp => ?_, fun p hp hq => ?_, hm⟩
      · rcases List.mem_append.mp hp with h | h
        · by_cases hI : p.1 = s.heap.objs.size
          · exact N' p (ho p (List.mem_filter.mpr ⟨h, by simpa using hI⟩))
          · have h1 : p.1 = d := by
              rcases List.mem_cons.mp (hown p h) with h2 | h2
              · exact absurd h2 hI
              · exact List.mem_singleton.mp h2
            have h2 : hh'.get? p.1 = some p.2 := hget p h
            rw [h1, hlo] at h2
            have h3 : p = (d, o) := Prod.ext h1 (Option.some.inj h2).symm
            rw [h3]
            exact N' _ (hn _ hm.1)
        · exact N' p (hn p h)
      · exact ha _ hIown p.1 (List.mem_map.mpr ⟨p, hp, rfl⟩) (List.mem_singleton.mp hq).symm
    cases f with
    | ret v => exact .ret p
    | brk => exact .brk p
    | next => exact .next (fin p)
    | cont => exact .cont (fin p)
  · rintro h' tk m' news' F' N' _ ⟨_, hJ⟩
    rw [hlen] at hJ
    exact done m' news' h' tk hJ F' N'
end
theorem DS.nodup {w : World} {o : Obj} {al : List (Int × PySem.Str)} (h : DS w o al) : (al.map (·.1)).Nodup := by
  obtain ⟨kvs, ⟨es, ep, _, _, _, _, hn⟩, ha⟩ := h
  rw [← all2_keys (V := fun v a => ∃ t, v = .str a t) ha]; exact hn

theorem op_inv {news : List (Addr × Obj)} {v : Value} {o : Op} (h : OpAt news v o) : ∃ a t1 t2 n, v = .ref a ∧ (a, tupOf #[.str o.tag t1, .int o.num t2] n) ∈ news := by
  cases h <;> exact ⟨_, _, _, _, rfl, by assumption⟩
theorem all2_getL {β γ : Type} {R : β → γ → Prop} {as : List β} {bs : List γ} (h : All2 R as bs) {i : Nat} {b : γ} (e : bs[i]? = some b) : ∃ a, as[i]? = some a ∧ R a b := by
  have hi : i < as.length := by rw [all2_length h]; exact (List.getElem?_eq_some_iff.mp e).1
  obtain ⟨b', e', r⟩ := all2_get h (List.getElem?_eq_getElem hi)
  rw [e] at e'
  cases e'
  exact ⟨_, List.getElem?_eq_getElem hi, r⟩
theorem rGo_step {st : LS} {k : Kd} {ps qs : List Pt} {i : Nat} {d : Dd} {p q : Pt} {wr : List Int} {z : Option (List Int)} (hd : k.dl[i]? = some d) (hp : ps[i]? = some p) (hq : qs[i]? = some q)
    (h : rGo st ((spots ⟨k, ps⟩ ⟨k, qs⟩).drop i) wr = z) : (match rOne st d p q with | none => none | some l => rGo st ((spots ⟨k, ps⟩ ⟨k, qs⟩).drop (i + 1)) (wr ++ l)) = z := by
  have e : (spots ⟨k, ps⟩ ⟨k, qs⟩)[i]? = some (d, p, q) := zip_get hd (zip_get hp hq)
  rw [drop_getL e] at h
  exact h
theorem rGo_no {st : LS} {k : Kd} {ps qs : List Pt} {i : Nat} {d : Dd} {p q : Pt} {wr : List Int} (hd : k.dl[i]? = some d) (hp : ps[i]? = some p) (hq : qs[i]? = some q)
    (h : rGo st ((spots ⟨k, ps⟩ ⟨k, qs⟩).drop i) wr = rGo st (spots ⟨k, ps⟩ ⟨k, qs⟩) []) (hz : rOne st d p q = none) : rightB st ⟨k, ps⟩ ⟨k, qs⟩ = false := by
  have := rGo_step hd hp hq h
  rw [hz] at this
  unfold rightB
  rw [← this]
theorem rGo_yes {st : LS} {k : Kd} {ps qs : List Pt} {i : Nat} {d : Dd} {p q : Pt} {wr l : List Int} (hd : k.dl[i]? = some d) (hp : ps[i]? = some p) (hq : qs[i]? = some q)
    (h : rGo st ((spots ⟨k, ps⟩ ⟨k, qs⟩).drop i) wr = rGo st (spots ⟨k, ps⟩ ⟨k, qs⟩) []) (hz : rOne st d p q = some l) : rGo st ((spots ⟨k, ps⟩ ⟨k, qs⟩).drop (i + 1)) (wr ++ l) = rGo st (spots ⟨k, ps⟩ ⟨k, qs⟩) [] := by
  have := rGo_step hd hp hq h
  rw [hz] at this
  exact this

theorem ints3 {vals : List Value} {wr : List Int} (h : IntsOf vals wr) (hl : wr.length ≤ 2) : (vals = [] ∧ wr = []) ∨ (∃ x t, vals = [.int x t] ∧ wr = [x]) ∨ (∃ x y t u, vals = [.int x t, .int y u] ∧ wr = [x, y]) := by
  cases h with
  | nil => exact .inl ⟨rfl, rfl⟩
  | cons h1 h2 =>
    obtain ⟨t, rfl⟩ := h1
    cases h2 with
    | nil => exact .inr (.inl ⟨_, _, rfl, rfl⟩)
    | cons h3 h4 =>
      obtain ⟨u, rfl⟩ := h3
      cases h4 with
      | nil => exact .inr (.inr ⟨_, _, _, _, rfl, rfl⟩)
      | cons _ _ => simp at hl
theorem right_end {st : LS} {k : Kd} {ps qs : List Pt} {wr : List Int} (hw : WA ⟨k, ps⟩) (h : rGo st ((spots ⟨k, ps⟩ ⟨k, qs⟩).drop k.ar) wr = rGo st (spots ⟨k, ps⟩ ⟨k, qs⟩) []) :
    rightB st ⟨k, ps⟩ ⟨k, qs⟩ = (distB wr && (if k = .call then outsOk st else true)) := by
  rw [List.drop_eq_nil_of_le (by unfold spots; simp only [List.length_zip, dl_len]; omega)] at h
  have h' : rGo st (spots ⟨k, ps⟩ ⟨k, qs⟩) [] = some wr := h.symm
  unfold rightB
  split
  · next e => rw [h'] at e; cases e
  · next wr' e => rw [h'] at e; cases e; rfl
theorem outs_no {st : LS} {k : Int} {v : PySem.Str} (hm : (k, v) ∈ st.out) (h : lHeld st k ≠ v) : outsOk st = false := by
  unfold outsOk
  rw [List.all_eq_false]
  exact ⟨(k, v), hm, by simpa using h⟩
theorem outs_yes {st : LS} (h : ∀ q ∈ st.out, lHeld st q.1 = q.2) : outsOk st = true := by
  unfold outsOk
  rw [List.all_eq_true]
  exact fun q hq => decide_eq_true (h q hq)
theorem range_ar {k : Kd} : Builtin.Range.small 0 (k.ar : Int) 1 = true ∧ Builtin.Range.rangeSize 0 (k.ar : Int) 1 = (k.ar : Int) := by
  rcases ar_or k with e | e <;> rw [e] <;> exact ⟨by decide, by decide⟩

theorem sub_tupS {A : Around} {E : Value → Shared → Prop} {s : Shared} {h₀ : Heap} {L d : Addr} {news : List (Addr × Obj)} {w : World} {l : List Value} {n i : Nat} {u : Tok} {x : Value} {prog : Program} {value slice : PySem.Expr} {Q : Value → Shared → Prop} (N : News h₀ L s.heap news) (hp : (d, tupOf l.toArray n) ∈ news)
    (hj : i < 900) (hx : l[i + 1]? = some x) (h : Q x s)
    (hs : subscripted slice false (.ref d) (.int ((i : Int) + 1) u) = operate [.ref d, .int ((i : Int) + 1) u] (getItem (.ref d) (.int ((i : Int) + 1) u)) := by with_unfolding_all rfl) :
    wpAny (model prog w) A (subscriptTail value slice (.ref d) (.int ((i : Int) + 1) u)) Q E s := sub_tup (j := i + 1) N hp rfl (by omega) hx h hs
end
section
theorem call_of {k : Kd} (h : (k.name == PySem.Str.ofString "call") = true) : k = .call := by
  have := Kd.name_beq k .call
  rw [show Kd.call.name = PySem.Str.ofString "call" from rfl, h] at this
  exact of_decide_eq_true this.symm
theorem ncall_of {k : Kd} (h : (k.name == PySem.Str.ofString "call") = false) : k ≠ .call := by
  have := Kd.name_beq k .call
  rw [show Kd.call.name = PySem.Str.ofString "call" from rfl, h] at this
  exact of_decide_eq_false this.symm
section
variable {st : LS} {y1 y2 : Int} {q : Op}
theorem r_dot0 (h : y1 ≠ y2) : rOne st .dot (.int y1) (.int y2) = none := if_neg fun e => h (Pt.int.inj e)
theorem r_dot1 (h : y1 = y2) : rOne st .dot (.int y1) (.int y2) = some [] := if_pos (congrArg Pt.int h)
theorem r_y0 (h : ¬ Op.y y1 = q) : rOne st .r (.op (.y y1)) (.op q) = none := if_neg fun e => h (Pt.op.inj e)
theorem r_y1 (h : Op.y y1 = q) : rOne st .r (.op (.y y1)) (.op q) = some [] := if_pos (congrArg Pt.op h)
theorem r_t0 (h : ((lk st.held y2).getD (PySem.Str.ofString "empty") != label st (.t y1)) = true) : rOne st .r (.op (.t y1)) (.op (.x y2)) = none := if_neg (by unfold lHeld; simpa using h)
theorem r_t1 (h : ((lk st.held y2).getD (PySem.Str.ofString "empty") != label st (.t y1)) = false) : rOne st .r (.op (.t y1)) (.op (.x y2)) = some [] := if_pos (by unfold lHeld; simpa using h)
theorem r_u0 (h : ((lk st.held y2).getD (PySem.Str.ofString "empty") != label st (.t y1)) = true) : rOne st .u (.op (.t y1)) (.op (.x y2)) = none := if_neg (by unfold lHeld; simpa using h)
theorem r_u1 (h : ((lk st.held y2).getD (PySem.Str.ofString "empty") != label st (.t y1)) = false) : rOne st .u (.op (.t y1)) (.op (.x y2)) = some [] := if_pos (by unfold lHeld; simpa using h)
theorem r_ty : rOne st .r (.op (.t y1)) (.op (.y y2)) = none := rfl
theorem r_an (h : y2 ≠ y1) : rOne st .r (.op (.a y1)) (.op (.x y2)) = none := if_neg h
theorem r_a0 (e : y2 = y1) (h : ((lk st.held y2).getD (PySem.Str.ofString "empty") != label st (.a y1)) = true) : rOne st .r (.op (.a y1)) (.op (.x y2)) = none := (if_pos e).trans (if_neg (by unfold lHeld; simpa using h))
theorem r_a1 (e : y2 = y1) (h : ((lk st.held y2).getD (PySem.Str.ofString "empty") != label st (.a y1)) = false) : rOne st .r (.op (.a y1)) (.op (.x y2)) = some [] := (if_pos e).trans (if_pos (by unfold lHeld; simpa using h))
theorem w_t : rOne st .w (.op (.t y1)) (.op (.x y2)) = some [y2] := rfl
theorem w_an (h : y2 ≠ y1) : rOne st .w (.op (.a y1)) (.op (.x y2)) = none := if_neg h
theorem w_a1 (e : y2 = y1) : rOne st .w (.op (.a y1)) (.op (.x y2)) = some [y2] := if_pos e
end
theorem rGo_yes0 {st : LS} {k : Kd} {ps qs : List Pt} {i : Nat} {d : Dd} {p q : Pt} {wr : List Int} (hd : k.dl[i]? = some d) (hp : ps[i]? = some p) (hq : qs[i]? = some q)
    (h : rGo st ((spots ⟨k, ps⟩ ⟨k, qs⟩).drop i) wr = rGo st (spots ⟨k, ps⟩ ⟨k, qs⟩) []) (hz : rOne st d p q = some []) : rGo st ((spots ⟨k, ps⟩ ⟨k, qs⟩).drop (i + 1)) wr = rGo st (spots ⟨k, ps⟩ ⟨k, qs⟩) [] := by
  have := rGo_yes hd hp hq h hz
  rwa [List.append_nil] at this
theorem sub_cons2 {x : Addr × Obj} {l l' : List (Addr × Obj)} (h : ∀ p ∈ l, p ∈ l') : ∀ p ∈ x :: l, p ∈ x :: l' := fun p hp => (List.mem_cons.mp hp).elim (fun e => e ▸ .head _) fun hp => .tail _ (h p hp)
theorem sub_own {l own : List (Addr × Obj)} : ∀ p ∈ own, p ∈ l ++ own := fun _ hp => List.mem_append_right _ hp
theorem right_yes {st : LS} {k : Kd} {r s : Row} {wr : List Int} (h : rightB st r s = (distB wr && (if k = .call then outsOk st else true))) (hw : distB wr = true)
    (hc : (k.name == PySem.Str.ofString "call") = true → outsOk st = true) : rightB st r s = true := by
  rw [h, hw, Bool.true_and]
  split
  · next e => subst e; exact hc (by decide +kernel)
  · rfl
theorem right_yesN {st : LS} {k : Kd} {r s : Row} {wr : List Int} (h : rightB st r s = (distB wr && (if k = .call then outsOk st else true))) (hw : distB wr = true)
    (hc : (k.name == PySem.Str.ofString "call") = false) : rightB st r s = true := by
  rw [h, hw, if_neg (ncall_of hc)]; rfl
theorem outs_nob {st : LS} {k : Int} {v : PySem.Str} (hm : (k, v) ∈ st.out) (h : ((lk st.held k).getD (PySem.Str.ofString "empty") != v) = true) : outsOk st = false := outs_no hm (by unfold lHeld; simpa using h)
theorem lHeld_of {st : LS} {k : Int} {v : PySem.Str} (h : ((lk st.held k).getD (PySem.Str.ofString "empty") != v) = false) : lHeld st k = v := by unfold lHeld; simpa using h
theorem right_no {st : LS} {k : Kd} {r s : Row} {wr : List Int} (h : rightB st r s = (distB wr && (if k = .call then outsOk st else true)))
    (hc : (k.name == PySem.Str.ofString "call") = true) (ho : outsOk st = false) : rightB st r s = false := by
  rw [h, if_pos (call_of hc), ho, Bool.and_false]
theorem right_dn {st : LS} {b : Bool} {r s : Row} {i j : Int} (h : rightB st r s = (distB [i, j] && b)) (e : i = j) : rightB st r s = false := by
  rw [h]; subst e; simp [distB]
theorem ite_l0 {P Q : Prop} (h : Q) : if ((((([] : List Value).length : Nat) : Int) == 2) = true) then P else Q := by rw [if_neg (by decide)]; exact h
theorem ite_l1 {v : Value} {P Q : Prop} (h : Q) : if (((([v] : List Value).length : Nat) : Int) == 2) = true then P else Q := by rw [if_neg (by simp)]; exact h
theorem ite_l2 {u v : Value} {P Q : Prop} (h : P) : if (((([u, v] : List Value).length : Nat) : Int) == 2) = true then P else Q := by rw [if_pos (by simp)]; exact h
theorem lt_ne {a b : Addr} {P : Prop} (h : a < b ∧ P) : b ≠ a := Nat.ne_of_gt h.1
set_option maxRecDepth 100000 in
set_option maxHeartbeats 0 in
theorem right_ct (c : Cx) {a : LA} {st : LS} {iv rv : Value} {k : Kd} {ps qs : List Pt} {news : List (Addr × Obj)} (hS : LkS c.w a st) (hsub : ∀ p ∈ a.fp, p ∈ news) (hr : RowAt news iv ⟨k, ps⟩) (hs : RowAt news rv ⟨k, qs⟩) (hw : WA ⟨k, ps⟩) (hw' : WR ⟨k, qs⟩) :
    Ct c 182 6 200 [.ref a.S, iv, rv] news (fun v news' => v = .bool (rightB st ⟨k, ps⟩ ⟨k, qs⟩) ∧ news' = news) := by
  unfold Ct PR
  k_fill
  intro A env outer A₀ base h₀ L m s Q E hh hA hf hke hd hu B F X N T ret
  obtain ⟨m1, m2, m3, m4, m5⟩ := LA.mems hsub
  cases hr with
  | @mk ia tka n _ vs _ hi hv =>
  cases hs with
  | @mk ra tkb n' _ ws _ hrr hq =>
  have hl1 : vs.length = k.ar := (all2_length hv).trans (wa_len hw)
  have hl2 : ws.length = k.ar := (all2_length hq).trans (wr_len hw')
  have hlen1 : (Value.str k.name tka :: vs).length = k.ar + 1 := by simp [hl1]
  have hlen2 : (Value.str k.name tkb :: ws).length = k.ar + 1 := by simp [hl2]
  have har := ar_or k
  obtain ⟨S, H, TT, G, O, oS, oH, oT, oG, oO, tn⟩ := a
  have hS0 := hS
  obtain ⟨dS, dH, dT, dG, dO, loS, loH, loT, loG, loO, n1, n2, n3, n4, n5, n6, n7, n8, n9, n10⟩ := hS
  clear n1 n2 n3 n4 n5 n6 n7 n8 n9 n10
  dsimp only at m1 m2 m3 m4 m5 dS dH dT dG dO loS loH loT loG loO ⊢
  have hbn : (k.name != k.name) = false := by simp
  have hbl : (((k.ar + 1 : Nat) : Int) != ((k.ar + 1 : Nat) : Int)) = false := by simp
  k_with_none
  k_with "mem" => (first | with_reducible assumption | with_reducible exact List.mem_cons_self | (with_reducible refine List.mem_cons_of_mem _ ?_; k_extra "mem") | (with_reducible refine List.mem_append_left _ ?_; k_extra "mem") | (with_reducible refine List.mem_append_right _ ?_; k_extra "mem"))
  k_with "my_enter" => ((refine' code_def ?r2zk1 ?r2zk2 ?r2zk3 ?r2zk4 ?r2zk5 ?r2zkA ?r2zkF ?r2zkK ?r2zk6 ?r2zk7 ?r2zk8 ?r2zk9 ?r2zkB ?_ ?r2zc2 ?r2zc3 ?r2zc4 ?r2zc5; (case r2zkA => assumption); (case r2zkF => assumption); (case r2zkK => assumption); (case r2zk1 => k_asm); (case r2zk2 => k_asm); (case r2zk3 => k_asm); (case r2zk4 => k_asm); (case r2zk5 => k_asm); (case r2zk6 => k_is); (case r2zk7 => k_is); (case r2zk8 => omega); (case r2zk9 => exact BindsTo.of_eq rfl); (case r2zc5 => decide); (case r2zkB => exact locs rfl); (case r2zc2 => exact rfl); (case r2zc3 => exact rfl); (case r2zc4 => exact rfl); k_whole; intro zq_g' zq_L' zq_h' zq_FG' zq_F' zq_N' zq_B' zq_X' zq_T'; (try dsimp only); (try k_fold)))
  k_with "mysub" => (((with_reducible show wpAny _ _ (subscriptTail _ _ (Value.ref _) (Value.int _ _)) _ _ _); (with_unfolding_all first | (refine' sub_tup ?r3zN ?r3zm ?r3zi ?r3zj ?r3zx ?_ ?r3zh6; (case r3zN => k_asm); (case r3zm => k_extra "mem"); (case r3zi => exact rfl); (case r3zj => decide); (case r3zx => exact rfl); (case r3zh6 => rfl); k_whole) | (refine' sub_list ?r3zN ?r3zm ?r3zi ?r3zj ?r3zx ?_ ?r3zh6; (case r3zN => k_asm); (case r3zm => k_extra "mem"); (case r3zi => exact rfl); (case r3zj => omega); (case r3zx => assumption); (case r3zh6 => rfl); k_whole) | (refine' sub_list ?r3zN ?r3zm ?r3zi ?r3zj ?r3zx ?_ ?r3zh6; (case r3zN => k_asm); (case r3zm => k_extra "mem"); (case r3zi => exact rfl); (case r3zj => decide); (case r3zx => exact rfl); (case r3zh6 => rfl); k_whole) | (refine' di_item ?r3zN ?r3zm ?r3zd ?r3zv ?_ ?r3zh6; (case r3zN => k_asm); (case r3zm => k_extra "mem"); (case r3zd => with_reducible assumption); (case r3zv => with_reducible assumption); (case r3zh6 => rfl); k_whole; intro _) | (refine' ds_item ?r3zN ?r3zm ?r3zd ?r3zv ?_ ?r3zh6; (case r3zN => k_asm); (case r3zm => k_extra "mem"); (case r3zd => with_reducible assumption); (case r3zv => with_reducible assumption); (case r3zh6 => rfl); k_whole; intro _))))
  k_with "subscriptTail" => (k_extra "mysub")
  k_with "subscriptTail Name Constant ref int" => (k_extra "mysub")
  k_with "subscriptTail Name Name ref int" => (k_extra "mysub")
  k_with "subscriptTail Attribute Name Subscript Name Constant ref int" => (k_extra "mysub")
  k_with "getMethod ref" => (((with_reducible show wpAny _ _ (getMethod (Value.ref _) (PySem.Str.ofString "get") _) _ _ _); k_dflt (first | (refine' di_method ?r8zN ?r8zm ?r8zd ?_; (case r8zN => k_asm); (case r8zm => k_extra "mem"); (case r8zd => with_reducible assumption)) | (refine' ds_method ?r8zN ?r8zm ?r8zd ?_; (case r8zN => k_asm); (case r8zm => k_extra "mem"); (case r8zd => with_reducible assumption)))))
  k_with "call builtin:dict.get" => ((k_dflt (first | (refine' di_get ?r9zN ?r9zm ?r9zd ?r9zlo ?_; (case r9zN => k_asm); (case r9zm => k_extra "mem"); (case r9zd => with_reducible assumption); (case r9zlo => with_reducible assumption)) | (refine' ds_get ?r9zN ?r9zm ?r9zd ?r9zlo ?_; (case r9zN => k_asm); (case r9zm => k_extra "mem"); (case r9zd => with_reducible assumption); (case r9zlo => with_reducible assumption))); intro _))
  k_with "compareOp NotIn int ref" => ((k_dflt (refine' di_notin2 ?r10zN ?r10zm ?r10zd ?r10zlo ?_ ?_; (case r10zN => k_asm); (case r10zm => k_extra "mem"); (case r10zd => with_reducible assumption); (case r10zlo => with_reducible assumption)); intros))
  k_with "ite" => (with_reducible first | refine ite_t ?_ | refine ite_f ?_ | (refine' ite_bt ?r11zh ?_; (case r11zh => assumption)) | (refine' ite_bf ?r11zh ?_; (case r11zh => assumption)))
  k_with "opAt" => (first | with_reducible assumption | (refine' OpAt.mono ?r12zs ?r12zh; (case r12zh => with_reducible assumption); (case r12zs => k_extra "sub")) | (refine' OpAt.t ?r12zq; (case r12zq => k_extra "mem")) | (refine' OpAt.a ?r12zq; (case r12zq => k_extra "mem")) | (refine' OpAt.y ?r12zq; (case r12zq => k_extra "mem")) | (refine' OpAt.x ?r12zq; (case r12zq => k_extra "mem")))
  k_with "units" => (first | exact un1 (by with_reducible assumption) rfl | exact un0 (by with_reducible assumption) rfl | exact un2 (by with_reducible assumption) rfl | (simp only [units_in1, units_deeper, Around.mark_units, units_caller] at *; omega))
  k_with "compareOp Eq ref ref" => ((k_dflt (refine' op_eq ?r14zN ?r14za ?r14zb ?r14zu ?_; (case r14zN => k_asm); (case r14za => k_extra "opAt"); (case r14zb => k_extra "opAt"); (case r14zu => k_extra "units"); k_whole)))
  k_with "compareOp NotEq ref ref" => ((k_dflt (refine' op_ne ?r15zN ?r15za ?r15zb ?r15zu ?_; (case r15zN => k_asm); (case r15za => k_extra "opAt"); (case r15zb => k_extra "opAt"); (case r15zu => k_extra "units"); k_whole)))
  k_with "ne" => (first | with_reducible assumption | with_reducible exact Ne.symm (by with_reducible assumption) | with_reducible exact lt_ne_1 (by with_reducible assumption) | with_reducible exact lt_ne_2 (by with_reducible assumption) | with_reducible exact lt_ne_3 (by with_reducible assumption) | with_reducible exact lt_ne_4 (by with_reducible assumption) | with_reducible exact lt_ne_5 (by with_reducible assumption) | with_reducible exact lt_ne_6 (by with_reducible assumption) | with_reducible exact lt_ne_7 (by with_reducible assumption) | with_reducible exact lt_ne_8 (by with_reducible assumption) | with_reducible exact Ne.symm (lt_ne_1 (by with_reducible assumption)) | with_reducible exact Ne.symm (lt_ne_2 (by with_reducible assumption)) | with_reducible exact Ne.symm (lt_ne_3 (by with_reducible assumption)) | with_reducible exact Ne.symm (lt_ne_4 (by with_reducible assumption)) | with_reducible exact Ne.symm (lt_ne_5 (by with_reducible assumption)) | with_reducible exact Ne.symm (lt_ne_6 (by with_reducible assumption)) | with_reducible exact Ne.symm (lt_ne_7 (by with_reducible assumption)) | with_reducible exact Ne.symm (lt_ne_8 (by with_reducible assumption)) | omega)
  k_with "allne" => (first | with_reducible assumption | (refine' ne_of_lt_all ?r17zz; (case r17zz => with_reducible assumption)) | (refine' ne_of_fresh ?r17zz ?r17zm; (case r17zz => with_reducible assumption); (case r17zm => k_extra "mem")) | exact List.forall_mem_nil _ | (refine' List.forall_mem_cons.mpr ⟨?r17za, ?r17zb⟩; (case r17za => ((try dsimp only); k_extra "ne")); (case r17zb => k_extra "allne")))
  k_with "updF" => (first | (refine' UpdF.head ?r18za; (case r18za => k_extra "allne")) | (refine' UpdF.tail ?r18za ?r18zb; (case r18za => ((try dsimp only); k_extra "ne")); (case r18zb => k_extra "updF")))
  k_with "setItem ref int" => ((k_dflt (first | (refine' di_set ?r19zF ?r19zN ?r19zU ?r19zd ?r19zz ?_; (case r19zF => k_asm); (case r19zN => k_asm); (case r19zU => k_extra "updF"); (case r19zd => with_reducible assumption); (case r19zz => omega)) | (refine' ds_set ?r19zF ?r19zN ?r19zU ?r19zd ?r19zz ?_; (case r19zF => k_asm); (case r19zN => k_asm); (case r19zU => k_extra "updF"); (case r19zd => with_reducible assumption); (case r19zz => omega))); intro zq_h' zq_o' zq_F' zq_N' zq_hd'; (try dsimp only at zq_N'); (try k_sweep)))
  k_with "ifline" => (first | ((with_reducible refine' if_ne ?r20zF ?r20zv ?r20zn ?_ ?r20zk ?r20zl ?r20zd); (case r20zF => k_asm); (case r20zv => with_unfolding_all rfl); (case r20zn => decide +kernel); (case r20zk => rfl); (case r20zl => rfl); (case r20zd => decide); intro _) | ((with_reducible refine' if_eq ?r20zF ?r20zv ?r20zn ?_ ?r20zk ?r20zl ?r20zd); (case r20zF => k_asm); (case r20zv => with_unfolding_all rfl); (case r20zn => decide +kernel); (case r20zk => rfl); (case r20zl => rfl); (case r20zd => decide); intro _; dsimp only) | ((with_reducible refine' ifo_ne ?r20zF ?r20zv ?r20zn ?_ ?r20zk ?r20zl ?r20zd); (case r20zF => k_asm); (case r20zv => with_unfolding_all rfl); (case r20zn => decide +kernel); (case r20zk => rfl); (case r20zl => rfl); (case r20zd => decide); intro _) | ((with_reducible refine' ifo_eq ?r20zF ?r20zv ?r20zn ?_ ?r20zk ?r20zl ?r20zd); (case r20zF => k_asm); (case r20zv => with_unfolding_all rfl); (case r20zn => decide +kernel); (case r20zk => rfl); (case r20zl => rfl); (case r20zd => decide); intro _; dsimp only))
  k_with "execs cons" => (((with_reducible show wpAny _ _ (execs (Stmt.If _ _ _ _ :: _) _) _ _ _); k_dflt (k_extra "ifline")))
  k_with "ltall" => (first | assumption | exact tb_ltOf (by assumption) | (refine' tb_ltOf (And.right ?r22zz); (case r22zz => assumption)) | (refine' tb_ltOf (And.right (And.right ?r22zz)); (case r22zz => assumption)) | (refine' tb_ltOf (And.right (And.right (And.right ?r22zz))); (case r22zz => assumption)))
  k_with "fresh" => (first | exact FreshOver.nil | (refine' FreshOver.cons ?r23za ?r23zb; (case r23za => ((try dsimp only); k_extra "ltall")); (case r23zb => k_extra "fresh")))
  k_with "pairs" => (first | exact All2.nil | (refine' All2.cons ?r24za ?r24zb; (case r24za => (refine' PairAt.mk ?r24zc; (case r24zc => k_extra "mem"))); (case r24zb => k_extra "pairs")))
  k_with "upd" => (first | (refine' upd_app ?r25za ?r25zb; (case r25za => k_extra "allne"); (case r25zb => k_extra "upd")) | (refine' Upd.head ?r25za; (case r25za => k_extra "allne")) | (refine' Upd.tail ?r25za ?r25zb; (case r25za => ((try dsimp only); k_extra "ne")); (case r25zb => k_extra "upd")))
  k_with "setAttr ref" => ((k_dflt (refine' set_dict ?r26zF ?r26zX ?r26zN ?r26zI ?r26zd ?r26zs ?r26zp ?r26zt ?r26zh ?r26zl ?r26ze ?r26zU ?r26zz ?_; (case r26zF => k_asm); (case r26zX => k_asm); (case r26zN => k_asm); (case r26zI => k_inst); (case r26zd => exact rfl); (case r26zs => k_is); (case r26zp => k_is); (case r26zt => k_is); (case r26zh => k_is); (case r26zl => k_get); (case r26ze => k_put); (case r26zU => k_extra "upd"); (case r26zz => exact Nat.le_of_ble_eq_true rfl)); intro zq_h' zq_F' zq_N'; (try k_sweep)))
  k_with "compareOp Eq" => ((k_dflt (refine' pt_eq ?r27zN ?r27za ?r27zb ?r27zu ?_; (case r27zN => k_asm); (case r27za => with_reducible assumption); (case r27zb => with_reducible assumption); (case r27zu => k_extra "units"); k_whole)))
  k_with "compareOp NotEq" => ((k_dflt (refine' pt_ne ?r28zN ?r28za ?r28zb ?r28zu ?_; (case r28zN => k_asm); (case r28za => with_reducible assumption); (case r28zb => with_reducible assumption); (case r28zu => k_extra "units"); k_whole)))
  k_with "exec While Compare cons nil" => (first | ((k_dflt (k_extra "while")); (all_goals ((try ((try k_unmd); k_unfold; clear gG)); (try k_unmd); (try k_fold)))) | (k_here; (try k_fold); k_dflt (refine whl_start 100 ?_)))
  k_with "call builtin:isinstance" => ((k_dflt (first | (refine' isi_tup ?r30zF ?r30zX ?r30zN ?r30zm ?_; (case r30zF => k_asm); (case r30zX => k_asm); (case r30zN => k_asm); (case r30zm => k_extra "mem")) | (refine' isi_int ?r30zF ?r30zX ?r30zN ?_; (case r30zF => k_asm); (case r30zX => k_asm); (case r30zN => k_asm))); intro _))
  k_with "eval Name" => (((with_reducible refine' ldq ?r31zF ?r31zv ?r31zk ?r31zl ?r31zd ?_); (case r31zF => with_reducible assumption); (case r31zl => decide +kernel); (case r31zd => decide +kernel); (case r31zv => k_dflt (first | with_reducible assumption | exact @rfl _ (some _) | assumption)); (case r31zk => exact rfl)))
  k_with "TurnPost" => ((first | (with_reducible refine TurnPost.retI ?_) | (with_reducible refine TurnPost.nextI ?_)))
  k_with "exec For" => (((rename Fr _ _ _ _ => zq_lF'); (with_unfolding_all refine' For_invVF zq_lF' ?r33zk1 ?r33zk2 ?_; (case r33zk1 => exact rfl); (case r33zk2 => exact rfl); k_whole)))
  k_with "exec For Name Attribute cons nil" => (walk_at "exec For")
  k_with "exec For Name Name cons nil" => (walk_at "exec For")
  k_with "exec For Name Call cons nil" => (walk_at "exec For")
  k_with "rowAt" => (with_reducible assumption)
  k_with "depth" => (first | exact dp1 (by with_reducible assumption) rfl | exact dp0 (by with_reducible assumption) rfl | exact dp2 (by with_reducible assumption) rfl | (simp only [depth_under_make, depth_under_kw, depth_in1, depth_deeper, depth_caller] at *; omega))
  k_with "exec If" => (first | k_dflt (k_extra "if") | ((with_reducible refine wpAny_If ?_); (try dsimp only)))
  k_with "exec If Compare cons nil" => (walk_at "exec If")
  k_with "exec If BoolOp cons nil" => (walk_at "exec If")
  k_with "exec If Call cons nil" => (walk_at "exec If")
  k_with "exec If UnaryOp cons nil" => (walk_at "exec If")
  k_with "exec If Compare cons cons" => (walk_at "exec If")
  k_with "exec If BoolOp cons cons" => (walk_at "exec If")
  k_with "eval Call" => (((fail_if_success (with_reducible show wpAny _ _ (eval (Expr.Call (Expr.Name (PySem.Str.ofString "range") _) _ _ _) _) _ _ _)); (with_reducible show wpAny _ _ (eval (Expr.Call (Expr.Name _ _) _ _ _) _) _ _ _); k_dflt (refine Call_ ?_)))
  k_with "eval Call Attribute" => ((k_dflt (refine MethodCall_ ?_)))
  k_with "handled" => (first | assumption | exact rfl)
  k_with "frames" => (first | exact rfl | (refine' frames_deeper ?r49zz; (case r49zz => assumption)))
  k_with "pyIter ref" => (((k_dflt (k_extra "loop")); (all_goals ((try ((try k_unmd); k_unfold; clear gG)); (try dsimp only); (try k_unmd); (try k_fold)))))
  k_with "call ref" => (k_dflt (k_extra "call"))
  k_with "sub" => (first | with_reducible assumption | with_reducible exact sub_refl | (with_reducible refine sub_cons ?_; k_extra "sub") | (with_reducible refine sub_app ?_; k_extra "sub"))
  k_with "call builtin:list.append" => ((k_dflt (refine' app_l ?r53zF ?r53zN ?r53zU ?r53zz ?_; (case r53zF => k_asm); (case r53zN => k_asm); (case r53zU => k_extra "upd"); (case r53zz => exact Nat.le_of_ble_eq_true rfl)); intro zq_h' zq_F' zq_N'; (try dsimp only [List.cons_append, List.nil_append] at zq_N'); (try k_sweep)))
  k_with "compareOp In ref ref" => ((k_dflt (first | (refine' in_ops0 ?r54zN ?r54zl ?r54zo ?r54zu ?_; (case r54zN => k_asm); (case r54zl => k_extra "mem"); (case r54zo => k_extra "opAt"); (case r54zu => k_extra "units")) | (refine' in_ops1 ?r54zN ?r54zl ?r54zv ?r54zo ?r54zu ?_; (case r54zN => k_asm); (case r54zl => k_extra "mem"); (case r54zv => k_extra "opAt"); (case r54zo => k_extra "opAt"); (case r54zu => k_extra "units")))))
  k_with "assign Tuple" => ((k_dflt (refine' unpackN_ ?r55zF ?r55zN ?r55zT ?r55zh ?r55z2 ?r55z3 ?_; (case r55zF => k_asm); (case r55zN => k_asm); (case r55zT => (refine' News.isTup ?r55zy1 ?r55zy2; (case r55zy1 => k_asm); (case r55zy2 => k_extra "mem"))); (case r55zh => k_extra "handled"); (case r55z2 => exact rfl); (case r55z3 => exact rfl)); intro zq_h' zq_F' zq_N'; (try k_sweep)))
  k_with "WPost" => ((first | (with_reducible refine WPost.retI ?_) | (with_reducible refine WPost.nextI ?_)))
  k_with "WhlIf" => (((first | (refine' WhlIf.yes ?r57zz ?_; (case r57zz => (refine decide_eq_true ?_; omega))) | (refine' WhlIf.no ?r57zz ?_; (case r57zz => (refine decide_eq_false ?_; omega)))); (try dsimp only); (try k_unmd); (try k_fold)))
  k_with "call builtin:len" => ((k_dflt (refine' len_l ?r58zN ?r58zm ?r58zz ?_; (case r58zN => k_asm); (case r58zm => k_extra "mem"); (case r58zz => first | exact Nat.le_of_ble_eq_true rfl | omega)); intro _ _))
  k_with "loadName" => (((with_reducible refine' ldnq ?r59zF ?r59zv ?r59zk ?r59zl ?_); (case r59zF => with_reducible assumption); (case r59zl => decide +kernel); (case r59zv => k_dflt (first | with_reducible assumption | exact @rfl _ (some _) | assumption)); (case r59zk => exact rfl)))
  k_with "kv" => (with_reducible first | exact kv_held | exact kv_temps | exact kv_given | exact kv_out | exact kv_count)
  k_with "stitem" => ((k_dflt (refine' st_item ?r61zN ?r61zm ?r61zd ?r61zv ?_ ?r61zh6; (case r61zN => k_asm); (case r61zm => k_extra "mem"); (case r61zd => with_reducible assumption); (case r61zv => k_extra "kv"); (case r61zh6 => with_unfolding_all rfl))))
  k_with "subscriptTail Name Constant ref str" => (k_extra "stitem")
  k_with "call type:range" => ((k_dflt (first | (refine' range1_rows ?r63zF ?r63zN ?_; (case r63zF => k_asm); (case r63zN => k_asm)) | (refine' range2_rows ?r63zF ?r63zN ?_; (case r63zF => k_asm); (case r63zN => k_asm))); intro zq_h' zq_tk' zq_t9 zq_u9 zq_w9 zq_R' zq_F' zq_N' zq_kp'; clear zq_kp'; (try k_sweep)))
  k_with "TurnPost" => ((with_reducible refine TurnPost.contI ?_))
  k_with "unpackItems ref" => ((k_dflt (refine' unpackItemsN_ ?r65zF ?r65zN ?r65zT ?r65zh ?r65z2 ?_; (case r65zF => k_asm); (case r65zN => k_asm); (case r65zT => (refine' News.isTup ?r65zy1 ?r65zy2; (case r65zy1 => k_asm); (case r65zy2 => k_extra "mem"))); (case r65zh => k_extra "handled"); (case r65z2 => exact rfl)); intro zq_h' zq_F' zq_N'; (try k_sweep)))
  k_with "storeName" => (((k_dflt (refine' store_let ?r66zF ?r66zN ?_ ?r66za ?r66zb; (case r66zF => k_asm); (case r66zN => k_asm); (case r66za => rfl); (case r66zb => rfl); k_whole)); (intro zq_mk zq_h' zq_F' zq_N'); (try k_sweep)))
  k_with "callWith" => (((with_reducible show wpAny _ _ (callWith _ (Value.builtin "list.append") _ _ _) _ _ _); (k_dflt (refine callWith_method1 ?_))))
  k_with "ite" => (with_reducible first | refine ite_t ?_ | refine ite_f ?_ | refine ite_l0 ?_ | refine ite_l1 ?_ | refine ite_l2 ?_ | (refine' ite_bt ?r124zh ?_; (case r124zh => assumption)) | (refine' ite_bf ?r124zh ?_; (case r124zh => assumption)))
  k_with "call builtin:list.append" => ((k_dflt (refine' app_l ?r125zF ?r125zN ?r125zU ?r125zz ?_; (case r125zF => k_asm); (case r125zN => k_asm); (case r125zU => k_extra "upd"); (case r125zz => assumption)); intro zq_h' zq_F' zq_N'; (try dsimp only [List.cons_append, List.nil_append] at zq_N'); (try k_sweep)))
  k_with "ne" => (first | with_reducible assumption | with_reducible exact Ne.symm (by with_reducible assumption) | exact lt_ne (by assumption) | omega)
  k_with "subscriptTail Name BinOp ref int" => ((k_dflt (refine' sub_tupS ?r127zN ?r127zm ?r127zj ?r127zx ?_ ?r127zs; (case r127zN => k_asm); (case r127zm => k_extra "mem"); (case r127zj => omega); (case r127zx => with_reducible assumption); (case r127zs => with_unfolding_all rfl))))
  k_with "call builtin:len" => ((k_dflt (first | refine len_d ?_ | (refine' len_t ?r128zN ?r128zm ?r128zz ?r128zy ?_; (case r128zN => k_asm); (case r128zm => k_extra "mem"); (case r128zz => assumption); (case r128zy => omega))); intro _ _))
  k_with "subscriptTail Name Name str int" => ((k_dflt (refine' dd_item ?r129zd ?_ ?r129zs ?r129zt; (case r129zd => assumption); (case r129zs => with_unfolding_all rfl); (case r129zt => (intro _; with_unfolding_all rfl))); intro _; dsimp only [Dd.str]))
  k_with "call" => ((with_reducible show wpAny _ _ (call (Value.ref 168) _) _ _ _); (k_dflt (refine' ct_use_t (meant_ct c) ?zh ?zA ?zf ?zk ?zd ?zu ?zB ?zF ?zX ?zN ?zT ?_; (case zN => k_asm);  (case zh => k_extra "handled"); (case zA => k_extra "frames"); (case zf => exact rfl); (case zk => exact rfl); (case zd => k_extra "depth"); (case zu => k_extra "units"); (case zB => k_asm); (case zF => k_asm); (case zX => k_asm); (case zT => k_asm))); (intro t9 h' tk' F' N'); (try k_sweep))
  k_with "call" => ((with_reducible show wpAny _ _ (call (Value.ref 175) _) _ _ _); (k_dflt (refine' ct_use_t (label_ct c hS0 ?y1 ?y2) ?zh ?zA ?zf ?zk ?zd ?zu ?zB ?zF ?zX ?zN ?zT ?_; (case zN => k_asm); (case y1 => k_extra "sub"); (case y2 => k_extra "opAt"); (case zh => k_extra "handled"); (case zA => k_extra "frames"); (case zf => exact rfl); (case zk => exact rfl); (case zd => k_extra "depth"); (case zu => k_extra "units"); (case zB => k_asm); (case zF => k_asm); (case zX => k_asm); (case zT => k_asm))); (intro t8 h' tk' F' N'); (try k_sweep))
  k_with "loop" => (first
    | (
      (rename Fr _ _ _ _ => lF'); (rename News _ _ _ _ => lN'); (rename IsRange _ _ _ _ _ _ _ _ => lR')
      rename_i lw q1 l1w q2 q3 q4
      have hoffw : ∀ p ∈ news, p.1 ≠ lw := fun p hp => Nat.ne_of_lt (l1w p hp)
      refine ra_iter (n := k.ar) (fun i m nx => ∃ vals wr nw, m (PySem.Str.ofString "state") = some (.ref S) ∧ m (PySem.Str.ofString "parts") = some (.ref ia) ∧ m (PySem.Str.ofString "row") = some (.ref ra) ∧ m (PySem.Str.ofString "deeds") = some (.str k.deeds t9) ∧ m (PySem.Str.ofString "written") = some (.ref lw) ∧ nx = (lw, listOf (vals : List Value).toArray nw) :: news ∧ IntsOf vals wr ∧ wr.length ≤ i ∧ rGo st ((spots ⟨k, ps⟩ ⟨k, qs⟩).drop i) wr = rGo st (spots ⟨k, ps⟩ ⟨k, qs⟩) [])
        (by assumption) lR' range_ar.1 range_ar.2 lF' lN' ⟨[], [], 0, rfl, rfl, rfl, rfl, rfl, rfl, .nil, Nat.le_refl _, rfl⟩ (fun i ti m₁ nx h' tk' own hi9 hoff hJ F' N' => ?_) (fun m₁ nx h' tk' hJ F' N' => ?_)
      all_goals (
        clear lF' lN' lR'
        (show (let gG : Prop := _; gG)); intro gG; obtain ⟨vals, wr, nw, hm1, hm2, hm3, hm4, hm5, hnx, hiv, hwl, hgo⟩ := hJ
        subst hnx
        change Fr g' L' h' _ at F'
        change News g' L' h' _ at N'
        have hvl := all2_length hiv
        (try dsimp only))
      rotate_left 1
      have hfin := right_end hw hgo
      obtain ⟨rfl, rfl⟩ | ⟨z1, z2, rfl, rfl⟩ | ⟨z1, z2, z3, z4, rfl, rfl⟩ := ints3 hiv (by omega)
      rotate_right 1
      simp only [Int.zero_add] at F'
      dsimp only [List.cons_append] at N'
      obtain ⟨dd, p9, q9, hd9, hp9, hq9, hsp⟩ := spot_of hw hw' hi9
      obtain ⟨v9, hv9, hpv⟩ := all2_getL hv hp9
      obtain ⟨w9, hw9, hpw⟩ := all2_getL hq hq9
      have hv8 : (Value.str k.name tka :: vs)[i + 1]? = some v9 := by simpa using hv9
      have hw8 : (Value.str k.name tkb :: ws)[i + 1]? = some w9 := by simpa using hw9
      have hno : ∀ p ∈ news ++ own, p.1 ≠ lw := fun p hp => (List.mem_append.mp hp).elim (hoffw p) fun hp => hoff p hp lw (by simp)
      have hvz : vals.length ≤ 100000 := by omega
      have hnsub : ∀ p ∈ news, p ∈ news ++ own := fun p hp => List.mem_append_left _ hp
      have hsub' : ∀ p ∈ LA.fp ⟨S, H, TT, G, O, oS, oH, oT, oG, oO, tn⟩, p ∈ news ++ own := fun p hp => List.mem_append_left _ (hsub p hp)
      rcases hsp with ⟨y1, y2⟩ | ⟨y1, y2⟩ | ⟨y1, y2⟩ | ⟨y1, y2⟩ | ⟨y1, y2⟩ | ⟨y1, y2⟩ | ⟨y1, y2⟩ | ⟨y1, y2⟩
      any_goals (first
        | (replace hpv := hpv.toOp
           replace hpw := hpw.toOp
           obtain ⟨a1, b1, b2, b3, e1, mm1⟩ := op_inv hpv
           obtain ⟨a2, b4, b5, b6, e2, mm2⟩ := op_inv hpw
           subst e1
           subst e2
           dsimp only [Op.tag, Op.num] at mm1 mm2)
        | (cases hpv
           cases hpw)))
    | (
    (rename Fr _ _ _ _ => lF'); (rename News _ _ _ _ => lN')
    refine dks_iter (al := st.out) (fun i m nx => m (PySem.Str.ofString "state") = some (.ref S) ∧ (∀ p ∈ news, p ∈ nx) ∧ ∀ q ∈ st.out.take i, lHeld st q.1 = q.2)
      (by assumption) (by k_extra "mem") (by assumption) (by assumption) lF' lN' ⟨by assumption, by k_extra "sub", fun _ h => by simp at h⟩ (fun i kk v t m₁ nx h' tk' own hget hoff hmem hJ F' N' => ?_) (fun m₁ nx h' tk' hJ F' N' => ?_)
    all_goals (
      clear lF' lN'
      (show (let gG : Prop := _; gG)); intro gG; obtain ⟨hself, hnx, hall⟩ := hJ
      change Fr g' L' h' _ at F'
      change News g' L' h' _ at N'
      (try dsimp only))
    have m1' := hnx _ m1
    have m2' := hnx _ m2
    have m5' := hnx _ m5
    (have hlk := lk_of_get dO.nodup hget)))
  refine wpAny_call ?_
  k_dflt (refine' code_def (binds := [(PySem.Str.ofString "state", .ref S), (PySem.Str.ofString "parts", .ref ia), (PySem.Str.ofString "row", .ref ra)]) ?zk1 ?zk2 ?zk3 ?zk4 ?zk5 ?zkA ?zkF ?zkK ?zk6 ?zk7 ?zk8 ?zk9 ?zkB ?_ ?zc2 ?zc3 ?zc4 ?zc5; (case zkA => assumption); (case zkF => assumption); (case zkK => assumption); (case zk1 => k_asm); (case zk2 => k_asm); (case zk3 => k_asm); (case zk4 => k_asm); (case zk5 => k_asm); (case zk6 => k_is); (case zk7 => k_is); (case zk8 => omega); (case zk9 => exact BindsTo.of_eq rfl); (case zc5 => decide); (case zkB => exact locs rfl); (case zc2 => exact rfl); (case zc3 => exact rfl); (case zc4 => exact rfl); k_whole; intro g' L' h' FG' F' N' B' X' T'; (try dsimp only [List.reverse_cons, List.reverse_nil, List.nil_append, List.cons_append] at F'); (try dsimp only); (try k_fold))
  k_steps
  all_goals (first
    | (refine ret _ _ _ _ (by assumption) (News.sub (by assumption) (by k_extra "sub")) ⟨?_, rfl⟩
       rw [rGo_no hd9 hp9 hq9 hgo (by first | exact r_dot0 (by assumption) | exact r_y0 (by assumption) | exact r_t0 (by assumption) | exact r_u0 (by assumption) | exact r_ty | exact r_an (by assumption) | exact r_a0 (by assumption) (by assumption) | exact w_an (by assumption))])
    | (rename Fr g' _ _ _ => F9; rename News g' _ _ _ => N9
       refine TurnEnd.intro (nx := (lw, listOf (vals : List Value).toArray nw) :: news) F9 N9 (sub_cons (sub_cons2 hnsub)) (sub_cons (sub_cons sub_own)) hoff ⟨vals, wr, nw, hm1, hm2, hm3, hm4, hm5, rfl, hiv, Nat.le_succ_of_le hwl, rGo_yes0 hd9 hp9 hq9 hgo (by first | exact r_dot1 (by assumption) | exact r_y1 (by assumption) | exact r_t1 (by assumption) | exact r_u1 (by assumption) | exact r_a1 (by assumption) (by assumption))⟩)
    | (rename Fr g' _ _ _ => F9; rename News g' _ _ _ => N9
       refine TurnEnd.intro (nx := (lw, listOf (vals ++ [_] : List Value).toArray (nw + 1)) :: news) F9 N9 (sub_cons (sub_cons2 hnsub)) (sub_cons (sub_cons sub_own)) hoff ⟨vals ++ [_], wr ++ [_], nw + 1, hm1, hm2, hm3, hm4, hm5, rfl, all2_append hiv ⟨_, rfl⟩, by simp; omega, rGo_yes hd9 hp9 hq9 hgo (by first | exact w_t | exact w_a1 (by assumption))⟩)
    | (rename Fr g' _ _ _ => F9; rename News g' _ _ _ => N9
       refine TurnEnd.intro (nx := nx) F9 N9 (fun _ h => List.mem_append_left _ h) (fun _ h => List.mem_append_right _ h) hoff ⟨hmem, hself, hnx, take_step hall hget (lHeld_of (by assumption))⟩)
    | (refine ret _ _ _ _ (by assumption) (News.sub (by assumption) (fun p hp => List.mem_append_left _ (hnx p hp))) ⟨?_, rfl⟩
       rw [right_no hfin (by assumption) (outs_nob (List.mem_of_getElem? hget) (by assumption))])
    | (refine ret _ _ _ _ (by assumption) (News.sub (by assumption) (by k_extra "sub")) ⟨?_, rfl⟩
       first
         | rw [right_yes hfin (by first | rfl | exact decide_eq_true (by assumption)) fun _ => outs_yes (by simpa using hall)]
         | rw [right_yesN hfin (by first | rfl | exact decide_eq_true (by assumption)) (by assumption)]
         | rw [right_dn hfin (by assumption)])
    | skip)
end
section
theorem LkOff.own {a : LA} {own keep : List (Addr × Obj)} (h : LkOff a keep) (ho : OwnOff own ((a.fp ++ keep).map (·.1))) : LkOff a (keep ++ own) := by
  have go : ∀ d o, (d, o) ∈ a.fp → Off d keep → Off d (keep ++ own) := by
    intro d o hm hk q hq
    rcases List.mem_append.mp hq with hq | hq
    · exact hk q hq
    · exact ho q hq d (List.mem_map.mpr ⟨(d, o), List.mem_append_left _ hm, rfl⟩)
  exact ⟨go _ a.oS (by simp [LA.fp]) h.S, go _ a.oH (by simp [LA.fp]) h.H, go _ a.oT (by simp [LA.fp]) h.T, go _ a.oG (by simp [LA.fp]) h.G, go _ a.oO (by simp [LA.fp]) h.O⟩
theorem LkOff.left {a : LA} {own keep : List (Addr × Obj)} (h : LkOff a (keep ++ own)) : LkOff a keep :=
  have go : ∀ {d}, Off d (keep ++ own) → Off d keep := fun h q hq => h q (List.mem_append_left _ hq)
  ⟨go h.S, go h.H, go h.T, go h.G, go h.O⟩
theorem LkOff.ownoff {a : LA} {own keep : List (Addr × Obj)} (h : LkOff a (keep ++ own)) (ho : OwnOff own (keep.map (·.1))) : OwnOff own ((a.fp ++ keep).map (·.1)) := by
  intro p hp b hb
  rw [List.map_append] at hb
  rcases List.mem_append.mp hb with hb | hb
  · have hp' : p ∈ keep ++ own := List.mem_append_right _ hp
    simp only [LA.fp, List.map_cons, List.map_nil, List.mem_cons, List.not_mem_nil, or_false] at hb
    rcases hb with rfl | rfl | rfl | rfl | rfl
    · exact h.S p hp'
    · exact h.H p hp'
    · exact h.T p hp'
    · exact h.G p hp'
    · exact h.O p hp'
  · exact ho p hp b hb
theorem ownL_right {a : LA} {own keep : List (Addr × Obj)} (ho : OwnOff own ((a.fp ++ keep).map (·.1))) : OwnOff own (keep.map (·.1)) :=
  fun p hp b hb => ho p hp b (by rw [List.map_append]; exact List.mem_append_right _ hb)
structure LS.Le (st : LS) (n : Nat) : Prop where
  held : st.held.length ≤ n
  temps : st.temps.length ≤ n
  out : st.out.length ≤ n
theorem LS.Le.mono {st : LS} {n n' : Nat} (h : st.Le n) (hn : n ≤ n') : st.Le n' := ⟨Nat.le_trans h.held hn, Nat.le_trans h.temps hn, Nat.le_trans h.out hn⟩
noncomputable def vl (n : Int) : PySem.Str := PySem.Str.ofString "v" ++ PySem.Str.ofString (toString n)
noncomputable def lLab (st : LS) : Row → PySem.Str
  | ⟨.getVar, [_, .op o]⟩ => label st o
  | ⟨.putVal, [.op (.t k), _]⟩ => label st (.t k)
  | _ => vl st.n
noncomputable def LS.write (st : LS) (v : PySem.Str) : Dd → Pt → Pt → LS
  | .w, .op (.t k), .op (.x j) => { st with held := put st.held j v, temps := put st.temps k v }
  | .u, .op (.t k), .op (.x j) => { st with held := put st.held j v, temps := put st.temps k v }
  | .w, .op (.a k), .op (.x j) => { st with held := put st.held j v, out := put st.out k v }
  | _, _, _ => st
noncomputable def lGo (v : PySem.Str) : LS → List (Dd × Pt × Pt) → LS
  | st, [] => st
  | st, (d, p, q) :: rest => lGo v (st.write v d p q) rest
noncomputable def lStep (st : LS) (r s : Row) : LS :=
  let st1 := { st with n := st.n + 1 }
  let st2 := lGo (lLab st1 r) st1 (spots r s)
  if r.k = .call then { held := [], temps := [], given := [], out := [], n := st2.n } else st2
section
variable {w : World} {A : Around} {E : Value → Shared → Prop} {s : Shared} {h₀ : Heap} {L d : Addr} {m : PySem.Str → Option Value} {news : List (Addr × Obj)} {g : Obj → List (Addr × Obj)} {o : Obj} {H T G O : Addr} {tn t tk : Tok} {n n' : Int} {B : Addr} {Q : Unit → Shared → Prop}
theorem st_set {kvs kvs' : List (PySem.Str × Value)} {x : PySem.Str} {v : Value} (F : Fr h₀ L s.heap m) (N : News h₀ L s.heap news) (U : UpdF d o news g) (hd : o.IsDictOf (PySem.strKind PR w) kvs) (hsz : kvs.length ≤ 1000) (he : stored kvs x v = kvs')
    (h : ∀ h' o', Fr h₀ L h' m → News h₀ L h' (g o') → o'.IsDictOf (PySem.strKind PR w) kvs' → Q () { s with heap := h', toks := s.toks + 1 }) : wpAny (model PR w) A (setItem (.ref d) (.str x tk) v) Q E s := by
  subst he
  exact kda_set (knd := PySem.strKind _ _) F N U hd (strKind_is _ _ _ _) (by rw [sizeLine_eq]; omega) h
theorem st_count (F : Fr h₀ L s.heap m) (N : News h₀ L s.heap news) (U : UpdF d o news g) (hd : o.IsDictOf (PySem.strKind PR w) (lawKv H T G O tn n))
    (h : ∀ h' o', Fr h₀ L h' m → News h₀ L h' (g o') → o'.IsDictOf (PySem.strKind PR w) (lawKv H T G O t n') → Q () { s with heap := h', toks := s.toks + 1 }) : wpAny (model PR w) A (setItem (.ref d) (.str (PySem.Str.ofString "count") tk) (.int n' t)) Q E s :=
  st_set F N U hd (by simp) rfl h
theorem st_held (F : Fr h₀ L s.heap m) (N : News h₀ L s.heap news) (U : UpdF d o news g) (hd : o.IsDictOf (PySem.strKind PR w) (lawKv H T G O tn n))
    (h : ∀ h' o', Fr h₀ L h' m → News h₀ L h' (g o') → o'.IsDictOf (PySem.strKind PR w) (lawKv B T G O tn n) → Q () { s with heap := h', toks := s.toks + 1 }) : wpAny (model PR w) A (setItem (.ref d) (.str (PySem.Str.ofString "held") tk) (.ref B)) Q E s :=
  st_set F N U hd (by simp) rfl h
theorem st_temps (F : Fr h₀ L s.heap m) (N : News h₀ L s.heap news) (U : UpdF d o news g) (hd : o.IsDictOf (PySem.strKind PR w) (lawKv H T G O tn n))
    (h : ∀ h' o', Fr h₀ L h' m → News h₀ L h' (g o') → o'.IsDictOf (PySem.strKind PR w) (lawKv H B G O tn n) → Q () { s with heap := h', toks := s.toks + 1 }) : wpAny (model PR w) A (setItem (.ref d) (.str (PySem.Str.ofString "temps") tk) (.ref B)) Q E s :=
  st_set F N U hd (by simp) rfl h
theorem st_given (F : Fr h₀ L s.heap m) (N : News h₀ L s.heap news) (U : UpdF d o news g) (hd : o.IsDictOf (PySem.strKind PR w) (lawKv H T G O tn n))
    (h : ∀ h' o', Fr h₀ L h' m → News h₀ L h' (g o') → o'.IsDictOf (PySem.strKind PR w) (lawKv H T B O tn n) → Q () { s with heap := h', toks := s.toks + 1 }) : wpAny (model PR w) A (setItem (.ref d) (.str (PySem.Str.ofString "given") tk) (.ref B)) Q E s :=
  st_set F N U hd (by simp) rfl h
theorem st_out (F : Fr h₀ L s.heap m) (N : News h₀ L s.heap news) (U : UpdF d o news g) (hd : o.IsDictOf (PySem.strKind PR w) (lawKv H T G O tn n))
    (h : ∀ h' o', Fr h₀ L h' m → News h₀ L h' (g o') → o'.IsDictOf (PySem.strKind PR w) (lawKv H T G B tn n) → Q () { s with heap := h', toks := s.toks + 1 }) : wpAny (model PR w) A (setItem (.ref d) (.str (PySem.Str.ofString "out") tk) (.ref B)) Q E s :=
  st_set F N U hd (by simp) rfl h
end
theorem getVar_cases {k : Kd} {vs : List Value} {ps : List Pt} {keep : List (Addr × Obj)} (hw : WA ⟨k, ps⟩) (hv : All2 (PtAt keep) vs ps) (st : LS) :
    (∃ v1 v2 o2, (k.name == PySem.Str.ofString "get_variable") = true ∧ vs = [v1, v2] ∧ OpAt keep v2 o2 ∧ k ≠ .putVal ∧ lLab st ⟨k, ps⟩ = label st o2) ∨ ((k.name == PySem.Str.ofString "get_variable") = false ∧ (k ≠ .putVal → lLab st ⟨k, ps⟩ = vl st.n)) := by
  cases hw <;> first
    | (obtain ⟨v1, v2, rfl, q1, q2⟩ := hv.two
       exact .inl ⟨v1, v2, _, by decide +kernel, rfl, q2.toOp, by decide, rfl⟩)
    | exact .inr ⟨by decide +kernel, fun h => by first | rfl | exact absurd rfl h⟩
theorem putVal_cases {k : Kd} {vs : List Value} {ps : List Pt} {keep : List (Addr × Obj)} (hw : WA ⟨k, ps⟩) (hv : All2 (PtAt keep) vs ps) (st : LS) :
    (∃ v1 v2 j, k = .putVal ∧ (k.name == PySem.Str.ofString "put_value") = true ∧ vs = [v1, v2] ∧ OpAt keep v1 (.t j) ∧ lLab st ⟨k, ps⟩ = label st (.t j)) ∨
    (∃ v1 v2 j, k = .putVal ∧ (k.name == PySem.Str.ofString "put_value") = true ∧ vs = [v1, v2] ∧ OpAt keep v1 (.y j) ∧ lLab st ⟨k, ps⟩ = vl st.n) ∨ (k ≠ .putVal ∧ (k.name == PySem.Str.ofString "put_value") = false) := by
  cases hw <;> first
    | (obtain ⟨v1, v2, rfl, q1, q2⟩ := hv.two
       exact .inl ⟨v1, v2, _, rfl, by decide +kernel, rfl, q1.toOp, rfl⟩)
    | (obtain ⟨v1, v2, rfl, q1, q2⟩ := hv.two
       exact .inr (.inl ⟨v1, v2, _, rfl, by decide +kernel, rfl, q1.toOp, rfl⟩))
    | exact .inr (.inr ⟨by decide, by decide +kernel⟩)
theorem lGo_step {v : PySem.Str} {st st0 : LS} {k : Kd} {ps qs : List Pt} {i : Nat} {d : Dd} {p q : Pt} (hd : k.dl[i]? = some d) (hp : ps[i]? = some p) (hq : qs[i]? = some q)
    (h : lGo v st ((spots ⟨k, ps⟩ ⟨k, qs⟩).drop i) = lGo v st0 (spots ⟨k, ps⟩ ⟨k, qs⟩)) : lGo v (st.write v d p q) ((spots ⟨k, ps⟩ ⟨k, qs⟩).drop (i + 1)) = lGo v st0 (spots ⟨k, ps⟩ ⟨k, qs⟩) := by
  have e : (spots ⟨k, ps⟩ ⟨k, qs⟩)[i]? = some (d, p, q) := zip_get hd (zip_get hp hq)
  rw [drop_getL e] at h
  exact h
theorem lGo_end {v : PySem.Str} {st st0 : LS} {k : Kd} {ps qs : List Pt} (h : lGo v st ((spots ⟨k, ps⟩ ⟨k, qs⟩).drop k.ar) = lGo v st0 (spots ⟨k, ps⟩ ⟨k, qs⟩)) : st = lGo v st0 (spots ⟨k, ps⟩ ⟨k, qs⟩) := by
  rw [List.drop_eq_nil_of_le (by unfold spots; simp only [List.length_zip, dl_len]; omega)] at h
  exact h
theorem LA.self_mem {a : LA} {S0 : Addr} (hx : a.S = S0) : (S0, a.oS) ∈ a.fp := by subst hx; simp [LA.fp]
theorem sub_l {a k o : List (Addr × Obj)} : ∀ p ∈ a ++ k, p ∈ a ++ (k ++ o) := fun p hp => (List.mem_append.mp hp).elim (fun h => List.mem_append_left _ h) fun h => List.mem_append_right _ (List.mem_append_left _ h)
theorem sub_o {a k o : List (Addr × Obj)} : ∀ p ∈ o, p ∈ a ++ (k ++ o) := fun _ hp => List.mem_append_right _ (List.mem_append_right _ hp)
noncomputable def LS.clr (st : LS) : Nat → LS
  | 0 => st
  | 1 => { st with held := [] }
  | 2 => { st with held := [], temps := [] }
  | 3 => { st with held := [], temps := [], given := [] }
  | _ => { held := [], temps := [], given := [], out := [], n := st.n }
theorem name_list {P : Prop} {h₀ h : Heap} {L l : Addr} {vs : List Value} {n : Nat} {rest : List (Addr × Obj)} (N : News h₀ L h ((l, listOf vs.toArray n) :: rest)) (k : ∀ l9 vs9, l9 = l → vs9 = vs → News h₀ L h ((l9, listOf vs9.toArray n) :: rest) → P) : P := k l vs rfl rfl N
theorem LkOff.cons {a : LA} {l : Addr} {o : Obj} {keep : List (Addr × Obj)} (h : LkOff a keep) (hl : ∀ p ∈ a.fp ++ keep, p.1 < l) : LkOff a ((l, o) :: keep) := by
  have go : ∀ d ob, (d, ob) ∈ a.fp → Off d keep → Off d ((l, o) :: keep) := by
    intro d ob hm hk q hq
    rcases List.mem_cons.mp hq with rfl | hq
    · exact Nat.ne_of_gt (hl _ (List.mem_append_left _ hm))
    · exact hk q hq
  exact ⟨go _ a.oS (by simp [LA.fp]) h.S, go _ a.oH (by simp [LA.fp]) h.H, go _ a.oT (by simp [LA.fp]) h.T, go _ a.oG (by simp [LA.fp]) h.G, go _ a.oO (by simp [LA.fp]) h.O⟩
theorem LkOff.uncons {a : LA} {q : Addr × Obj} {keep : List (Addr × Obj)} (h : LkOff a (q :: keep)) : LkOff a keep :=
  have go : ∀ {d}, Off d (q :: keep) → Off d keep := fun h x hx => h x (.tail _ hx)
  ⟨go h.S, go h.H, go h.T, go h.G, go h.O⟩
theorem swap_head {x : Addr × Obj} {a k : List (Addr × Obj)} : ∀ p ∈ a ++ x :: k, p ∈ x :: (a ++ k) := by
  intro p hp
  simp only [List.mem_append, List.mem_cons] at hp ⊢
  rcases hp with h | h | h
  · exact .inr (.inl h)
  · exact .inl h
  · exact .inr (.inr h)
theorem DS.nil {w : World} {o : Obj} (h : o.IsDictOf (PySem.intKind PR w) []) : DS w o [] := ⟨[], h, .nil⟩
theorem lStep_eq {st st2 : LS} {k : Kd} {ps qs : List Pt} {lab : PySem.Str} (hlab : lab = lLab { st with n := st.n + 1 } ⟨k, ps⟩) (h : st2 = lGo lab { st with n := st.n + 1 } (spots ⟨k, ps⟩ ⟨k, qs⟩)) :
    lStep st ⟨k, ps⟩ ⟨k, qs⟩ = if k = .call then st2.clr 4 else st2 := by
  subst hlab h; rfl
theorem subL5 {a : LA} {keep l : List (Addr × Obj)} (h1 : (a.S, a.oS) ∈ l) (h2 : (a.H, a.oH) ∈ l) (h3 : (a.T, a.oT) ∈ l) (h4 : (a.G, a.oG) ∈ l) (h5 : (a.O, a.oO) ∈ l) (hk : ∀ p ∈ keep, p ∈ l) : ∀ p ∈ a.fp ++ keep, p ∈ l := by
  intro p hp
  rcases List.mem_append.mp hp with hp | hp
  · simp only [LA.fp, List.mem_cons, List.not_mem_nil, or_false] at hp
    rcases hp with rfl | rfl | rfl | rfl | rfl <;> assumption
  · exact hk p hp
theorem off_ltL {d : Addr} {l : List (Addr × Obj)} (h : AllLt d l) : Off d l := fun q hq => Nat.ne_of_lt (tb_ltOf h q hq)
theorem and5 {a b c d e g : Prop} (h : a ∧ b ∧ c ∧ d ∧ e ∧ g) : g := h.2.2.2.2.2
theorem sub_l9 {x : Addr × Obj} {keep own : List (Addr × Obj)} : ∀ p ∈ x :: keep, p ∈ x :: (keep ++ own) := fun p hp => (List.mem_cons.mp hp).elim (fun e => e ▸ .head _) fun h => .tail _ (List.mem_append_left _ h)
end
section
theorem Off.left {d : Addr} {t k : List (Addr × Obj)} (h : Off d (t ++ k)) : Off d t := fun q hq => h q (List.mem_append_left _ hq)
theorem in_lit {prog : Program} {w : World} {A : Around} {E : Value → Shared → Prop} {s : Shared} {x y : PySem.Str} {t u : Tok} {b : Bool} {Q : Value → Shared → Prop} (hb : (!(PySem.Builtin.Str.occurrences x y 0 x.length 1).isEmpty) = b) (h : Q (.bool b) s) : wpAny (model prog w) A (compareOp .In (.str y u) (.str x t)) Q E s :=
  in_str (by rw [hb]; exact h)
set_option maxRecDepth 100000 in
set_option maxHeartbeats 0 in
theorem step_ct (c : Cx) {a : LA} {S0 : Addr} {st : LS} {iv rv : Value} {k : Kd} {ps qs : List Pt} {keep : List (Addr × Obj)} {nn : Nat} (hx : a.S = S0) (hS : LkS c.w a st) (hK : LkOff a keep) (hr : RowAt keep iv ⟨k, ps⟩) (hs : RowAt keep rv ⟨k, qs⟩) (hw : WA ⟨k, ps⟩) (hw' : WR ⟨k, qs⟩)
    (hn : st.Le nn) (hn' : nn ≤ 800) (hc0 : 0 ≤ st.n) (hc1 : st.n ≤ 1000) :
    Ct c 189 6 200 [.ref S0, iv, rv] (a.fp ++ keep)
      (fun _ news' => ∃ a', news' = a'.fp ++ keep ∧ a'.S = S0 ∧ LkS c.w a' (lStep st ⟨k, ps⟩ ⟨k, qs⟩) ∧ LkOff a' keep ∧ (lStep st ⟨k, ps⟩ ⟨k, qs⟩).Le (nn + 2)) := by
  unfold Ct PR
  k_fill
  intro A env outer A₀ base h₀ L m s Q E hh hA hf hke hd hu B F X N T ret
  cases hr with
  | @mk ia tka n _ vs _ hi hv =>
  cases hs with
  | @mk ra tkb n' _ ws _ hrr hq =>
  have hl1 : vs.length = k.ar := (all2_length hv).trans (wa_len hw)
  have hl2 : ws.length = k.ar := (all2_length hq).trans (wr_len hw')
  have har := ar_or k
  obtain ⟨S, H, TT, G, O, oS, oH, oT, oG, oO, tn⟩ := a
  obtain ⟨dS, dH, dT, dG, dO, loS, loH, loT, loG, loO, n1, n2, n3, n4, n5, n6, n7, n8, n9, n10⟩ := hS
  obtain ⟨k1, k2, k3, k4, k5⟩ := hK
  dsimp only at hx
  subst hx
  have hK0 : ∀ o9 tn9, LkOff ⟨S, H, TT, G, O, o9, oH, oT, oG, oO, tn9⟩ keep := fun _ _ => ⟨k1, k2, k3, k4, k5⟩
  have hn0 : LS.Le { st with n := st.n + 1 } nn := ⟨hn.held, hn.temps, hn.out⟩
  simp only [LA.fp, List.cons_append, List.nil_append] at *
  k_with_none
  k_with "mem" => (first | with_reducible assumption | with_reducible exact List.mem_cons_self | (with_reducible refine List.mem_cons_of_mem _ ?_; k_extra "mem") | (with_reducible refine List.mem_append_left _ ?_; k_extra "mem") | (with_reducible refine List.mem_append_right _ ?_; k_extra "mem"))
  k_with "my_enter" => ((refine' code_def ?r2zk1 ?r2zk2 ?r2zk3 ?r2zk4 ?r2zk5 ?r2zkA ?r2zkF ?r2zkK ?r2zk6 ?r2zk7 ?r2zk8 ?r2zk9 ?r2zkB ?_ ?r2zc2 ?r2zc3 ?r2zc4 ?r2zc5; (case r2zkA => assumption); (case r2zkF => assumption); (case r2zkK => assumption); (case r2zk1 => k_asm); (case r2zk2 => k_asm); (case r2zk3 => k_asm); (case r2zk4 => k_asm); (case r2zk5 => k_asm); (case r2zk6 => k_is); (case r2zk7 => k_is); (case r2zk8 => omega); (case r2zk9 => exact BindsTo.of_eq rfl); (case r2zc5 => decide); (case r2zkB => exact locs rfl); (case r2zc2 => exact rfl); (case r2zc3 => exact rfl); (case r2zc4 => exact rfl); k_whole; intro zq_g' zq_L' zq_h' zq_FG' zq_F' zq_N' zq_B' zq_X' zq_T'; (try dsimp only); (try k_fold)))
  k_with "mysub" => (((with_reducible show wpAny _ _ (subscriptTail _ _ (Value.ref _) (Value.int _ _)) _ _ _); (with_unfolding_all first | (refine' sub_tup ?r3zN ?r3zm ?r3zi ?r3zj ?r3zx ?_ ?r3zh6; (case r3zN => k_asm); (case r3zm => k_extra "mem"); (case r3zi => exact rfl); (case r3zj => decide); (case r3zx => exact rfl); (case r3zh6 => rfl); k_whole) | (refine' sub_list ?r3zN ?r3zm ?r3zi ?r3zj ?r3zx ?_ ?r3zh6; (case r3zN => k_asm); (case r3zm => k_extra "mem"); (case r3zi => exact rfl); (case r3zj => omega); (case r3zx => assumption); (case r3zh6 => rfl); k_whole) | (refine' sub_list ?r3zN ?r3zm ?r3zi ?r3zj ?r3zx ?_ ?r3zh6; (case r3zN => k_asm); (case r3zm => k_extra "mem"); (case r3zi => exact rfl); (case r3zj => decide); (case r3zx => exact rfl); (case r3zh6 => rfl); k_whole) | (refine' di_item ?r3zN ?r3zm ?r3zd ?r3zv ?_ ?r3zh6; (case r3zN => k_asm); (case r3zm => k_extra "mem"); (case r3zd => with_reducible assumption); (case r3zv => with_reducible assumption); (case r3zh6 => rfl); k_whole; intro _) | (refine' ds_item ?r3zN ?r3zm ?r3zd ?r3zv ?_ ?r3zh6; (case r3zN => k_asm); (case r3zm => k_extra "mem"); (case r3zd => with_reducible assumption); (case r3zv => with_reducible assumption); (case r3zh6 => rfl); k_whole; intro _))))
  k_with "subscriptTail" => (k_extra "mysub")
  k_with "subscriptTail Name Constant ref int" => (k_extra "mysub")
  k_with "subscriptTail Name Name ref int" => (k_extra "mysub")
  k_with "subscriptTail Attribute Name Subscript Name Constant ref int" => (k_extra "mysub")
  k_with "getMethod ref" => (((with_reducible show wpAny _ _ (getMethod (Value.ref _) (PySem.Str.ofString "get") _) _ _ _); k_dflt (first | (refine' di_method ?r8zN ?r8zm ?r8zd ?_; (case r8zN => k_asm); (case r8zm => k_extra "mem"); (case r8zd => with_reducible assumption)) | (refine' ds_method ?r8zN ?r8zm ?r8zd ?_; (case r8zN => k_asm); (case r8zm => k_extra "mem"); (case r8zd => with_reducible assumption)))))
  k_with "call builtin:dict.get" => ((k_dflt (first | (refine' di_get ?r9zN ?r9zm ?r9zd ?r9zlo ?_; (case r9zN => k_asm); (case r9zm => k_extra "mem"); (case r9zd => with_reducible assumption); (case r9zlo => with_reducible assumption)) | (refine' ds_get ?r9zN ?r9zm ?r9zd ?r9zlo ?_; (case r9zN => k_asm); (case r9zm => k_extra "mem"); (case r9zd => with_reducible assumption); (case r9zlo => with_reducible assumption))); intro _))
  k_with "compareOp NotIn int ref" => ((k_dflt (refine' di_notin2 ?r10zN ?r10zm ?r10zd ?r10zlo ?_ ?_; (case r10zN => k_asm); (case r10zm => k_extra "mem"); (case r10zd => with_reducible assumption); (case r10zlo => with_reducible assumption)); intros))
  k_with "ite" => (with_reducible first | refine ite_t ?_ | refine ite_f ?_ | (refine' ite_bt ?r11zh ?_; (case r11zh => assumption)) | (refine' ite_bf ?r11zh ?_; (case r11zh => assumption)))
  k_with "opAt" => (first | with_reducible assumption | (refine' OpAt.mono ?r12zs ?r12zh; (case r12zh => with_reducible assumption); (case r12zs => k_extra "sub")) | (refine' OpAt.t ?r12zq; (case r12zq => k_extra "mem")) | (refine' OpAt.a ?r12zq; (case r12zq => k_extra "mem")) | (refine' OpAt.y ?r12zq; (case r12zq => k_extra "mem")) | (refine' OpAt.x ?r12zq; (case r12zq => k_extra "mem")))
  k_with "units" => (first | exact un1 (by with_reducible assumption) rfl | exact un0 (by with_reducible assumption) rfl | exact un2 (by with_reducible assumption) rfl | (simp only [units_in1, units_deeper, Around.mark_units, units_caller] at *; omega))
  k_with "compareOp Eq ref ref" => ((k_dflt (refine' op_eq ?r14zN ?r14za ?r14zb ?r14zu ?_; (case r14zN => k_asm); (case r14za => k_extra "opAt"); (case r14zb => k_extra "opAt"); (case r14zu => k_extra "units"); k_whole)))
  k_with "compareOp NotEq ref ref" => ((k_dflt (refine' op_ne ?r15zN ?r15za ?r15zb ?r15zu ?_; (case r15zN => k_asm); (case r15za => k_extra "opAt"); (case r15zb => k_extra "opAt"); (case r15zu => k_extra "units"); k_whole)))
  k_with "ne" => (first | with_reducible assumption | with_reducible exact Ne.symm (by with_reducible assumption) | with_reducible exact lt_ne_1 (by with_reducible assumption) | with_reducible exact lt_ne_2 (by with_reducible assumption) | with_reducible exact lt_ne_3 (by with_reducible assumption) | with_reducible exact lt_ne_4 (by with_reducible assumption) | with_reducible exact lt_ne_5 (by with_reducible assumption) | with_reducible exact lt_ne_6 (by with_reducible assumption) | with_reducible exact lt_ne_7 (by with_reducible assumption) | with_reducible exact lt_ne_8 (by with_reducible assumption) | with_reducible exact Ne.symm (lt_ne_1 (by with_reducible assumption)) | with_reducible exact Ne.symm (lt_ne_2 (by with_reducible assumption)) | with_reducible exact Ne.symm (lt_ne_3 (by with_reducible assumption)) | with_reducible exact Ne.symm (lt_ne_4 (by with_reducible assumption)) | with_reducible exact Ne.symm (lt_ne_5 (by with_reducible assumption)) | with_reducible exact Ne.symm (lt_ne_6 (by with_reducible assumption)) | with_reducible exact Ne.symm (lt_ne_7 (by with_reducible assumption)) | with_reducible exact Ne.symm (lt_ne_8 (by with_reducible assumption)) | omega)
  k_with "allne" => (first | with_reducible assumption | (refine' ne_of_lt_all ?r17zz; (case r17zz => with_reducible assumption)) | (refine' ne_of_fresh ?r17zz ?r17zm; (case r17zz => with_reducible assumption); (case r17zm => k_extra "mem")) | exact List.forall_mem_nil _ | (refine' List.forall_mem_cons.mpr ⟨?r17za, ?r17zb⟩; (case r17za => ((try dsimp only); k_extra "ne")); (case r17zb => k_extra "allne")))
  k_with "updF" => (first | (refine' UpdF.head ?r18za; (case r18za => k_extra "allne")) | (refine' UpdF.tail ?r18za ?r18zb; (case r18za => ((try dsimp only); k_extra "ne")); (case r18zb => k_extra "updF")))
  k_with "setItem ref int" => ((k_dflt (first | (refine' di_set ?r19zF ?r19zN ?r19zU ?r19zd ?r19zz ?_; (case r19zF => k_asm); (case r19zN => k_asm); (case r19zU => k_extra "updF"); (case r19zd => with_reducible assumption); (case r19zz => omega)) | (refine' ds_set ?r19zF ?r19zN ?r19zU ?r19zd ?r19zz ?_; (case r19zF => k_asm); (case r19zN => k_asm); (case r19zU => k_extra "updF"); (case r19zd => with_reducible assumption); (case r19zz => omega))); intro zq_h' zq_o' zq_F' zq_N' zq_hd'; (try dsimp only at zq_N'); (try k_sweep)))
  k_with "ifline" => (first | ((with_reducible refine' if_ne ?r20zF ?r20zv ?r20zn ?_ ?r20zk ?r20zl ?r20zd); (case r20zF => k_asm); (case r20zv => with_unfolding_all rfl); (case r20zn => decide +kernel); (case r20zk => rfl); (case r20zl => rfl); (case r20zd => decide); intro _) | ((with_reducible refine' if_eq ?r20zF ?r20zv ?r20zn ?_ ?r20zk ?r20zl ?r20zd); (case r20zF => k_asm); (case r20zv => with_unfolding_all rfl); (case r20zn => decide +kernel); (case r20zk => rfl); (case r20zl => rfl); (case r20zd => decide); intro _; dsimp only) | ((with_reducible refine' ifo_ne ?r20zF ?r20zv ?r20zn ?_ ?r20zk ?r20zl ?r20zd); (case r20zF => k_asm); (case r20zv => with_unfolding_all rfl); (case r20zn => decide +kernel); (case r20zk => rfl); (case r20zl => rfl); (case r20zd => decide); intro _) | ((with_reducible refine' ifo_eq ?r20zF ?r20zv ?r20zn ?_ ?r20zk ?r20zl ?r20zd); (case r20zF => k_asm); (case r20zv => with_unfolding_all rfl); (case r20zn => decide +kernel); (case r20zk => rfl); (case r20zl => rfl); (case r20zd => decide); intro _; dsimp only))
  k_with "execs cons" => (((with_reducible show wpAny _ _ (execs (Stmt.If _ _ _ _ :: _) _) _ _ _); k_dflt (k_extra "ifline")))
  k_with "ltall" => (first | assumption | exact tb_ltOf (by assumption) | (refine' tb_ltOf (And.right ?r22zz); (case r22zz => assumption)) | (refine' tb_ltOf (And.right (And.right ?r22zz)); (case r22zz => assumption)) | (refine' tb_ltOf (And.right (And.right (And.right ?r22zz))); (case r22zz => assumption)))
  k_with "fresh" => (first | exact FreshOver.nil | (refine' FreshOver.cons ?r23za ?r23zb; (case r23za => ((try dsimp only); k_extra "ltall")); (case r23zb => k_extra "fresh")))
  k_with "pairs" => (first | exact All2.nil | (refine' All2.cons ?r24za ?r24zb; (case r24za => (refine' PairAt.mk ?r24zc; (case r24zc => k_extra "mem"))); (case r24zb => k_extra "pairs")))
  k_with "upd" => (first | (refine' upd_app ?r25za ?r25zb; (case r25za => k_extra "allne"); (case r25zb => k_extra "upd")) | (refine' Upd.head ?r25za; (case r25za => k_extra "allne")) | (refine' Upd.tail ?r25za ?r25zb; (case r25za => ((try dsimp only); k_extra "ne")); (case r25zb => k_extra "upd")))
  k_with "setAttr ref" => ((k_dflt (refine' set_dict ?r26zF ?r26zX ?r26zN ?r26zI ?r26zd ?r26zs ?r26zp ?r26zt ?r26zh ?r26zl ?r26ze ?r26zU ?r26zz ?_; (case r26zF => k_asm); (case r26zX => k_asm); (case r26zN => k_asm); (case r26zI => k_inst); (case r26zd => exact rfl); (case r26zs => k_is); (case r26zp => k_is); (case r26zt => k_is); (case r26zh => k_is); (case r26zl => k_get); (case r26ze => k_put); (case r26zU => k_extra "upd"); (case r26zz => exact Nat.le_of_ble_eq_true rfl)); intro zq_h' zq_F' zq_N'; (try k_sweep)))
  k_with "compareOp Eq" => ((k_dflt (refine' pt_eq ?r27zN ?r27za ?r27zb ?r27zu ?_; (case r27zN => k_asm); (case r27za => with_reducible assumption); (case r27zb => with_reducible assumption); (case r27zu => k_extra "units"); k_whole)))
  k_with "compareOp NotEq" => ((k_dflt (refine' pt_ne ?r28zN ?r28za ?r28zb ?r28zu ?_; (case r28zN => k_asm); (case r28za => with_reducible assumption); (case r28zb => with_reducible assumption); (case r28zu => k_extra "units"); k_whole)))
  k_with "exec While Compare cons nil" => (first | ((k_dflt (k_extra "while")); (all_goals ((try ((try k_unmd); k_unfold; clear gG)); (try k_unmd); (try k_fold)))) | (k_here; (try k_fold); k_dflt (refine whl_start 100 ?_)))
  k_with "call builtin:isinstance" => ((k_dflt (first | (refine' isi_tup ?r30zF ?r30zX ?r30zN ?r30zm ?_; (case r30zF => k_asm); (case r30zX => k_asm); (case r30zN => k_asm); (case r30zm => k_extra "mem")) | (refine' isi_int ?r30zF ?r30zX ?r30zN ?_; (case r30zF => k_asm); (case r30zX => k_asm); (case r30zN => k_asm))); intro _))
  k_with "eval Name" => (((with_reducible refine' ldq ?r31zF ?r31zv ?r31zk ?r31zl ?r31zd ?_); (case r31zF => with_reducible assumption); (case r31zl => decide +kernel); (case r31zd => decide +kernel); (case r31zv => k_dflt (first | with_reducible assumption | exact @rfl _ (some _) | assumption)); (case r31zk => exact rfl)))
  k_with "TurnPost" => ((first | (with_reducible refine TurnPost.retI ?_) | (with_reducible refine TurnPost.nextI ?_)))
  k_with "exec For" => (((rename Fr _ _ _ _ => zq_lF'); (with_unfolding_all refine' For_invVF zq_lF' ?r33zk1 ?r33zk2 ?_; (case r33zk1 => exact rfl); (case r33zk2 => exact rfl); k_whole)))
  k_with "exec For Name Attribute cons nil" => (walk_at "exec For")
  k_with "exec For Name Name cons nil" => (walk_at "exec For")
  k_with "exec For Name Call cons nil" => (walk_at "exec For")
  k_with "rowAt" => (with_reducible assumption)
  k_with "depth" => (first | exact dp1 (by with_reducible assumption) rfl | exact dp0 (by with_reducible assumption) rfl | exact dp2 (by with_reducible assumption) rfl | (simp only [depth_under_make, depth_under_kw, depth_in1, depth_deeper, depth_caller] at *; omega))
  k_with "exec If" => (first | k_dflt (k_extra "if") | ((with_reducible refine wpAny_If ?_); (try dsimp only)))
  k_with "exec If Compare cons nil" => (walk_at "exec If")
  k_with "exec If BoolOp cons nil" => (walk_at "exec If")
  k_with "exec If Call cons nil" => (walk_at "exec If")
  k_with "exec If UnaryOp cons nil" => (walk_at "exec If")
  k_with "exec If Compare cons cons" => (walk_at "exec If")
  k_with "exec If BoolOp cons cons" => (walk_at "exec If")
  k_with "eval Call" => (((fail_if_success (with_reducible show wpAny _ _ (eval (Expr.Call (Expr.Name (PySem.Str.ofString "range") _) _ _ _) _) _ _ _)); (with_reducible show wpAny _ _ (eval (Expr.Call (Expr.Name _ _) _ _ _) _) _ _ _); k_dflt (refine Call_ ?_)))
  k_with "eval Call Attribute" => ((k_dflt (refine MethodCall_ ?_)))
  k_with "handled" => (first | assumption | exact rfl)
  k_with "frames" => (first | exact rfl | (refine' frames_deeper ?r49zz; (case r49zz => assumption)))
  k_with "pyIter ref" => (((k_dflt (k_extra "loop")); (all_goals ((try ((try k_unmd); k_unfold; clear gG)); (try dsimp only); (try k_unmd); (try k_fold)))))
  k_with "call ref" => (k_dflt (k_extra "call"))
  k_with "sub" => (first | with_reducible assumption | with_reducible exact sub_refl | (with_reducible refine sub_cons ?_; k_extra "sub") | (with_reducible refine sub_app ?_; k_extra "sub"))
  k_with "call builtin:list.append" => ((k_dflt (refine' app_l ?r53zF ?r53zN ?r53zU ?r53zz ?_; (case r53zF => k_asm); (case r53zN => k_asm); (case r53zU => k_extra "upd"); (case r53zz => exact Nat.le_of_ble_eq_true rfl)); intro zq_h' zq_F' zq_N'; (try dsimp only [List.cons_append, List.nil_append] at zq_N'); (try k_sweep)))
  k_with "compareOp In ref ref" => ((k_dflt (first | (refine' in_ops0 ?r54zN ?r54zl ?r54zo ?r54zu ?_; (case r54zN => k_asm); (case r54zl => k_extra "mem"); (case r54zo => k_extra "opAt"); (case r54zu => k_extra "units")) | (refine' in_ops1 ?r54zN ?r54zl ?r54zv ?r54zo ?r54zu ?_; (case r54zN => k_asm); (case r54zl => k_extra "mem"); (case r54zv => k_extra "opAt"); (case r54zo => k_extra "opAt"); (case r54zu => k_extra "units")))))
  k_with "assign Tuple" => ((k_dflt (refine' unpackN_ ?r55zF ?r55zN ?r55zT ?r55zh ?r55z2 ?r55z3 ?_; (case r55zF => k_asm); (case r55zN => k_asm); (case r55zT => (refine' News.isTup ?r55zy1 ?r55zy2; (case r55zy1 => k_asm); (case r55zy2 => k_extra "mem"))); (case r55zh => k_extra "handled"); (case r55z2 => exact rfl); (case r55z3 => exact rfl)); intro zq_h' zq_F' zq_N'; (try k_sweep)))
  k_with "WPost" => ((first | (with_reducible refine WPost.retI ?_) | (with_reducible refine WPost.nextI ?_)))
  k_with "WhlIf" => (((first | (refine' WhlIf.yes ?r57zz ?_; (case r57zz => (refine decide_eq_true ?_; omega))) | (refine' WhlIf.no ?r57zz ?_; (case r57zz => (refine decide_eq_false ?_; omega)))); (try dsimp only); (try k_unmd); (try k_fold)))
  k_with "call builtin:len" => ((k_dflt (refine' len_l ?r58zN ?r58zm ?r58zz ?_; (case r58zN => k_asm); (case r58zm => k_extra "mem"); (case r58zz => first | exact Nat.le_of_ble_eq_true rfl | omega)); intro _ _))
  k_with "loadName" => (((with_reducible refine' ldnq ?r59zF ?r59zv ?r59zk ?r59zl ?_); (case r59zF => with_reducible assumption); (case r59zl => decide +kernel); (case r59zv => k_dflt (first | with_reducible assumption | exact @rfl _ (some _) | assumption)); (case r59zk => exact rfl)))
  k_with "kv" => (with_reducible first | exact kv_held | exact kv_temps | exact kv_given | exact kv_out | exact kv_count)
  k_with "stitem" => ((k_dflt (refine' st_item ?r61zN ?r61zm ?r61zd ?r61zv ?_ ?r61zh6; (case r61zN => k_asm); (case r61zm => k_extra "mem"); (case r61zd => with_reducible assumption); (case r61zv => k_extra "kv"); (case r61zh6 => with_unfolding_all rfl))))
  k_with "subscriptTail Name Constant ref str" => (k_extra "stitem")
  k_with "call type:range" => ((k_dflt (first | (refine' range1_rows ?r63zF ?r63zN ?_; (case r63zF => k_asm); (case r63zN => k_asm)) | (refine' range2_rows ?r63zF ?r63zN ?_; (case r63zF => k_asm); (case r63zN => k_asm))); intro zq_h' zq_tk' zq_t9 zq_u9 zq_w9 zq_R' zq_F' zq_N' zq_kp'; clear zq_kp'; (try k_sweep)))
  k_with "TurnPost" => ((with_reducible refine TurnPost.contI ?_))
  k_with "unpackItems ref" => ((k_dflt (refine' unpackItemsN_ ?r65zF ?r65zN ?r65zT ?r65zh ?r65z2 ?_; (case r65zF => k_asm); (case r65zN => k_asm); (case r65zT => (refine' News.isTup ?r65zy1 ?r65zy2; (case r65zy1 => k_asm); (case r65zy2 => k_extra "mem"))); (case r65zh => k_extra "handled"); (case r65z2 => exact rfl)); intro zq_h' zq_F' zq_N'; (try k_sweep)))
  k_with "storeName" => (((k_dflt (refine' store_let ?r66zF ?r66zN ?_ ?r66za ?r66zb; (case r66zF => k_asm); (case r66zN => k_asm); (case r66za => rfl); (case r66zb => rfl); k_whole)); (intro zq_mk zq_h' zq_F' zq_N'); (try k_sweep)))
  k_with "callWith" => (((with_reducible show wpAny _ _ (callWith _ (Value.builtin "list.append") _ _ _) _ _ _); (k_dflt (refine callWith_method1 ?_))))
  k_with "ne" => (first | with_reducible assumption | with_reducible exact Ne.symm (by with_reducible assumption) | with_reducible exact lt_ne_1 (by with_reducible assumption) | with_reducible exact lt_ne_2 (by with_reducible assumption) | with_reducible exact lt_ne_3 (by with_reducible assumption) | with_reducible exact lt_ne_4 (by with_reducible assumption) | with_reducible exact lt_ne_5 (by with_reducible assumption) | with_reducible exact lt_ne_6 (by with_reducible assumption) | with_reducible exact lt_ne_7 (by with_reducible assumption) | with_reducible exact lt_ne_8 (by with_reducible assumption) | omega)
  k_with "compareOp In str str" => ((first | (refine in_lit (b := true) ?r131zb ?_; (case r131zb => decide +kernel)) | (refine in_lit (b := false) ?r131zb ?_; (case r131zb => decide +kernel))))
  k_with "setItem ref int str" => ((k_dflt (refine' ds_set ?r132zF ?r132zN ?r132zU ?r132zd ?r132zz ?_; (case r132zF => k_asm); (case r132zN => k_asm); (case r132zU => k_extra "updF"); (case r132zd => with_reducible assumption); (case r132zz => assumption)); intro zq_h' zq_o' zq_F' zq_N' zq_hd'; (try dsimp only at zq_N'); (try k_sweep)))
  k_with "setItem ref str" => ((k_dflt (first | ((with_reducible show wpAny _ _ (setItem _ (Value.str (PySem.Str.ofString "count") _) _) _ _ _); refine' st_count ?r133zF ?r133zN ?r133zU ?r133zd ?_; (case r133zF => k_asm); (case r133zN => k_asm); (case r133zU => k_extra "updF"); (case r133zd => with_reducible assumption)) | ((with_reducible show wpAny _ _ (setItem _ (Value.str (PySem.Str.ofString "held") _) _) _ _ _); refine' st_held ?r133zF ?r133zN ?r133zU ?r133zd ?_; (case r133zF => k_asm); (case r133zN => k_asm); (case r133zU => k_extra "updF"); (case r133zd => with_reducible assumption)) | ((with_reducible show wpAny _ _ (setItem _ (Value.str (PySem.Str.ofString "temps") _) _) _ _ _); refine' st_temps ?r133zF ?r133zN ?r133zU ?r133zd ?_; (case r133zF => k_asm); (case r133zN => k_asm); (case r133zU => k_extra "updF"); (case r133zd => with_reducible assumption)) | ((with_reducible show wpAny _ _ (setItem _ (Value.str (PySem.Str.ofString "given") _) _) _ _ _); refine' st_given ?r133zF ?r133zN ?r133zU ?r133zd ?_; (case r133zF => k_asm); (case r133zN => k_asm); (case r133zU => k_extra "updF"); (case r133zd => with_reducible assumption)) | ((with_reducible show wpAny _ _ (setItem _ (Value.str (PySem.Str.ofString "out") _) _) _ _ _); refine' st_out ?r133zF ?r133zN ?r133zU ?r133zd ?_; (case r133zF => k_asm); (case r133zN => k_asm); (case r133zU => k_extra "updF"); (case r133zd => with_reducible assumption))); intro zq_h' zq_o' zq_F' zq_N' zq_hd'; (try dsimp only at zq_N'); (try k_sweep)))
  k_with "subscriptTail Name BinOp ref int" => ((k_dflt (refine' sub_tupS ?r134zN ?r134zm ?r134zj ?r134zx ?_ ?r134zs; (case r134zN => k_asm); (case r134zm => k_extra "mem"); (case r134zj => omega); (case r134zx => with_reducible assumption); (case r134zs => with_unfolding_all rfl))))
  k_with "call builtin:len" => ((k_dflt (first | refine len_d ?_ | (refine' len_t ?r135zN ?r135zm ?r135zz ?r135zy ?_; (case r135zN => k_asm); (case r135zm => k_extra "mem"); (case r135zz => assumption); (case r135zy => omega))); intro _ _))
  k_with "subscriptTail Name Name str int" => ((k_dflt (refine' dd_item ?r136zd ?_ ?r136zs ?r136zt; (case r136zd => assumption); (case r136zs => with_unfolding_all rfl); (case r136zt => (intro _; with_unfolding_all rfl))); intro _; dsimp only [Dd.str]))
  k_with "exec For Name List cons nil" => (walk_at "exec For")
  k_with "call" => ((with_reducible show wpAny _ _ (call (Value.ref 168) _) _ _ _); (k_dflt (refine' ct_use_t (meant_ct c) ?zh ?zA ?zf ?zk ?zd ?zu ?zB ?zF ?zX ?zN ?zT ?_; (case zN => k_asm);  (case zh => k_extra "handled"); (case zA => k_extra "frames"); (case zf => exact rfl); (case zk => exact rfl); (case zd => k_extra "depth"); (case zu => k_extra "units"); (case zB => k_asm); (case zF => k_asm); (case zX => k_asm); (case zT => k_asm))); (intro t9 h' tk' F' N'); (try k_sweep))
  k_with "call" => ((with_reducible show wpAny _ _ (call (Value.ref 175) _) _ _ _); (k_dflt (refine' ct_use_t (label_ct c hS9 ?y1 ?y2) ?zh ?zA ?zf ?zk ?zd ?zu ?zB ?zF ?zX ?zN ?zT ?_; (case zN => k_asm); (case y1 => exact fun p hp => List.mem_append_left keep hp); (case y2 => (refine' OpAt.mono ?ZQ q9; (case ZQ => k_extra "sub"))); (case zh => k_extra "handled"); (case zA => k_extra "frames"); (case zf => exact rfl); (case zk => exact rfl); (case zd => k_extra "depth"); (case zu => k_extra "units"); (case zB => k_asm); (case zF => k_asm); (case zX => k_asm); (case zT => k_asm))); (intro t8 h' tk' F' N'); (try k_sweep))
  k_with "if" => (
    (with_reducible show wpAny _ _ (exec (Stmt.If _ [Stmt.Assign [Expr.Name (PySem.Str.ofString "label") _] _ _] [] _) _) _ _ _)
    (fail_if_success (with_reducible show wpAny _ _ _ (MidP _) _ _))
    (rename Obj => o9)
    (first
      | (
        (with_reducible show wpAny _ _ (exec (Stmt.If (Expr.Compare _ _ _ _) _ _ _) _) _ _ _)
        obtain ⟨tn9, hS9⟩ : ∃ tn9, LkS c.w ⟨S, H, TT, G, O, o9, oH, oT, oG, oO, tn9⟩ { st with n := st.n + 1 } := ⟨_, by constructor <;> assumption⟩
        refine wpAny_mono (Q := MidP fun f s9 => f = Flow.next ∧ ∃ lab t h9 tk9 m9, s9 = ⟨h9, s.gens, s.drawn, tk9, s.os⟩ ∧ (k ≠ .putVal → lab = lLab { st with n := st.n + 1 } ⟨k, ps⟩) ∧ (k = .putVal → lab = vl (st.n + 1)) ∧
          Fr g' L' h9 m9 ∧ m9 (PySem.Str.ofString "state") = some (.ref S) ∧ m9 (PySem.Str.ofString "parts") = some (.ref ia) ∧ m9 (PySem.Str.ofString "row") = some (.ref ra) ∧ m9 (PySem.Str.ofString "label") = some (.str lab t) ∧
          News g' L' h9 ((S, o9) :: (H, oH) :: (TT, oT) :: (G, oG) :: (O, oO) :: keep)) ?_ ?_ (fun _ _ e => e)
        rotate_left 1
        intro f9 s9 h9
        (show (let gG : Prop := _; gG)); intro gG; obtain ⟨hf9, lab, tv, hp9, tk9, m9, hs9, hPa, hPb, F', hm1, hm2, hm3, hm4, N'⟩ := h9; k_unfold; clear gG
        subst hf9 hs9
        dsimp only
        (rename Fr g' _ _ (fun y => ite _ _ _) => lF'); clear lF'
        rotate_right 1
        rcases getVar_cases hw hv { st with n := st.n + 1 } with ⟨v1, v2, o2, hb, rfl, q9, hk9, hl9⟩ | ⟨hb, hl9⟩)
      | (
        (with_reducible show wpAny _ _ (exec (Stmt.If (Expr.BoolOp _ _ _) _ _ _) _) _ _ _)
        refine wpAny_mono (Q := MidP fun f s9 => f = Flow.next ∧ ∃ lab t h9 tk9 m9, s9 = ⟨h9, s.gens, s.drawn, tk9, s.os⟩ ∧ lab = lLab { st with n := st.n + 1 } ⟨k, ps⟩ ∧
          Fr g' L' h9 m9 ∧ m9 (PySem.Str.ofString "state") = some (.ref S) ∧ m9 (PySem.Str.ofString "parts") = some (.ref ia) ∧ m9 (PySem.Str.ofString "row") = some (.ref ra) ∧ m9 (PySem.Str.ofString "label") = some (.str lab t) ∧
          News g' L' h9 ((S, o9) :: (H, oH) :: (TT, oT) :: (G, oG) :: (O, oO) :: keep)) ?_ ?_ (fun _ _ e => e)
        rotate_left 1
        intro f9 s9 h9
        (show (let gG : Prop := _; gG)); intro gG; obtain ⟨hf9, lab, tv, hp9, tk9, m9, hs9, hP, F', hm1, hm2, hm3, hm4, N'⟩ := h9; k_unfold; clear gG
        subst hf9 hs9
        dsimp only
        rotate_right 1
        rcases putVal_cases hw hv { st with n := st.n + 1 } with ⟨v1, v2, j, hk9, hb, rfl, q9, hl9⟩ | ⟨v1, v2, j, hk9, hb, rfl, q9, hl9⟩ | ⟨hk9, hb⟩
        (obtain ⟨a1, b1, b2, b3, e1, mm1⟩ := op_inv q9; subst e1; dsimp only [Op.tag, Op.num] at mm1)
        rotate_left 1
        (obtain ⟨a1, b1, b2, b3, e1, mm1⟩ := op_inv q9; subst e1; dsimp only [Op.tag, Op.num] at mm1)
        rotate_right 1)))
  k_with "loop" => (first
    | (
      (rename Fr _ _ _ _ => lF'); (rename News _ _ _ _ => lN'); (rename IsRange _ _ _ _ _ _ _ _ => lR')
      refine ra_iter (n := k.ar) (fun i m nx => ∃ a2 st2, m (PySem.Str.ofString "state") = some (.ref S) ∧ m (PySem.Str.ofString "parts") = some (.ref ia) ∧ m (PySem.Str.ofString "row") = some (.ref ra) ∧ m (PySem.Str.ofString "deeds") = some (.str k.deeds t9) ∧ m (PySem.Str.ofString "label") = some (.str lab tv) ∧
        nx = LA.fp a2 ++ keep ∧ a2.S = S ∧ LkS c.w a2 st2 ∧ LkOff a2 keep ∧ st2.Le (nn + i) ∧ lGo lab st2 ((spots ⟨k, ps⟩ ⟨k, qs⟩).drop i) = lGo lab { st with n := st.n + 1 } (spots ⟨k, ps⟩ ⟨k, qs⟩))
        (by assumption) lR' range_ar.1 range_ar.2 lF' lN' ⟨⟨S, H, TT, G, O, o9, oH, oT, oG, oO, tn9⟩, { st with n := st.n + 1 }, by assumption, by assumption, by assumption, rfl, by assumption, rfl, rfl, hS9, hK0 _ _, hn0, rfl⟩ (fun i ti m₁ nx h' tk' own hi9 hoff hJ F' N' => ?_) (fun m₁ nx h' tk' hJ F' N' => ?_)
      all_goals (
        clear lF' lN' lR' hS9 hm1 hm2 hm3 hm4
        (show (let gG : Prop := _; gG)); intro gG; obtain ⟨a2, st2, hm1, hm2, hm3, hm4, hm5, hnx, hx2, hS2, hK2, hLe, hgo⟩ := hJ
        subst hnx
        change Fr g' L' h' _ at F'
        change News g' L' h' _ at N'
        (try dsimp only))
      rotate_left 1
      have hfin := lGo_end hgo
      rotate_right 1
      simp only [Int.zero_add] at F'
      rw [List.append_assoc] at N'
      have hK3 := hK2.own hoff
      have hown : OwnOff own (keep.map (·.1)) := ownL_right hoff
      clear hK2 hoff
      obtain ⟨dd, p9, q9, hd9, hp9, hq9, hsp⟩ := spot_of hw hw' hi9
      obtain ⟨v9, hv9, hpv⟩ := all2_getL hv hp9
      obtain ⟨w9, hw9, hpw⟩ := all2_getL hq hq9
      have hv8 : (Value.str k.name tka :: vs)[i + 1]? = some v9 := by simpa using hv9
      have hw8 : (Value.str k.name tkb :: ws)[i + 1]? = some w9 := by simpa using hw9
      obtain ⟨S', H, TT, G, O, oS, oH, oT, oG, oO, tn⟩ := a2
      obtain ⟨dS, dH, dT, dG, dO, loS, loH, loT, loG, loO, n1, n2, n3, n4, n5, n6, n7, n8, n9, n10⟩ := hS2
      obtain ⟨kk1, kk2, kk3, kk4, kk5⟩ := hK3
      obtain ⟨l1, l2, l3⟩ := hLe
      have hz1 : st2.held.length ≤ 1000 := by omega
      have hz2 : st2.temps.length ≤ 1000 := by omega
      have hz3 : st2.out.length ≤ 1000 := by omega
      dsimp only at hx2
      subst hx2
      simp only [LA.fp, List.cons_append, List.nil_append] at *
      rcases hsp with ⟨y1, y2⟩ | ⟨y1, y2⟩ | ⟨y1, y2⟩ | ⟨y1, y2⟩ | ⟨y1, y2⟩ | ⟨y1, y2⟩ | ⟨y1, y2⟩ | ⟨y1, y2⟩
      any_goals (first
        | (replace hpv := hpv.toOp
           replace hpw := hpw.toOp
           obtain ⟨a1, b1, b2, b3, e1, mm1⟩ := op_inv hpv
           obtain ⟨a2, b4, b5, b6, e2, mm2⟩ := op_inv hpw
           subst e1
           subst e2
           dsimp only [Op.tag, Op.num] at mm1 mm2
           replace mm1 := List.mem_append_left own mm1
           replace mm2 := List.mem_append_left own mm2)
        | (cases hpv
           cases hpw))
      all_goals try (
        replace hi := List.mem_append_left own hi
        replace hrr := List.mem_append_left own hrr))
    | (
      (rename Fr _ _ _ _ => lF'); (rename News _ _ _ _ => lN')
      refine name_list lN' (fun l9 vs9 e1 e2 lN9 => ?_)
      subst e1
      clear lN'
      have hlt9 : ∀ p ∈ LA.fp a2 ++ keep, p.1 < l9 := by first | assumption | exact tb_ltOf (by assumption)
      have hK9 := LkOff.cons (o := listOf vs9.toArray 0) hK2 hlt9
      refine li_iter (vs := vs9) (nn := 0) (fun i m nx => ∃ a3, m (PySem.Str.ofString "state") = some (.ref S) ∧ nx = LA.fp a3 ++ (l9, listOf vs9.toArray 0) :: keep ∧ a3.S = S ∧ LkS c.w a3 (st2.clr i) ∧ LkOff a3 ((l9, listOf vs9.toArray 0) :: keep))
        (by assumption) (List.mem_append_right _ List.mem_cons_self) lF' (News.sub lN9 swap_head) ⟨a2, by assumption, rfl, hx2, hS2, hK9⟩ (fun i v m₁ nx h' tk' own hget hoff hmem hJ F' N' => ?_) (fun m₁ nx h' tk' hJ F' N' => ?_)
      all_goals (
        clear lF' lN9 hlt9 hK9 hS2 hK2 hx2
        (show (let gG : Prop := _; gG)); intro gG; obtain ⟨a3, hm9, hnx, hx2, hS2, hK2⟩ := hJ
        subst hnx
        change Fr g' L' h' _ at F'
        change News g' L' h' _ at N'
        (try dsimp only))
      rw [List.append_assoc] at N'
      have hK3 := hK2.own hoff
      have hown : OwnOff own (((l9, listOf vs9.toArray 0) :: keep).map (·.1)) := ownL_right hoff
      clear hK2 hoff hmem
      obtain ⟨S', H, TT, G, O, oS, oH, oT, oG, oO, tn⟩ := a3
      rcases i with _ | _ | _ | _ | i
      all_goals try (
        obtain ⟨dS, dH, dT, dG, dO, loS, loH, loT, loG, loO, n1, n2, n3, n4, n5, n6, n7, n8, n9, n10⟩ := hS2
        obtain ⟨kk1, kk2, kk3, kk4, kk5⟩ := hK3
        dsimp only at hx2
        subst hx2
        simp only [LA.fp, List.cons_append, List.nil_append] at *
        rw [e2] at hget
        first
          | (have h9 := (Option.some.inj hget).symm; subst h9)
          | (simp at hget; done))))
  refine wpAny_call ?_
  k_dflt (refine' code_def (binds := [(PySem.Str.ofString "state", .ref S), (PySem.Str.ofString "parts", .ref ia), (PySem.Str.ofString "row", .ref ra)]) ?zk1 ?zk2 ?zk3 ?zk4 ?zk5 ?zkA ?zkF ?zkK ?zk6 ?zk7 ?zk8 ?zk9 ?zkB ?_ ?zc2 ?zc3 ?zc4 ?zc5; (case zkA => assumption); (case zkF => assumption); (case zkK => assumption); (case zk1 => k_asm); (case zk2 => k_asm); (case zk3 => k_asm); (case zk4 => k_asm); (case zk5 => k_asm); (case zk6 => k_is); (case zk7 => k_is); (case zk8 => omega); (case zk9 => exact BindsTo.of_eq rfl); (case zc5 => decide); (case zkB => exact locs rfl); (case zc2 => exact rfl); (case zc3 => exact rfl); (case zc4 => exact rfl); k_whole; intro g' L' h' FG' F' N' B' X' T'; (try dsimp only [List.reverse_cons, List.reverse_nil, List.nil_append, List.cons_append] at F'); (try dsimp only); (try k_fold))
  k_steps
  · rename Fr g' _ _ _ => F9
    rename News g' _ _ _ => N9
    exact ⟨rfl, _, _, _, _, _, rfl, fun _ => hl9.symm, fun e => absurd e hk9, F9, rfl, rfl, rfl, rfl, N9⟩
  · rename Fr g' _ _ _ => F9
    rename News g' _ _ _ => N9
    exact ⟨rfl, _, _, _, _, _, rfl, fun e => (hl9 e).symm, fun e => rfl, F9, rfl, rfl, rfl, rfl, N9⟩
  · rename Fr g' _ _ _ => F9
    rename News g' _ _ _ => N9
    exact ⟨rfl, _, _, _, _, _, rfl, hl9.symm, F9, hm1, hm2, hm3, rfl, N9⟩
  · rename Fr g' _ _ _ => F9
    rename News g' _ _ _ => N9
    exact ⟨rfl, _, _, _, _, _, rfl, (hPb hk9).trans hl9.symm, F9, hm1, hm2, hm3, hm4, N9⟩
  · rename Fr g' _ _ _ => F9
    rename News g' _ _ _ => N9
    exact ⟨rfl, _, _, _, _, _, rfl, hPa hk9, F9, hm1, hm2, hm3, hm4, N9⟩
  all_goals try (
    rename Fr g' _ _ _ => F9
    rename News g' _ _ _ => N9
    refine TurnEnd.intro (nx := LA.fp ⟨_, H, TT, G, O, oS, _, _, _, _, tn⟩ ++ keep) F9 N9 sub_l (sub_cons (sub_cons (sub_cons (sub_cons (sub_cons sub_own))))) (LkOff.ownoff ⟨kk1, kk2, kk3, kk4, kk5⟩ hown) ⟨⟨_, H, TT, G, O, oS, _, _, _, _, tn⟩, _, hm1, hm2, hm3, hm4, hm5, rfl, rfl, ?_, ⟨kk1.left, kk2.left, kk3.left, kk4.left, kk5.left⟩, ?_, lGo_step hd9 hp9 hq9 hgo⟩
    · constructor <;> assumption
    · constructor <;> dsimp only [LS.write] <;> first | exact Nat.le_succ_of_le l1 | exact Nat.le_succ_of_le l2 | exact Nat.le_succ_of_le l3 | exact Nat.le_trans (put_length _ _ _) (Nat.succ_le_succ l1) | exact Nat.le_trans (put_length _ _ _) (Nat.succ_le_succ l2) | exact Nat.le_trans (put_length _ _ _) (Nat.succ_le_succ l3) | omega | exact Nat.le_trans (put_length _ _ _) (by omega))
  · rename Fr g' _ _ _ => F9
    rename News g' _ _ _ => N9
    refine' TurnEnd.intro (nx := LA.fp ⟨S', _, TT, G, O, _, _, oT, oG, oO, tn⟩ ++ (l9, listOf vs9.toArray 0) :: keep) F9 N9 (subL5 ?q1 ?q2 ?q3 ?q4 ?q5 (sub_cons (sub_cons (sub_cons (sub_cons (sub_cons (sub_cons sub_l9)))))) ) (sub_cons (sub_cons (sub_cons (sub_cons (sub_cons (sub_cons (sub_cons sub_own))))))) (LkOff.ownoff (keep := (l9, listOf vs9.toArray 0) :: keep) ⟨kk1, (off_ltL (and5 (by assumption))), kk3, kk4, kk5⟩ hown) ⟨List.mem_append_right _ List.mem_cons_self, ⟨_, _, _, _, _, _, _, _, _, _, tn⟩, hm9, rfl, rfl, ?q6, ⟨Off.left (t := (l9, listOf vs9.toArray 0) :: keep) (k := own) kk1, Off.left (t := (l9, listOf vs9.toArray 0) :: keep) (k := own) (off_ltL (and5 (by assumption))), Off.left (t := (l9, listOf vs9.toArray 0) :: keep) (k := own) kk3, Off.left (t := (l9, listOf vs9.toArray 0) :: keep) (k := own) kk4, Off.left (t := (l9, listOf vs9.toArray 0) :: keep) (k := own) kk5⟩⟩
    case q1 => k_extra "mem"
    case q2 => k_extra "mem"
    case q3 => k_extra "mem"
    case q4 => k_extra "mem"
    case q5 => k_extra "mem"
    case q6 => constructor <;> first | assumption | exact DS.nil (by assumption) | k_extra "ne" | exact Ne.symm (by k_extra "ne")
  · rename Fr g' _ _ _ => F9
    rename News g' _ _ _ => N9
    refine' TurnEnd.intro (nx := LA.fp ⟨S', H, _, G, O, _, oH, _, oG, oO, tn⟩ ++ (l9, listOf vs9.toArray 0) :: keep) F9 N9 (subL5 ?q1 ?q2 ?q3 ?q4 ?q5 (sub_cons (sub_cons (sub_cons (sub_cons (sub_cons (sub_cons sub_l9)))))) ) (sub_cons (sub_cons (sub_cons (sub_cons (sub_cons (sub_cons (sub_cons sub_own))))))) (LkOff.ownoff (keep := (l9, listOf vs9.toArray 0) :: keep) ⟨kk1, kk2, (off_ltL (and5 (by assumption))), kk4, kk5⟩ hown) ⟨List.mem_append_right _ List.mem_cons_self, ⟨_, _, _, _, _, _, _, _, _, _, tn⟩, hm9, rfl, rfl, ?q6, ⟨Off.left (t := (l9, listOf vs9.toArray 0) :: keep) (k := own) kk1, Off.left (t := (l9, listOf vs9.toArray 0) :: keep) (k := own) kk2, Off.left (t := (l9, listOf vs9.toArray 0) :: keep) (k := own) (off_ltL (and5 (by assumption))), Off.left (t := (l9, listOf vs9.toArray 0) :: keep) (k := own) kk4, Off.left (t := (l9, listOf vs9.toArray 0) :: keep) (k := own) kk5⟩⟩
    case q1 => k_extra "mem"
    case q2 => k_extra "mem"
    case q3 => k_extra "mem"
    case q4 => k_extra "mem"
    case q5 => k_extra "mem"
    case q6 => constructor <;> first | assumption | exact DS.nil (by assumption) | k_extra "ne" | exact Ne.symm (by k_extra "ne")
  · rename Fr g' _ _ _ => F9
    rename News g' _ _ _ => N9
    refine' TurnEnd.intro (nx := LA.fp ⟨S', H, TT, _, O, _, oH, oT, _, oO, tn⟩ ++ (l9, listOf vs9.toArray 0) :: keep) F9 N9 (subL5 ?q1 ?q2 ?q3 ?q4 ?q5 (sub_cons (sub_cons (sub_cons (sub_cons (sub_cons (sub_cons sub_l9)))))) ) (sub_cons (sub_cons (sub_cons (sub_cons (sub_cons (sub_cons (sub_cons sub_own))))))) (LkOff.ownoff (keep := (l9, listOf vs9.toArray 0) :: keep) ⟨kk1, kk2, kk3, (off_ltL (and5 (by assumption))), kk5⟩ hown) ⟨List.mem_append_right _ List.mem_cons_self, ⟨_, _, _, _, _, _, _, _, _, _, tn⟩, hm9, rfl, rfl, ?q6, ⟨Off.left (t := (l9, listOf vs9.toArray 0) :: keep) (k := own) kk1, Off.left (t := (l9, listOf vs9.toArray 0) :: keep) (k := own) kk2, Off.left (t := (l9, listOf vs9.toArray 0) :: keep) (k := own) kk3, Off.left (t := (l9, listOf vs9.toArray 0) :: keep) (k := own) (off_ltL (and5 (by assumption))), Off.left (t := (l9, listOf vs9.toArray 0) :: keep) (k := own) kk5⟩⟩
    case q1 => k_extra "mem"
    case q2 => k_extra "mem"
    case q3 => k_extra "mem"
    case q4 => k_extra "mem"
    case q5 => k_extra "mem"
    case q6 => constructor <;> first | assumption | exact DS.nil (by assumption) | k_extra "ne" | exact Ne.symm (by k_extra "ne")
  · rename Fr g' _ _ _ => F9
    rename News g' _ _ _ => N9
    refine' TurnEnd.intro (nx := LA.fp ⟨S', H, TT, G, _, _, oH, oT, oG, _, tn⟩ ++ (l9, listOf vs9.toArray 0) :: keep) F9 N9 (subL5 ?q1 ?q2 ?q3 ?q4 ?q5 (sub_cons (sub_cons (sub_cons (sub_cons (sub_cons (sub_cons sub_l9)))))) ) (sub_cons (sub_cons (sub_cons (sub_cons (sub_cons (sub_cons (sub_cons sub_own))))))) (LkOff.ownoff (keep := (l9, listOf vs9.toArray 0) :: keep) ⟨kk1, kk2, kk3, kk4, (off_ltL (and5 (by assumption)))⟩ hown) ⟨List.mem_append_right _ List.mem_cons_self, ⟨_, _, _, _, _, _, _, _, _, _, tn⟩, hm9, rfl, rfl, ?q6, ⟨Off.left (t := (l9, listOf vs9.toArray 0) :: keep) (k := own) kk1, Off.left (t := (l9, listOf vs9.toArray 0) :: keep) (k := own) kk2, Off.left (t := (l9, listOf vs9.toArray 0) :: keep) (k := own) kk3, Off.left (t := (l9, listOf vs9.toArray 0) :: keep) (k := own) kk4, Off.left (t := (l9, listOf vs9.toArray 0) :: keep) (k := own) (off_ltL (and5 (by assumption)))⟩⟩
    case q1 => k_extra "mem"
    case q2 => k_extra "mem"
    case q3 => k_extra "mem"
    case q4 => k_extra "mem"
    case q5 => k_extra "mem"
    case q6 => constructor <;> first | assumption | exact DS.nil (by assumption) | k_extra "ne" | exact Ne.symm (by k_extra "ne")
  · rename Fr h₀ _ _ _ => F9
    rename News h₀ _ _ _ => N9
    refine ret _ _ _ _ F9 (News.sub N9 (fun p hp => (List.mem_append.mp hp).elim (fun h => List.mem_append_left _ h) fun h => List.mem_append_right _ (.tail _ h))) ?_
    rw [lStep_eq hP hfin, if_pos (call_of (by assumption))]
    have h4 : vs9.length = 4 := by rw [e2]; rfl
    rw [h4] at hS2
    exact ⟨a3, rfl, hx2, hS2, hK2.uncons, ⟨Nat.zero_le _, Nat.zero_le _, Nat.zero_le _⟩⟩
  · rename Fr h₀ _ _ _ => F9
    rename News h₀ _ _ _ => N9
    refine ret _ _ _ _ F9 N9 ?_
    rw [lStep_eq hP hfin, if_neg (ncall_of (by assumption))]
    exact ⟨a2, rfl, hx2, hS2, hK2, hLe.mono (by omega)⟩
end
section
noncomputable def inl (n : Int) : PySem.Str := PySem.Str.ofString "in" ++ PySem.Str.ofString (toString n)
noncomputable def iniL : Nat → LS
  | 0 => ⟨[], [], [], [], 0⟩
  | k + 1 => { iniL k with held := put (iniL k).held (1 + (k : Int)) (inl (1 + (k : Int))), given := put (iniL k).given (1 + (k : Int)) (inl (1 + (k : Int))) }
theorem iniL_le (k : Nat) : (iniL k).Le k ∧ (iniL k).given.length ≤ k ∧ (iniL k).n = 0 := by
  induction k with
  | zero => exact ⟨⟨Nat.le_refl _, Nat.le_refl _, Nat.le_refl _⟩, Nat.le_refl _, rfl⟩
  | succ k ih => exact ⟨⟨Nat.le_trans (put_length _ _ _) (Nat.succ_le_succ ih.1.held), Nat.le_succ_of_le ih.1.temps, Nat.le_succ_of_le ih.1.out⟩, Nat.le_trans (put_length _ _ _) (Nat.succ_le_succ ih.2.1), ih.2.2⟩
noncomputable def lRun : LS → List Row → List Row → Bool
  | _, [], [] => true
  | st, r :: rs, s :: ss => rightB st r s && lRun (lStep st r s) rs ss
  | _, _, _ => false
theorem range_in {ar : Int} (h0 : 0 ≤ ar) (h3 : ar ≤ 3) : Builtin.Range.small 1 (ar + 1) 1 = true ∧ Builtin.Range.rangeSize 1 (ar + 1) 1 = (ar.toNat : Int) := by
  obtain rfl | rfl | rfl | rfl : ar = 0 ∨ ar = 1 ∨ ar = 2 ∨ ar = 3 := by omega
  all_goals exact ⟨by decide, by decide⟩
theorem lStep_n {st : LS} {r s : Row} : (lStep st r s).n = st.n + 1 := by
  have go : ∀ (v : PySem.Str) (l : List (Dd × Pt × Pt)) (st : LS), (lGo v st l).n = st.n := by
    intro v l
    induction l with
    | nil => intro st; rfl
    | cons x l ih =>
      intro st
      obtain ⟨d, p, q⟩ := x
      show (lGo v (st.write v d p q) l).n = st.n
      rw [ih]
      unfold LS.write
      split <;> rfl
  unfold lStep
  dsimp only
  split
  · exact go _ _ _
  · exact go _ _ _
theorem mk_la {w : World} {h₀ h : Heap} {L S H T G O : Addr} {oS oH oT oG oO : Obj} {tn : Tok} {keep : List (Addr × Obj)} (N : News h₀ L h ((O, oO) :: (G, oG) :: (T, oT) :: (H, oH) :: (S, oS) :: keep))
    (dS : oS.IsDictOf (PySem.strKind PR w) (lawKv H T G O tn 0)) (dH : oH.IsDictOf (PySem.intKind PR w) []) (dT : oT.IsDictOf (PySem.intKind PR w) []) (dG : oG.IsDictOf (PySem.intKind PR w) []) (dO : oO.IsDictOf (PySem.intKind PR w) [])
    (loS : (S == sysModules) = false) (loH : (H == sysModules) = false) (loT : (T == sysModules) = false) (loG : (G == sysModules) = false) (loO : (O == sysModules) = false)
    (lS : ∀ p ∈ keep, p.1 < S) (lH : S < H ∧ AllLt H keep) (lT : H < T ∧ S < T ∧ AllLt T keep) (lG : T < G ∧ H < G ∧ S < G ∧ AllLt G keep) (lO : G < O ∧ T < O ∧ H < O ∧ S < O ∧ AllLt O keep) :
    ∃ a, News h₀ L h (a.fp ++ keep) ∧ a.S = S ∧ LkS w a (iniL 0) ∧ LkOff a keep := by
  refine ⟨⟨S, H, T, G, O, oS, oH, oT, oG, oO, tn⟩, News.sub N ?_, rfl, ⟨dS, .nil dH, .nil dT, .nil dG, .nil dO, loS, loH, loT, loG, loO, ?_, ?_, ?_, ?_, ?_, ?_, ?_, ?_, ?_, ?_⟩,
    ⟨fun p hp => Nat.ne_of_lt (lS p hp), off_ltL lH.2, off_ltL lT.2.2, off_ltL lG.2.2.2, off_ltL lO.2.2.2.2⟩⟩
  · intro p hp
    simp only [LA.fp, List.cons_append, List.nil_append, List.mem_cons] at hp ⊢
    rcases hp with h | h | h | h | h | h <;> simp only [h, true_or, or_true]
  · exact Nat.ne_of_gt lH.1
  · exact Nat.ne_of_gt lT.2.1
  · exact Nat.ne_of_gt lG.2.2.1
  · exact Nat.ne_of_gt lO.2.2.2.1
  · exact Nat.ne_of_gt lT.1
  · exact Nat.ne_of_gt lG.2.1
  · exact Nat.ne_of_gt lO.2.2.1
  · exact Nat.ne_of_gt lG.1
  · exact Nat.ne_of_gt lO.2.1
  · exact Nat.ne_of_gt lO.1
theorem range_n {n : Nat} (h : n ≤ 60) : Builtin.Range.small 0 (n : Int) 1 = true ∧ Builtin.Range.rangeSize 0 (n : Int) 1 = (n : Int) := by
  have go : ∀ n : Fin 61, Builtin.Range.small 0 (n.val : Int) 1 = true ∧ Builtin.Range.rangeSize 0 (n.val : Int) 1 = (n.val : Int) := by decide +kernel
  exact go ⟨n, by omega⟩
noncomputable def LkJ (st0 : LS) (rs ss : List Row) (i : Nat) (st : LS) : Prop := lRun st (rs.drop i) (ss.drop i) = lRun st0 rs ss
theorem LkJ.yes {st0 st : LS} {rs ss : List Row} {i : Nat} {r s : Row} (h : LkJ st0 rs ss i st) (hr : rs[i]? = some r) (hs : ss[i]? = some s) (hm : rightB st r s = true) : LkJ st0 rs ss (i + 1) (lStep st r s) := by
  unfold LkJ at *
  rw [drop_getL hr, drop_getL hs] at h
  simpa [lRun, hm] using h
theorem LkJ.no {st0 st : LS} {rs ss : List Row} {i : Nat} {r s : Row} (h : LkJ st0 rs ss i st) (hr : rs[i]? = some r) (hs : ss[i]? = some s) (hm : rightB st r s = false) : lRun st0 rs ss = false := by
  unfold LkJ at *
  rw [drop_getL hr, drop_getL hs] at h
  simpa [lRun, hm] using h.symm
theorem LkJ.fin {st0 st : LS} {rs ss : List Row} (h : LkJ st0 rs ss rs.length st) (hl : rs.length = ss.length) : lRun st0 rs ss = true := by
  unfold LkJ at h
  rw [List.drop_length, hl, List.drop_length] at h
  rw [← h]; rfl
theorem ctl_x {c : Cx} {f : Addr} {d u : Nat} {a : LA} {x0 : Addr} {args : List Value} {news : List (Addr × Obj)} {post : Value → List (Addr × Obj) → Prop} (hx : a.S = x0) (C : Ct c f d u (.ref a.S :: args) news post) : Ct c f d u (.ref x0 :: args) news post := hx ▸ C
end
section
set_option maxRecDepth 100000 in
set_option maxHeartbeats 0 in
theorem keeps_ct (c : Cx) {la lb : Addr} {vs ws : List Value} {rs ss : List Row} {n1 n2 : Nat} {ar : Int} {ta : Tok} {keep : List (Addr × Obj)} (hA1 : (la, listOf vs.toArray n1) ∈ keep) (hB1 : (lb, listOf ws.toArray n2) ∈ keep)
    (hk : ∀ (i : Nat) (r s : Row), rs[i]? = some r → ss[i]? = some s → r.k = s.k) (hr : All2 (RowAt keep) vs rs) (hs : All2 (RowAt keep) ws ss) (hw : ∀ r ∈ rs, WA r) (hw' : ∀ r ∈ ss, WR r) (hl : rs.length = ss.length) (hz : rs.length ≤ 50) (h0 : 0 ≤ ar) (h3 : ar ≤ 3) :
    Ct c 196 12 400 [.ref la, .ref lb, .int ar ta] keep (fun v news' => v = .bool (lRun (iniL ar.toNat) rs ss) ∧ news' = keep) := by
  unfold Ct PR
  k_fill
  intro A env outer A₀ base h₀ L m s Q E hh hA hf hke hd hu B F X N T ret
  have hl1 := all2_length hr
  have hl2 := all2_length hs
  have hz0 : vs.length ≤ 1000000 := by omega
  k_with_none
  k_with "mem" => (first | with_reducible assumption | with_reducible exact List.mem_cons_self | (with_reducible refine List.mem_cons_of_mem _ ?_; k_extra "mem") | (with_reducible refine List.mem_append_left _ ?_; k_extra "mem") | (with_reducible refine List.mem_append_right _ ?_; k_extra "mem"))
  k_with "my_enter" => ((refine' code_def ?r2zk1 ?r2zk2 ?r2zk3 ?r2zk4 ?r2zk5 ?r2zkA ?r2zkF ?r2zkK ?r2zk6 ?r2zk7 ?r2zk8 ?r2zk9 ?r2zkB ?_ ?r2zc2 ?r2zc3 ?r2zc4 ?r2zc5; (case r2zkA => assumption); (case r2zkF => assumption); (case r2zkK => assumption); (case r2zk1 => k_asm); (case r2zk2 => k_asm); (case r2zk3 => k_asm); (case r2zk4 => k_asm); (case r2zk5 => k_asm); (case r2zk6 => k_is); (case r2zk7 => k_is); (case r2zk8 => omega); (case r2zk9 => exact BindsTo.of_eq rfl); (case r2zc5 => decide); (case r2zkB => exact locs rfl); (case r2zc2 => exact rfl); (case r2zc3 => exact rfl); (case r2zc4 => exact rfl); k_whole; intro zq_g' zq_L' zq_h' zq_FG' zq_F' zq_N' zq_B' zq_X' zq_T'; (try dsimp only); (try k_fold)))
  k_with "mysub" => (((with_reducible show wpAny _ _ (subscriptTail _ _ (Value.ref _) (Value.int _ _)) _ _ _); (with_unfolding_all first | (refine' sub_tup ?r3zN ?r3zm ?r3zi ?r3zj ?r3zx ?_ ?r3zh6; (case r3zN => k_asm); (case r3zm => k_extra "mem"); (case r3zi => exact rfl); (case r3zj => decide); (case r3zx => exact rfl); (case r3zh6 => rfl); k_whole) | (refine' sub_list ?r3zN ?r3zm ?r3zi ?r3zj ?r3zx ?_ ?r3zh6; (case r3zN => k_asm); (case r3zm => k_extra "mem"); (case r3zi => exact rfl); (case r3zj => omega); (case r3zx => assumption); (case r3zh6 => rfl); k_whole) | (refine' sub_list ?r3zN ?r3zm ?r3zi ?r3zj ?r3zx ?_ ?r3zh6; (case r3zN => k_asm); (case r3zm => k_extra "mem"); (case r3zi => exact rfl); (case r3zj => decide); (case r3zx => exact rfl); (case r3zh6 => rfl); k_whole) | (refine' di_item ?r3zN ?r3zm ?r3zd ?r3zv ?_ ?r3zh6; (case r3zN => k_asm); (case r3zm => k_extra "mem"); (case r3zd => with_reducible assumption); (case r3zv => with_reducible assumption); (case r3zh6 => rfl); k_whole; intro _) | (refine' ds_item ?r3zN ?r3zm ?r3zd ?r3zv ?_ ?r3zh6; (case r3zN => k_asm); (case r3zm => k_extra "mem"); (case r3zd => with_reducible assumption); (case r3zv => with_reducible assumption); (case r3zh6 => rfl); k_whole; intro _))))
  k_with "subscriptTail" => (k_extra "mysub")
  k_with "subscriptTail Name Constant ref int" => (k_extra "mysub")
  k_with "subscriptTail Name Name ref int" => (k_extra "mysub")
  k_with "subscriptTail Attribute Name Subscript Name Constant ref int" => (k_extra "mysub")
  k_with "getMethod ref" => (((with_reducible show wpAny _ _ (getMethod (Value.ref _) (PySem.Str.ofString "get") _) _ _ _); k_dflt (first | (refine' di_method ?r8zN ?r8zm ?r8zd ?_; (case r8zN => k_asm); (case r8zm => k_extra "mem"); (case r8zd => with_reducible assumption)) | (refine' ds_method ?r8zN ?r8zm ?r8zd ?_; (case r8zN => k_asm); (case r8zm => k_extra "mem"); (case r8zd => with_reducible assumption)))))
  k_with "call builtin:dict.get" => ((k_dflt (first | (refine' di_get ?r9zN ?r9zm ?r9zd ?r9zlo ?_; (case r9zN => k_asm); (case r9zm => k_extra "mem"); (case r9zd => with_reducible assumption); (case r9zlo => with_reducible assumption)) | (refine' ds_get ?r9zN ?r9zm ?r9zd ?r9zlo ?_; (case r9zN => k_asm); (case r9zm => k_extra "mem"); (case r9zd => with_reducible assumption); (case r9zlo => with_reducible assumption))); intro _))
  k_with "compareOp NotIn int ref" => ((k_dflt (refine' di_notin2 ?r10zN ?r10zm ?r10zd ?r10zlo ?_ ?_; (case r10zN => k_asm); (case r10zm => k_extra "mem"); (case r10zd => with_reducible assumption); (case r10zlo => with_reducible assumption)); intros))
  k_with "ite" => (with_reducible first | refine ite_t ?_ | refine ite_f ?_ | (refine' ite_bt ?r11zh ?_; (case r11zh => assumption)) | (refine' ite_bf ?r11zh ?_; (case r11zh => assumption)))
  k_with "opAt" => (first | with_reducible assumption | (refine' OpAt.mono ?r12zs ?r12zh; (case r12zh => with_reducible assumption); (case r12zs => k_extra "sub")) | (refine' OpAt.t ?r12zq; (case r12zq => k_extra "mem")) | (refine' OpAt.a ?r12zq; (case r12zq => k_extra "mem")) | (refine' OpAt.y ?r12zq; (case r12zq => k_extra "mem")) | (refine' OpAt.x ?r12zq; (case r12zq => k_extra "mem")))
  k_with "units" => (first | exact un1 (by with_reducible assumption) rfl | exact un0 (by with_reducible assumption) rfl | exact un2 (by with_reducible assumption) rfl | (simp only [units_in1, units_deeper, Around.mark_units, units_caller] at *; omega))
  k_with "compareOp Eq ref ref" => ((k_dflt (refine' op_eq ?r14zN ?r14za ?r14zb ?r14zu ?_; (case r14zN => k_asm); (case r14za => k_extra "opAt"); (case r14zb => k_extra "opAt"); (case r14zu => k_extra "units"); k_whole)))
  k_with "compareOp NotEq ref ref" => ((k_dflt (refine' op_ne ?r15zN ?r15za ?r15zb ?r15zu ?_; (case r15zN => k_asm); (case r15za => k_extra "opAt"); (case r15zb => k_extra "opAt"); (case r15zu => k_extra "units"); k_whole)))
  k_with "ne" => (first | with_reducible assumption | with_reducible exact Ne.symm (by with_reducible assumption) | with_reducible exact lt_ne_1 (by with_reducible assumption) | with_reducible exact lt_ne_2 (by with_reducible assumption) | with_reducible exact lt_ne_3 (by with_reducible assumption) | with_reducible exact lt_ne_4 (by with_reducible assumption) | with_reducible exact lt_ne_5 (by with_reducible assumption) | with_reducible exact lt_ne_6 (by with_reducible assumption) | with_reducible exact lt_ne_7 (by with_reducible assumption) | with_reducible exact lt_ne_8 (by with_reducible assumption) | with_reducible exact Ne.symm (lt_ne_1 (by with_reducible assumption)) | with_reducible exact Ne.symm (lt_ne_2 (by with_reducible assumption)) | with_reducible exact Ne.symm (lt_ne_3 (by with_reducible assumption)) | with_reducible exact Ne.symm (lt_ne_4 (by with_reducible assumption)) | with_reducible exact Ne.symm (lt_ne_5 (by with_reducible assumption)) | with_reducible exact Ne.symm (lt_ne_6 (by with_reducible assumption)) | with_reducible exact Ne.symm (lt_ne_7 (by with_reducible assumption)) | with_reducible exact Ne.symm (lt_ne_8 (by with_reducible assumption)) | omega)
  k_with "allne" => (first | with_reducible assumption | (refine' ne_of_lt_all ?r17zz; (case r17zz => with_reducible assumption)) | (refine' ne_of_fresh ?r17zz ?r17zm; (case r17zz => with_reducible assumption); (case r17zm => k_extra "mem")) | exact List.forall_mem_nil _ | (refine' List.forall_mem_cons.mpr ⟨?r17za, ?r17zb⟩; (case r17za => ((try dsimp only); k_extra "ne")); (case r17zb => k_extra "allne")))
  k_with "updF" => (first | (refine' UpdF.head ?r18za; (case r18za => k_extra "allne")) | (refine' UpdF.tail ?r18za ?r18zb; (case r18za => ((try dsimp only); k_extra "ne")); (case r18zb => k_extra "updF")))
  k_with "setItem ref int" => ((k_dflt (first | (refine' di_set ?r19zF ?r19zN ?r19zU ?r19zd ?r19zz ?_; (case r19zF => k_asm); (case r19zN => k_asm); (case r19zU => k_extra "updF"); (case r19zd => with_reducible assumption); (case r19zz => omega)) | (refine' ds_set ?r19zF ?r19zN ?r19zU ?r19zd ?r19zz ?_; (case r19zF => k_asm); (case r19zN => k_asm); (case r19zU => k_extra "updF"); (case r19zd => with_reducible assumption); (case r19zz => omega))); intro zq_h' zq_o' zq_F' zq_N' zq_hd'; (try dsimp only at zq_N'); (try k_sweep)))
  k_with "ifline" => (first | ((with_reducible refine' if_ne ?r20zF ?r20zv ?r20zn ?_ ?r20zk ?r20zl ?r20zd); (case r20zF => k_asm); (case r20zv => with_unfolding_all rfl); (case r20zn => decide +kernel); (case r20zk => rfl); (case r20zl => rfl); (case r20zd => decide); intro _) | ((with_reducible refine' if_eq ?r20zF ?r20zv ?r20zn ?_ ?r20zk ?r20zl ?r20zd); (case r20zF => k_asm); (case r20zv => with_unfolding_all rfl); (case r20zn => decide +kernel); (case r20zk => rfl); (case r20zl => rfl); (case r20zd => decide); intro _; dsimp only) | ((with_reducible refine' ifo_ne ?r20zF ?r20zv ?r20zn ?_ ?r20zk ?r20zl ?r20zd); (case r20zF => k_asm); (case r20zv => with_unfolding_all rfl); (case r20zn => decide +kernel); (case r20zk => rfl); (case r20zl => rfl); (case r20zd => decide); intro _) | ((with_reducible refine' ifo_eq ?r20zF ?r20zv ?r20zn ?_ ?r20zk ?r20zl ?r20zd); (case r20zF => k_asm); (case r20zv => with_unfolding_all rfl); (case r20zn => decide +kernel); (case r20zk => rfl); (case r20zl => rfl); (case r20zd => decide); intro _; dsimp only))
  k_with "execs cons" => (((with_reducible show wpAny _ _ (execs (Stmt.If _ _ _ _ :: _) _) _ _ _); k_dflt (k_extra "ifline")))
  k_with "ltall" => (first | assumption | exact tb_ltOf (by assumption) | (refine' tb_ltOf (And.right ?r22zz); (case r22zz => assumption)) | (refine' tb_ltOf (And.right (And.right ?r22zz)); (case r22zz => assumption)) | (refine' tb_ltOf (And.right (And.right (And.right ?r22zz))); (case r22zz => assumption)))
  k_with "fresh" => (first | exact FreshOver.nil | (refine' FreshOver.cons ?r23za ?r23zb; (case r23za => ((try dsimp only); k_extra "ltall")); (case r23zb => k_extra "fresh")))
  k_with "pairs" => (first | exact All2.nil | (refine' All2.cons ?r24za ?r24zb; (case r24za => (refine' PairAt.mk ?r24zc; (case r24zc => k_extra "mem"))); (case r24zb => k_extra "pairs")))
  k_with "upd" => (first | (refine' upd_app ?r25za ?r25zb; (case r25za => k_extra "allne"); (case r25zb => k_extra "upd")) | (refine' Upd.head ?r25za; (case r25za => k_extra "allne")) | (refine' Upd.tail ?r25za ?r25zb; (case r25za => ((try dsimp only); k_extra "ne")); (case r25zb => k_extra "upd")))
  k_with "setAttr ref" => ((k_dflt (refine' set_dict ?r26zF ?r26zX ?r26zN ?r26zI ?r26zd ?r26zs ?r26zp ?r26zt ?r26zh ?r26zl ?r26ze ?r26zU ?r26zz ?_; (case r26zF => k_asm); (case r26zX => k_asm); (case r26zN => k_asm); (case r26zI => k_inst); (case r26zd => exact rfl); (case r26zs => k_is); (case r26zp => k_is); (case r26zt => k_is); (case r26zh => k_is); (case r26zl => k_get); (case r26ze => k_put); (case r26zU => k_extra "upd"); (case r26zz => exact Nat.le_of_ble_eq_true rfl)); intro zq_h' zq_F' zq_N'; (try k_sweep)))
  k_with "compareOp Eq" => ((k_dflt (refine' pt_eq ?r27zN ?r27za ?r27zb ?r27zu ?_; (case r27zN => k_asm); (case r27za => with_reducible assumption); (case r27zb => with_reducible assumption); (case r27zu => k_extra "units"); k_whole)))
  k_with "compareOp NotEq" => ((k_dflt (refine' pt_ne ?r28zN ?r28za ?r28zb ?r28zu ?_; (case r28zN => k_asm); (case r28za => with_reducible assumption); (case r28zb => with_reducible assumption); (case r28zu => k_extra "units"); k_whole)))
  k_with "exec While Compare cons nil" => (first | ((k_dflt (k_extra "while")); (all_goals ((try ((try k_unmd); k_unfold; clear gG)); (try k_unmd); (try k_fold)))) | (k_here; (try k_fold); k_dflt (refine whl_start 100 ?_)))
  k_with "call builtin:isinstance" => ((k_dflt (first | (refine' isi_tup ?r30zF ?r30zX ?r30zN ?r30zm ?_; (case r30zF => k_asm); (case r30zX => k_asm); (case r30zN => k_asm); (case r30zm => k_extra "mem")) | (refine' isi_int ?r30zF ?r30zX ?r30zN ?_; (case r30zF => k_asm); (case r30zX => k_asm); (case r30zN => k_asm))); intro _))
  k_with "eval Name" => (((with_reducible refine' ldq ?r31zF ?r31zv ?r31zk ?r31zl ?r31zd ?_); (case r31zF => with_reducible assumption); (case r31zl => decide +kernel); (case r31zd => decide +kernel); (case r31zv => k_dflt (first | with_reducible assumption | exact @rfl _ (some _) | assumption)); (case r31zk => exact rfl)))
  k_with "TurnPost" => ((first | (with_reducible refine TurnPost.retI ?_) | (with_reducible refine TurnPost.nextI ?_)))
  k_with "exec For" => (((rename Fr _ _ _ _ => zq_lF'); (with_unfolding_all refine' For_invVF zq_lF' ?r33zk1 ?r33zk2 ?_; (case r33zk1 => exact rfl); (case r33zk2 => exact rfl); k_whole)))
  k_with "exec For Name Attribute cons nil" => (walk_at "exec For")
  k_with "exec For Name Name cons nil" => (walk_at "exec For")
  k_with "exec For Name Call cons nil" => (walk_at "exec For")
  k_with "rowAt" => (with_reducible assumption)
  k_with "depth" => (first | exact dp1 (by with_reducible assumption) rfl | exact dp0 (by with_reducible assumption) rfl | exact dp2 (by with_reducible assumption) rfl | (simp only [depth_under_make, depth_under_kw, depth_in1, depth_deeper, depth_caller] at *; omega))
  k_with "exec If" => (first | k_dflt (k_extra "if") | ((with_reducible refine wpAny_If ?_); (try dsimp only)))
  k_with "exec If Compare cons nil" => (walk_at "exec If")
  k_with "exec If BoolOp cons nil" => (walk_at "exec If")
  k_with "exec If Call cons nil" => (walk_at "exec If")
  k_with "exec If UnaryOp cons nil" => (walk_at "exec If")
  k_with "exec If Compare cons cons" => (walk_at "exec If")
  k_with "exec If BoolOp cons cons" => (walk_at "exec If")
  k_with "eval Call" => (((fail_if_success (with_reducible show wpAny _ _ (eval (Expr.Call (Expr.Name (PySem.Str.ofString "range") _) _ _ _) _) _ _ _)); (with_reducible show wpAny _ _ (eval (Expr.Call (Expr.Name _ _) _ _ _) _) _ _ _); k_dflt (refine Call_ ?_)))
  k_with "eval Call Attribute" => ((k_dflt (refine MethodCall_ ?_)))
  k_with "handled" => (first | assumption | exact rfl)
  k_with "frames" => (first | exact rfl | (refine' frames_deeper ?r49zz; (case r49zz => assumption)))
  k_with "pyIter ref" => (((k_dflt (k_extra "loop")); (all_goals ((try ((try k_unmd); k_unfold; clear gG)); (try dsimp only); (try k_unmd); (try k_fold)))))
  k_with "call ref" => (k_dflt (k_extra "call"))
  k_with "sub" => (first | with_reducible assumption | with_reducible exact sub_refl | (with_reducible refine sub_cons ?_; k_extra "sub") | (with_reducible refine sub_app ?_; k_extra "sub"))
  k_with "call builtin:list.append" => ((k_dflt (refine' app_l ?r53zF ?r53zN ?r53zU ?r53zz ?_; (case r53zF => k_asm); (case r53zN => k_asm); (case r53zU => k_extra "upd"); (case r53zz => exact Nat.le_of_ble_eq_true rfl)); intro zq_h' zq_F' zq_N'; (try dsimp only [List.cons_append, List.nil_append] at zq_N'); (try k_sweep)))
  k_with "compareOp In ref ref" => ((k_dflt (first | (refine' in_ops0 ?r54zN ?r54zl ?r54zo ?r54zu ?_; (case r54zN => k_asm); (case r54zl => k_extra "mem"); (case r54zo => k_extra "opAt"); (case r54zu => k_extra "units")) | (refine' in_ops1 ?r54zN ?r54zl ?r54zv ?r54zo ?r54zu ?_; (case r54zN => k_asm); (case r54zl => k_extra "mem"); (case r54zv => k_extra "opAt"); (case r54zo => k_extra "opAt"); (case r54zu => k_extra "units")))))
  k_with "assign Tuple" => ((k_dflt (refine' unpackN_ ?r55zF ?r55zN ?r55zT ?r55zh ?r55z2 ?r55z3 ?_; (case r55zF => k_asm); (case r55zN => k_asm); (case r55zT => (refine' News.isTup ?r55zy1 ?r55zy2; (case r55zy1 => k_asm); (case r55zy2 => k_extra "mem"))); (case r55zh => k_extra "handled"); (case r55z2 => exact rfl); (case r55z3 => exact rfl)); intro zq_h' zq_F' zq_N'; (try k_sweep)))
  k_with "WPost" => ((first | (with_reducible refine WPost.retI ?_) | (with_reducible refine WPost.nextI ?_)))
  k_with "WhlIf" => (((first | (refine' WhlIf.yes ?r57zz ?_; (case r57zz => (refine decide_eq_true ?_; omega))) | (refine' WhlIf.no ?r57zz ?_; (case r57zz => (refine decide_eq_false ?_; omega)))); (try dsimp only); (try k_unmd); (try k_fold)))
  k_with "call builtin:len" => ((k_dflt (refine' len_l ?r58zN ?r58zm ?r58zz ?_; (case r58zN => k_asm); (case r58zm => k_extra "mem"); (case r58zz => first | exact Nat.le_of_ble_eq_true rfl | omega)); intro _ _))
  k_with "loadName" => (((with_reducible refine' ldnq ?r59zF ?r59zv ?r59zk ?r59zl ?_); (case r59zF => with_reducible assumption); (case r59zl => decide +kernel); (case r59zv => k_dflt (first | with_reducible assumption | exact @rfl _ (some _) | assumption)); (case r59zk => exact rfl)))
  k_with "kv" => (with_reducible first | exact kv_held | exact kv_temps | exact kv_given | exact kv_out | exact kv_count)
  k_with "stitem" => ((k_dflt (refine' st_item ?r61zN ?r61zm ?r61zd ?r61zv ?_ ?r61zh6; (case r61zN => k_asm); (case r61zm => k_extra "mem"); (case r61zd => with_reducible assumption); (case r61zv => k_extra "kv"); (case r61zh6 => with_unfolding_all rfl))))
  k_with "subscriptTail Name Constant ref str" => (k_extra "stitem")
  k_with "call type:range" => ((k_dflt (first | (refine' range1_rows ?r63zF ?r63zN ?_; (case r63zF => k_asm); (case r63zN => k_asm)) | (refine' range2_rows ?r63zF ?r63zN ?_; (case r63zF => k_asm); (case r63zN => k_asm))); intro zq_h' zq_tk' zq_t9 zq_u9 zq_w9 zq_R' zq_F' zq_N' zq_kp'; clear zq_kp'; (try k_sweep)))
  k_with "TurnPost" => ((with_reducible refine TurnPost.contI ?_))
  k_with "unpackItems ref" => ((k_dflt (refine' unpackItemsN_ ?r65zF ?r65zN ?r65zT ?r65zh ?r65z2 ?_; (case r65zF => k_asm); (case r65zN => k_asm); (case r65zT => (refine' News.isTup ?r65zy1 ?r65zy2; (case r65zy1 => k_asm); (case r65zy2 => k_extra "mem"))); (case r65zh => k_extra "handled"); (case r65z2 => exact rfl)); intro zq_h' zq_F' zq_N'; (try k_sweep)))
  k_with "storeName" => (((k_dflt (refine' store_let ?r66zF ?r66zN ?_ ?r66za ?r66zb; (case r66zF => k_asm); (case r66zN => k_asm); (case r66za => rfl); (case r66zb => rfl); k_whole)); (intro zq_mk zq_h' zq_F' zq_N'); (try k_sweep)))
  k_with "callWith" => (((with_reducible show wpAny _ _ (callWith _ (Value.builtin "list.append") _ _ _) _ _ _); (k_dflt (refine callWith_method1 ?_))))
  k_with "ne" => (first | with_reducible assumption | with_reducible exact Ne.symm (by with_reducible assumption) | with_reducible exact lt_ne_1 (by with_reducible assumption) | with_reducible exact lt_ne_2 (by with_reducible assumption) | with_reducible exact lt_ne_3 (by with_reducible assumption) | with_reducible exact lt_ne_4 (by with_reducible assumption) | with_reducible exact lt_ne_5 (by with_reducible assumption) | with_reducible exact lt_ne_6 (by with_reducible assumption) | with_reducible exact lt_ne_7 (by with_reducible assumption) | with_reducible exact lt_ne_8 (by with_reducible assumption) | omega)
  k_with "setItem ref int str" => ((k_dflt (refine' ds_set ?r139zF ?r139zN ?r139zU ?r139zd ?r139zz ?_; (case r139zF => k_asm); (case r139zN => k_asm); (case r139zU => k_extra "updF"); (case r139zd => with_reducible assumption); (case r139zz => assumption)); intro zq_h' zq_o' zq_F' zq_N' zq_hd'; (try dsimp only at zq_N'); (try k_sweep)))
  k_with "call builtin:len" => ((k_dflt (refine' len_l ?r140zN ?r140zm ?r140zz ?_; (case r140zN => k_asm); (case r140zm => k_extra "mem"); (case r140zz => assumption)); intro _ _))
  k_with "subscriptTail Name Name ref int" => ((with_unfolding_all (refine' sub_list ?r141zN ?r141zm ?r141zi ?r141zj ?r141zx ?_ ?r141zh6; (case r141zN => k_asm); (case r141zm => k_extra "mem"); (case r141zi => exact rfl); (case r141zj => assumption); (case r141zx => assumption); (case r141zh6 => rfl); k_whole)))
  k_with "call" => ((with_reducible show wpAny _ _ (call (Value.ref 182) _) _ _ _); (k_dflt (refine' ct_use_eq (ctl_x hx2 (right_ct c hS2 ?y1 ?y2 ?y3 hwa hwr)) ?zh ?zA ?zf ?zk ?zd ?zu ?zB ?zF ?zX ?zN ?zT ?_; (case zN => k_asm); (case y1 => exact fun _ h => List.mem_append_left _ h); (case y2 => (refine' RowAt.mono ?ZQ hra; (case ZQ => exact fun _ h => List.mem_append_right _ h))); (case y3 => (refine' RowAt.mono ?ZQ hrb; (case ZQ => exact fun _ h => List.mem_append_right _ h))); (case zh => k_extra "handled"); (case zA => k_extra "frames"); (case zf => exact rfl); (case zk => exact rfl); (case zd => k_extra "depth"); (case zu => k_extra "units"); (case zB => k_asm); (case zF => k_asm); (case zX => k_asm); (case zT => k_asm))); (intro h' tk' F' N'); cases hmb : rightB st2 ⟨kd, ps⟩ ⟨kd, qs⟩; (try k_sweep))
  k_with "call" => ((with_reducible show wpAny _ _ (call (Value.ref 189) _) _ _ _); (k_dflt (refine' ct_use (step_ct c hx2 hS2 hK3 hra hrb hwa hwr hLe hnn hcn0 hcn1) ?zh ?zA ?zf ?zk ?zd ?zu ?zB ?zF ?zX ?zN ?zT ?_; (case zN => k_asm);  (case zh => k_extra "handled"); (case zA => k_extra "frames"); (case zf => exact rfl); (case zk => exact rfl); (case zd => k_extra "depth"); (case zu => k_extra "units"); (case zB => k_asm); (case zF => k_asm); (case zX => k_asm); (case zT => k_asm))); (intro r' news' h' tk' F' N' p'); (show (let gG : Prop := _; gG)); intro gG; obtain ⟨a4, e2, hx4, hS4, hK4, hLe4⟩ := p'; (try k_unmd); k_unfold; clear gG; subst e2; (try k_sweep))
  k_with "loop" => (
    (rename Fr _ _ _ _ => lF'); (rename News _ _ _ _ => lN'); (rename IsRange _ _ _ _ _ _ _ _ => lR')
    first
    | (
      (rename IsRange _ _ 1 _ _ _ _ _ => lR')
      obtain ⟨a0, N0, hx0, hS0, hK0⟩ := mk_la lN' (by assumption) (by assumption) (by assumption) (by assumption) (by assumption) (by assumption) (by assumption) (by assumption) (by assumption) (by assumption) (by first | assumption | exact tb_ltOf (by assumption)) (by assumption) (by assumption) (by assumption) (by assumption)
      clear lN'
      refine ra_iter (n := ar.toNat) (fun i m nx => ∃ a2, m (PySem.Str.ofString "code") = some (.ref la) ∧ m (PySem.Str.ofString "real") = some (.ref lb) ∧ m (PySem.Str.ofString "state") = some (.ref a0.S) ∧ nx = LA.fp a2 ++ keep ∧ a2.S = a0.S ∧ LkS c.w a2 (iniL i) ∧ LkOff a2 keep)
        (by assumption) lR' (range_in h0 h3).1 (range_in h0 h3).2 lF' N0 ⟨a0, rfl, rfl, by rw [hx0]; rfl, rfl, rfl, hS0, hK0⟩ (fun i ti m₁ nx h' tk' own hi9 hoff hJ F' N' => ?_) (fun m₁ nx h' tk' hJ F' N' => ?_)
      all_goals (
        clear lF' N0 lR' hS0 hK0
        (show (let gG : Prop := _; gG)); intro gG; obtain ⟨a2, hm1, hm2, hm3, hnx, hx2, hS2, hK2⟩ := hJ
        subst hnx
        change Fr g' L' h' _ at F'
        change News g' L' h' _ at N'
        (try dsimp only))
      rotate_left 1
      have hIni := iniL_le ar.toNat
      rotate_right 1
      rw [List.append_assoc] at N'
      have hK3 := hK2.own hoff
      have hown : OwnOff own (keep.map (·.1)) := ownL_right hoff
      clear hK2 hoff
      obtain ⟨hLe, hz2, hin⟩ := iniL_le i
      have hz1 := hLe.held
      have hz3 : (iniL i).held.length ≤ 1000 := by first | exact bd1 hz1 hi9 h3 | omega
      have hz4 : (iniL i).given.length ≤ 1000 := by first | exact bd1 hz2 hi9 h3 | omega
      have hi1 : 0 ≤ 1 + (i : Int) := bd2
      have hi2 : 1 + (i : Int) ≤ 1000 := by first | exact bd3 hi9 h3 | omega
      obtain ⟨S', H, TT, G, O, oS, oH, oT, oG, oO, tn⟩ := a2
      obtain ⟨dS, dH, dT, dG, dO, loS, loH, loT, loG, loO, n1, n2, n3, n4, n5, n6, n7, n8, n9, n10⟩ := hS2
      obtain ⟨kk1, kk2, kk3, kk4, kk5⟩ := hK3
      dsimp only at hx2
      simp only [LA.fp, List.cons_append, List.nil_append] at *
      rw [← hx2] at hm3)
    | (
      refine ra_iter (n := vs.length) (fun i m nx => ∃ a3 st2, m (PySem.Str.ofString "code") = some (.ref la) ∧ m (PySem.Str.ofString "real") = some (.ref lb) ∧ m (PySem.Str.ofString "state") = some (.ref a0.S) ∧ nx = LA.fp a3 ++ keep ∧ a3.S = a0.S ∧ LkS c.w a3 st2 ∧ LkOff a3 keep ∧ st2.Le (3 + 2 * i) ∧ st2.n = (i : Int) ∧ LkJ (iniL ar.toNat) rs ss i st2)
        (by assumption) lR' (range_n (by first | exact bd9 hl1 hz | omega)).1 (range_n (by first | exact bd9 hl1 hz | omega)).2 lF' lN' ⟨a2, iniL ar.toNat, by assumption, by assumption, by assumption, rfl, hx2, hS2, hK2, hIni.1.mono (by first | exact bd10 h3 | omega), hIni.2.2, rfl⟩ (fun i ti m₁ nx h' tk' own hi9 hoff hJ F' N' => ?_) (fun m₁ nx h' tk' hJ F' N' => ?_)
      all_goals (
        clear lF' lN' lR' hS2 hK2 hm1 hm2 hm3 hx2
        (show (let gG : Prop := _; gG)); intro gG; obtain ⟨a2, st2, hm1, hm2, hm3, hnx, hx2, hS2, hK2, hLe, hcn, hlj⟩ := hJ
        subst hnx
        change Fr g' L' h' _ at F'
        change News g' L' h' _ at N'
        (try dsimp only))
      simp only [Int.zero_add] at F'
      rw [List.append_assoc] at N'
      have hK3 := hK2.own hoff
      have hown : OwnOff own (keep.map (·.1)) := ownL_right hoff
      clear hK2 hoff
      have hv9 : vs[i]? = some vs[i] := List.getElem?_eq_getElem hi9
      generalize vs[i] = v9 at hv9
      obtain ⟨r9, hr9, hra⟩ := all2_get hr hv9
      obtain ⟨w9, hw9⟩ : ∃ w9, ws[i]? = some w9 := ⟨_, List.getElem?_eq_getElem (show i < ws.length by first | exact bd4 hi9 hl1 hl hl2 | omega)⟩
      obtain ⟨s9, hs9, hrb⟩ := all2_get hs hw9
      have hkk := hk i r9 s9 hr9 hs9
      have hwa := hw _ (List.mem_of_getElem? hr9)
      have hwr := hw' _ (List.mem_of_getElem? hs9)
      obtain ⟨kd, ps⟩ := r9
      obtain ⟨kd', qs⟩ := s9
      dsimp only at hkk
      subst hkk
      replace hra : RowAt (keep ++ own) v9 ⟨kd, ps⟩ := RowAt.mono (fun p hp => List.mem_append_left _ hp) hra
      replace hrb : RowAt (keep ++ own) w9 ⟨kd, qs⟩ := RowAt.mono (fun p hp => List.mem_append_left _ hp) hrb
      have hA2 : (la, listOf vs.toArray n1) ∈ keep ++ own := List.mem_append_left _ hA1
      have hB2 : (lb, listOf ws.toArray n2) ∈ keep ++ own := List.mem_append_left _ hB1
      have hi99 : i < 1000 := by first | exact bd5 hi9 hl1 hz | omega
      have hnn : 3 + 2 * i ≤ 800 := by first | exact bd6 hi9 hl1 hz | omega
      have hcn0 : 0 ≤ st2.n := by first | exact bd7 hcn | omega
      have hcn1 : st2.n ≤ 1000 := by first | exact bd8 hcn hi9 hl1 hz | omega))
  refine wpAny_call ?_
  k_dflt (refine' code_def (binds := [(PySem.Str.ofString "code", .ref la), (PySem.Str.ofString "real", .ref lb), (PySem.Str.ofString "arity", .int ar ta)]) ?zk1 ?zk2 ?zk3 ?zk4 ?zk5 ?zkA ?zkF ?zkK ?zk6 ?zk7 ?zk8 ?zk9 ?zkB ?_ ?zc2 ?zc3 ?zc4 ?zc5; (case zkA => assumption); (case zkF => assumption); (case zkK => assumption); (case zk1 => k_asm); (case zk2 => k_asm); (case zk3 => k_asm); (case zk4 => k_asm); (case zk5 => k_asm); (case zk6 => k_is); (case zk7 => k_is); (case zk8 => omega); (case zk9 => exact BindsTo.of_eq rfl); (case zc5 => decide); (case zkB => exact locs rfl); (case zc2 => exact rfl); (case zc3 => exact rfl); (case zc4 => exact rfl); k_whole; intro g' L' h' FG' F' N' B' X' T'; (try dsimp only [List.reverse_cons, List.reverse_nil, List.nil_append, List.cons_append] at F'); (try dsimp only); (try k_fold))
  k_steps
  · rename Fr g' _ _ _ => F9
    rename News g' _ _ _ => N9
    refine TurnEnd.intro (nx := LA.fp ⟨S', H, TT, G, O, oS, _, oT, _, oO, tn⟩ ++ keep) F9 N9 sub_l (sub_cons (sub_cons (sub_cons (sub_cons (sub_cons sub_own))))) (LkOff.ownoff ⟨kk1, kk2, kk3, kk4, kk5⟩ hown) ⟨⟨S', H, TT, G, O, oS, _, oT, _, oO, tn⟩, hm1, hm2, hm3.trans (congrArg (fun z => some (Value.ref z)) hx2), rfl, hx2, ?_, ⟨kk1.left, kk2.left, kk3.left, kk4.left, kk5.left⟩⟩
    constructor <;> assumption
  · rename Fr h₀ _ _ _ => F9
    rename News h₀ _ _ _ => N9
    refine ret _ _ _ _ F9 (News.sub N9 fun p hp => List.mem_append_right _ (List.mem_append_left _ hp)) ⟨?_, rfl⟩
    rw [hlj.no hr9 hs9 hmb]
  · rename Fr g' _ _ _ => F9
    rename News g' _ _ _ => N9
    refine TurnEnd.intro (nx := LA.fp a4 ++ keep) F9 N9 sub_l sub_o (hK4.ownoff hown) ⟨a4, _, hm1, hm2, hm3, rfl, hx4, hS4, hK4.left, hLe4.mono (by omega), by rw [lStep_n, hcn]; rfl, hlj.yes hr9 hs9 hmb⟩
  · rename Fr h₀ _ _ _ => F9
    rename News h₀ _ _ _ => N9
    refine ret _ _ _ _ F9 (News.sub N9 fun p hp => List.mem_append_right _ hp) ⟨?_, rfl⟩
    rw [hl1] at hlj
    rw [hlj.fin hl]
end
section
noncomputable def mp (f : Int → PySem.Str) (al : List (Int × Int)) : List (Int × PySem.Str) := al.map fun p => (p.1, f p.2)
theorem lk_mp (f : Int → PySem.Str) (al : List (Int × Int)) (k : Int) : lk (mp f al) k = (lk al k).map f := by
  unfold lk mp
  induction al with
  | nil => rfl
  | cons p al ih =>
    rw [List.map_cons, List.find?_cons, List.find?_cons]
    by_cases h : p.1 = k
    · simp [h]
    · simpa [h] using ih
theorem put_mp (f : Int → PySem.Str) (al : List (Int × Int)) (k v : Int) : put (mp f al) k (f v) = mp f (put al k v) := by
  unfold put mp
  rw [List.any_map]
  show (if (al.any fun kv => decide (kv.1 = k)) = true then _ else _) = _
  by_cases h : (al.any fun kv => decide (kv.1 = k)) = true
  · rw [if_pos h, if_pos h, List.map_map, List.map_map]
    refine List.map_congr_left fun p _ => ?_
    show (if p.1 = k then (p.1, f v) else (p.1, f p.2)) = ((if p.1 = k then (p.1, v) else p).1, f (if p.1 = k then (p.1, v) else p).2)
    by_cases e : p.1 = k <;> simp [e]
  · rw [if_neg h, if_neg h]; simp
/-- all values between 1 and n -/
noncomputable def InR (n : Int) (al : List (Int × Int)) : Prop := ∀ p ∈ al, 1 ≤ p.2 ∧ p.2 ≤ n
theorem InR.lk {n : Int} {al : List (Int × Int)} (h : InR n al) {k v : Int} (e : lk al k = some v) : 1 ≤ v ∧ v ≤ n := by
  unfold Mine.lk at e
  cases hf : al.find? fun kv => decide (kv.1 = k) with
  | none => rw [hf] at e; cases e
  | some p => rw [hf] at e; cases e; exact h p (List.mem_of_find?_eq_some hf)
theorem InR.put {n : Int} {al : List (Int × Int)} (h : InR n al) {k v : Int} (h1 : 1 ≤ v) (h2 : v ≤ n) : InR n (put al k v) := by
  intro p hp
  unfold Mine.put at hp
  split at hp
  · obtain ⟨q, hq, rfl⟩ := List.mem_map.mp hp
    split
    · exact ⟨h1, h2⟩
    · exact h q hq
  · rcases List.mem_append.mp hp with hp | hp
    · exact h p hp
    · rw [List.mem_singleton.mp hp]; exact ⟨h1, h2⟩
theorem InR.mono {n m : Int} {al : List (Int × Int)} (h : InR n al) (e : n ≤ m) : InR m al := fun p hp => ⟨(h p hp).1, Int.le_trans (h p hp).2 e⟩
theorem InR.nil {n : Int} : InR n [] := fun _ h => nomatch h
noncomputable def hd0 (s : PySem.Str) : Option Nat := s.cps.toList.head?
theorem hd0_app (a b : PySem.Str) (h : a.cps.toList ≠ []) : hd0 (a ++ b) = hd0 a := by
  show (a.cps ++ b.cps).toList.head? = a.cps.toList.head?
  rw [Array.toList_append]
  cases e : a.cps.toList with
  | nil => exact absurd e h
  | cons x xs => rfl
theorem hd0_vl (n : Int) : hd0 (vl n) = some 118 := (hd0_app _ _ (by decide +kernel)).trans (by decide +kernel)
theorem hd0_inl (n : Int) : hd0 (inl n) = some 105 := (hd0_app _ _ (by decide +kernel)).trans (by decide +kernel)
noncomputable def vls : List PySem.Str := (List.range 64).map fun (i : Nat) => vl (Int.ofNat i)
theorem vls_nodup : vls.Nodup := by decide +kernel
theorem vl_inj {i j : Int} (hi : 0 ≤ i) (hi' : i < 64) (hj : 0 ≤ j) (hj' : j < 64) (h : vl i = vl j) : i = j := by
  obtain ⟨a, rfl⟩ := Int.eq_ofNat_of_zero_le hi
  obtain ⟨b, rfl⟩ := Int.eq_ofNat_of_zero_le hj
  have ha : a < vls.length := by simp [vls]; omega
  have hb : b < vls.length := by simp [vls]; omega
  have e : vls[a] = vls[b] := by simpa [vls] using h
  have nd := List.pairwise_iff_getElem.mp vls_nodup
  rcases Nat.lt_trichotomy a b with g | g | g
  · exact absurd e (nd a b ha hb g)
  · rw [g]
  · exact absurd e.symm (nd b a hb ha g)
structure Rel (f : Int → PySem.Str) (st : CS) (ls : LS) : Prop where
  h : ls.held = mp f st.held
  t : ls.temps = mp f st.vo
  g : ls.given = mp f st.inc
  o : ls.out = mp f st.out
  vh : InR st.nv st.held
  vt : InR st.nv st.vo
  vg : InR st.nv st.inc
  vo : InR st.nv st.out
  nn : 0 ≤ st.nv
  ln : 0 ≤ ls.n
  inj : ∀ i j, 1 ≤ i → i ≤ st.nv → 1 ≤ j → j ≤ st.nv → f i = f j → i = j
  rg : ∀ i, 1 ≤ i → i ≤ st.nv → hd0 (f i) = some 105 ∨ ∃ k, 1 ≤ k ∧ k ≤ ls.n ∧ f i = vl k
section
variable {f : Int → PySem.Str} {st : CS} {ls : LS}
theorem Rel.hd (R : Rel f st ls) {i : Int} (h1 : 1 ≤ i) (h2 : i ≤ st.nv) : hd0 (f i) = some 105 ∨ hd0 (f i) = some 118 := by
  rcases R.rg i h1 h2 with h | ⟨k, _, _, h⟩
  · exact .inl h
  · rw [h]; exact .inr (hd0_vl k)
theorem Rel.none (R : Rel f st ls) {i : Int} (h1 : 1 ≤ i) (h2 : i ≤ st.nv) : f i ≠ PySem.Str.ofString "none" := by
  intro e
  have h := R.hd h1 h2
  rw [e] at h
  revert h; decide +kernel
theorem Rel.emp (R : Rel f st ls) {i : Int} (h1 : 1 ≤ i) (h2 : i ≤ st.nv) : f i ≠ PySem.Str.ofString "empty" := by
  intro e
  have h := R.hd h1 h2
  rw [e] at h
  revert h; decide +kernel
/-- a read: both say the same -/
theorem Rel.read (R : Rel f st ls) {al : List (Int × Int)} (ha : InR st.nv al) (k r : Int) :
    (match lk st.held r with | Option.none => false | some v => v == (lk al k).getD 0) = decide (lHeld ls r = (lk (mp f al) k).getD (PySem.Str.ofString "none")) := by
  unfold lHeld
  rw [R.h, lk_mp, lk_mp]
  cases e : lk st.held r with
  | none =>
    cases e' : lk al k with
    | none => exact (by decide +kernel : false = decide (PySem.Str.ofString "empty" = PySem.Str.ofString "none"))
    | some v => exact (decide_eq_false (Ne.symm (R.emp (ha.lk e').1 (ha.lk e').2))).symm
  | some v =>
    have b := R.vh.lk e
    cases e' : lk al k with
    | none =>
      show decide (v = 0) = _
      exact (decide_eq_false (by omega)).trans (decide_eq_false (R.none b.1 b.2)).symm
    | some v' =>
      have b' := ha.lk e'
      show decide (v = v') = decide (f v = f v')
      exact decide_eq_decide.mpr ⟨fun h => by rw [h], fun h => R.inj _ _ b.1 b.2 b'.1 b'.2 h⟩
theorem Rel.outs (R : Rel f st ls) : (st.out.all fun q => decide ((lk st.held q.1).getD 0 = q.2)) = outsOk ls := by
  unfold outsOk
  rw [R.o]
  unfold mp
  rw [List.all_map]
  have : ∀ l : List (Int × Int), InR st.nv l → (l.all fun q => decide ((lk st.held q.1).getD 0 = q.2)) = l.all ((fun q => decide (lHeld ls q.1 = q.2)) ∘ fun p => (p.1, f p.2)) := by
    intro l
    induction l with
    | nil => intro _; rfl
    | cons q l ih =>
      intro hl
      rw [List.all_cons, List.all_cons, ih fun p hp => hl p (List.mem_cons_of_mem _ hp)]
      have b := hl q List.mem_cons_self
      congr 1
      show decide _ = decide (lHeld ls q.1 = f q.2)
      unfold lHeld
      rw [R.h, lk_mp]
      cases e : lk st.held q.1 with
      | none =>
        show decide (0 = q.2) = decide (PySem.Str.ofString "empty" = f q.2)
        exact (decide_eq_false (by omega)).trans (decide_eq_false (Ne.symm (R.emp b.1 b.2))).symm
      | some v =>
        have b' := R.vh.lk e
        exact decide_eq_decide.mpr ⟨fun h => congrArg f h, fun h => R.inj _ _ b'.1 b'.2 b.1 b.2 h⟩
  exact this _ R.vo
end
section
variable {P Q P0 : Prop} [Decidable P] [Decidable Q] [Decidable P0] (x y : Int) (b c d : Bool)
noncomputable def fin9 (b : Bool) : Option (List Int) → Bool
  | none => false
  | some wr => distB wr && b
theorem g_rw : (match (match (if P then (if Q then some ([] : List Int) else none) else none) with | none => none | some l => some ([x] ++ l)) with | none => false | some wr => distB wr && true) = (decide P && decide Q) := by
  by_cases hp : P <;> by_cases hq : Q <;> simp [hp, hq, distB]
theorem g_dr : (match (match (if P0 then some ([] : List Int) else none) with | none => none | some l => (match (if P then (if Q then some ([] : List Int) else none) else none) with | none => none | some l' => some (([] ++ l) ++ l'))) with | none => false | some wr => distB wr && true) = (decide P0 && (decide P && decide Q)) := by
  by_cases h0 : P0 <;> by_cases hp : P <;> by_cases hq : Q <;> simp [h0, hp, hq, distB]
theorem g_dw : (match (match (if P0 then some ([] : List Int) else none) with | none => none | some l => (match (if P then some [x] else none) with | none => none | some l' => some (([] ++ l) ++ l'))) with | none => false | some wr => distB wr && true) = (decide P0 && decide P) := by
  by_cases h0 : P0 <;> by_cases hp : P <;> simp [h0, hp, distB]
theorem g_w : (match (match (if P then some [x] else none) with | none => none | some l => some ([] ++ l)) with | none => false | some wr => distB wr && true) = decide P := by
  by_cases hp : P <;> simp [hp, distB]
theorem g_r : (match (match (if P then some ([] : List Int) else none) with | none => none | some l => some ([] ++ l)) with | none => false | some wr => distB wr && true) = decide P := by
  by_cases hp : P <;> simp [hp, distB]
theorem g_d1 : (match (match (if P0 then some ([] : List Int) else none) with | none => none | some l => some (([] ++ l) ++ [x])) with | none => false | some wr => distB wr && true) = decide P0 := by
  by_cases h0 : P0 <;> simp [h0, distB]
theorem g_ww : (match (match (if P then some [y] else none) with | none => none | some l => some ([x] ++ l)) with | none => false | some wr => distB wr && true) = (decide P && decide (x ≠ y)) := by
  by_cases hp : P <;> simp [hp, distB]
theorem g_dd : (match (match (if P0 then some ([] : List Int) else none) with | none => none | some l => (match (if P then some ([] : List Int) else none) with | none => none | some l' => some (([] ++ l) ++ l'))) with | none => false | some wr => distB wr && b) = (decide P0 && (decide P && b)) := by
  by_cases h0 : P0 <;> by_cases hp : P <;> simp [h0, hp, distB]
theorem if1 : (if b = true then true else false) = b := by cases b <;> rfl
theorem if2 : (if b = true then (if c = true then true else false) else false) = (b && c) := by cases b <;> cases c <;> rfl
theorem if1' : (if (if d = true then true else false) = true then true else false) = d := by cases d <;> rfl
theorem if2' : (if (if d = true then true else false) = true then (if b = true then true else false) else false) = (d && b) := by cases d <;> cases b <;> rfl
theorem if3' : (if (if d = true then true else false) = true then (if b = true then (if c = true then true else false) else false) else false) = (d && (b && c)) := by cases d <;> cases b <;> cases c <;> rfl
theorem if4' : (if (if d = true then (if b = true then true else false) else false) = true then c else false) = (d && (b && c)) := by cases d <;> cases b <;> rfl
end
theorem yy (y z : Int) (b : Bool) : (decide (Pt.op (.y y) = Pt.op (.y z)) && (decide (Op.y z = Op.y y) && b)) = (decide (Pt.op (.y y) = Pt.op (.y z)) && b) := by
  by_cases h : y = z
  · subst h; simp
  · simp [h]
theorem match_right {f : Int → PySem.Str} {st : CS} {ls : LS} (R : Rel f st ls) {r s : Row} (hm : Mt r s) : matchB st r s = rightB ls r s := by
  have rt : ∀ k x, sameRead st (.t k) (.x x) = decide (lHeld ls x = label ls (.t k)) := fun k x => by
    show (match lk st.held x with | Option.none => false | some v => v == (lk st.vo k).getD 0) = _
    rw [R.read R.vt]; unfold label; rw [R.t]
  have rg : ∀ k x, sameRead st (.a k) (.x x) = (decide (x = k) && decide (lHeld ls x = label ls (.a k))) := fun k x => by
    show (match lk st.held x with | Option.none => false | some v => if k = x then v == (lk st.inc k).getD 0 else false) = _
    by_cases e : k = x
    · subst e
      simp only [if_true, decide_true, Bool.true_and]
      rw [R.read R.vg]; unfold label; rw [R.g]; rfl
    · simp only [e, if_false]
      rw [decide_eq_false (Ne.symm e), Bool.false_and]
      split <;> rfl
  have ry : ∀ k z, sameRead st (.y k) (.y z) = decide (Op.y z = Op.y k) := fun _ _ => rfl
  have w0 : ∀ k x, sameWrite (.a k) (.x x) = decide (x = k) := fun k x => by
    show decide (Op.x x = Op.x k) = _
    exact decide_eq_decide.mpr ⟨fun h => Op.x.inj h, fun h => congrArg Op.x h⟩
  cases hm with
  | getVar t a x y => exact ((if1 _).trans (rg a y)).trans (g_rw x).symm
  | getStr n a m x => exact ((if2' (sameRead st (.a a) (.x x)) (decide (Pt.int n = Pt.int m))).trans (by rw [rg])).trans (g_dr).symm
  | uniVar t x => rfl
  | getYY y a z x => exact ((if3' (sameRead st (.y y) (.y z)) (sameRead st (.a a) (.x x)) (decide (Pt.op (.y y) = Pt.op (.y z)))).trans (by rw [ry, yy, rg])).trans (g_dr).symm
  | getYX y a z x => rfl
  | getTY t a z x => rfl
  | getTX t a z x => exact ((if2 (sameRead st (.t t) (.x z)) (sameRead st (.a a) (.x x))).trans (by rw [rt, rg])).trans (g_dr).symm
  | putYY y a z x => exact ((if3' (sameRead st (.y y) (.y z)) (sameWrite (.a a) (.x x)) (decide (Pt.op (.y y) = Pt.op (.y z)))).trans (by rw [ry, yy, w0])).trans (g_dw x).symm
  | putYX y a z x => rfl
  | putTY t a z x => rfl
  | putTX t a z x => exact ((if2 (sameRead st (.t t) (.x z)) (sameWrite (.a a) (.x x))).trans (by rw [rt, w0])).trans (g_dw x).symm
  | putVar t a x y =>
    refine Eq.trans (b := (decide (y = a) && decide (x ≠ y))) ?_ (g_ww x y).symm
    show (if sameWrite (.a a) (.x y) = true then (if Op.x y ∈ [Op.x x] then false else true) else false) = _
    rw [w0]
    by_cases h1 : y = a
    · subst h1
      by_cases h2 : y = x
      · subst h2; simp
      · simp [h2, Ne.symm h2]
    · simp [h1]
  | putList a x => exact ((if1 _).trans (w0 a x)).trans (g_w x).symm
  | setLoc t x => exact ((if1 _).trans (rt t x)).trans (g_r).symm
  | setVar t x => rfl
  | putCon n a m x => exact ((if2' (sameWrite (.a a) (.x x)) (decide (Pt.int n = Pt.int m))).trans (by rw [w0])).trans (g_dw x).symm
  | putStr n t m x => exact (if1' _).trans (g_d1 x).symm
  | putVoid a x => exact ((if1 _).trans (w0 a x)).trans (g_w x).symm
  | call n m n' m' => exact ((if4' (decide (Pt.int m = Pt.int m')) (standB st ⟨.call, [.int n, .int m]⟩) (decide (Pt.int n = Pt.int n'))).trans (by rw [show standB st ⟨.call, [.int n, .int m]⟩ = outsOk ls from R.outs])).trans (g_dd (P0 := Pt.int n = Pt.int n') (P := Pt.int m = Pt.int m') (outsOk ls)).symm
theorem Rel.grow {f : Int → PySem.Str} {st : CS} {ls : LS} (R : Rel f st ls) (hn : ls.n < 60) :
    ∃ f', Rel f' { st with nv := st.nv + 1 } { ls with n := ls.n + 1 } ∧ f' (st.nv + 1) = vl (ls.n + 1) := by
  have e : ∀ i, i ≤ st.nv → (if i = st.nv + 1 then vl (ls.n + 1) else f i) = f i := fun i hi => if_neg (by omega)
  have cg : ∀ al, InR st.nv al → mp f al = mp (fun i => if i = st.nv + 1 then vl (ls.n + 1) else f i) al := fun al h =>
    List.map_congr_left fun p hp => congrArg (Prod.mk p.1) (e _ (h p hp).2).symm
  have fresh : ∀ i, 1 ≤ i → i ≤ st.nv → f i ≠ vl (ls.n + 1) := by
    intro i h1 h2 he
    rcases R.rg i h1 h2 with h | ⟨k, hk1, hk2, h⟩
    · rw [he, hd0_vl] at h; cases h
    · have := vl_inj (by omega) (by omega) (by have := R.ln; omega) (by omega) (h.symm.trans he)
      omega
  refine ⟨fun i => if i = st.nv + 1 then vl (ls.n + 1) else f i, ⟨?_, ?_, ?_, ?_, R.vh.mono ?_, R.vt.mono ?_, R.vg.mono ?_, R.vo.mono ?_, ?_, ?_, ?_, ?_⟩, if_pos rfl⟩
  · exact R.h.trans (cg _ R.vh)
  · exact R.t.trans (cg _ R.vt)
  · exact R.g.trans (cg _ R.vg)
  · exact R.o.trans (cg _ R.vo)
  · show st.nv ≤ st.nv + 1; omega
  · show st.nv ≤ st.nv + 1; omega
  · show st.nv ≤ st.nv + 1; omega
  · show st.nv ≤ st.nv + 1; omega
  · have := R.nn; show 0 ≤ st.nv + 1; omega
  · have := R.ln; show 0 ≤ ls.n + 1; omega
  · intro i j h1 h2 h3 h4 he
    replace h2 : i ≤ st.nv + 1 := h2
    replace h4 : j ≤ st.nv + 1 := h4
    (try dsimp only at he)
    by_cases hi : i = st.nv + 1
    · by_cases hj : j = st.nv + 1
      · rw [hi, hj]
      · rw [if_pos hi, if_neg hj] at he
        exact absurd he.symm (fresh j h3 (by omega))
    · by_cases hj : j = st.nv + 1
      · rw [if_neg hi, if_pos hj] at he
        exact absurd he (fresh i h1 (by omega))
      · rw [if_neg hi, if_neg hj] at he
        exact R.inj i j h1 (by omega) h3 (by omega) he
  · intro i h1 h2
    replace h2 : i ≤ st.nv + 1 := h2
    (try dsimp only)
    by_cases hi : i = st.nv + 1
    · rw [if_pos hi]
      exact .inr ⟨ls.n + 1, by have := R.ln; omega, Int.le_refl _, rfl⟩
    · rw [if_neg hi]
      rcases R.rg i h1 (by omega) with h | ⟨k, hk1, hk2, h⟩
      · exact .inl h
      · exact .inr ⟨k, hk1, by show k ≤ ls.n + 1; omega, h⟩
theorem Rel.tick {f : Int → PySem.Str} {st : CS} {ls : LS} (R : Rel f st ls) : Rel f st { ls with n := ls.n + 1 } :=
  ⟨R.h, R.t, R.g, R.o, R.vh, R.vt, R.vg, R.vo, R.nn, by have := R.ln; show 0 ≤ ls.n + 1; omega, R.inj, fun i h1 h2 => (R.rg i h1 h2).imp id fun ⟨k, a, b, c⟩ => ⟨k, a, by show k ≤ ls.n + 1; omega, c⟩⟩
/-- a write of one value into a register and a temporary -/
theorem Rel.wt {f : Int → PySem.Str} {st : CS} {ls : LS} (R : Rel f st ls) {v : Int} {s : PySem.Str} (h1 : 1 ≤ v) (h2 : v ≤ st.nv) (hs : f v = s) (k j : Int) :
    Rel f { st with held := put st.held j v, vo := put st.vo k v } { ls with held := put ls.held j s, temps := put ls.temps k s } := by
  subst hs
  exact ⟨by show put ls.held j (f v) = _; rw [R.h, put_mp], by show put ls.temps k (f v) = _; rw [R.t, put_mp], R.g, R.o, R.vh.put h1 h2, R.vt.put h1 h2, R.vg, R.vo, R.nn, R.ln, R.inj, R.rg⟩
theorem Rel.wa {f : Int → PySem.Str} {st : CS} {ls : LS} (R : Rel f st ls) {v : Int} {s : PySem.Str} (h1 : 1 ≤ v) (h2 : v ≤ st.nv) (hs : f v = s) (k j : Int) :
    Rel f { st with held := put st.held j v, out := put st.out k v } { ls with held := put ls.held j s, out := put ls.out k s } := by
  subst hs
  exact ⟨by show put ls.held j (f v) = _; rw [R.h, put_mp], R.t, R.g, by show put ls.out k (f v) = _; rw [R.o, put_mp], R.vh.put h1 h2, R.vt, R.vg, R.vo.put h1 h2, R.nn, R.ln, R.inj, R.rg⟩
theorem Rel.clear {f : Int → PySem.Str} {st : CS} {ls : LS} (R : Rel f st ls) : Rel f { nv := st.nv, vo := [], held := [], inc := [], out := [] } { held := [], temps := [], given := [], out := [], n := ls.n } :=
  ⟨rfl, rfl, rfl, rfl, .nil, .nil, .nil, .nil, R.nn, R.ln, R.inj, R.rg⟩
theorem Rel.val {f : Int → PySem.Str} {st : CS} {ls : LS} (R : Rel f st ls) {al : List (Int × Int)} (ha : InR st.nv al) {k r : Int} (h : (match lk st.held r with | Option.none => false | some v => v == (lk al k).getD 0) = true) : ∃ v, lk al k = some v ∧ 1 ≤ v ∧ v ≤ st.nv := by
  cases e : lk st.held r with
  | none => rw [e] at h; cases h
  | some v =>
    rw [e] at h
    have b := R.vh.lk e
    cases e' : lk al k with
    | none => rw [e'] at h; replace h : v = 0 := of_decide_eq_true h; omega
    | some w => exact ⟨w, rfl, ha.lk e'⟩
theorem adv_copy {st : CS} {r s : Row} {v : Int} (h : copied st r = v) (hv : 1 ≤ v) (hk : r.k ≠ .call) : advB st r s = wPairs v st (pairsOf r s) := by
  have h0 : v ≠ 0 := by omega
  unfold advB
  simp only [h, if_neg h0, if_neg hk]
theorem adv_new {st : CS} {r s : Row} (h : copied st r = 0) (hk : r.k ≠ .call) : advB st r s = wPairs (st.nv + 1) { st with nv := st.nv + 1 } (pairsOf r s) := by
  unfold advB
  simp only [h, if_true, if_neg hk]
theorem step_rel {f : Int → PySem.Str} {st : CS} {ls : LS} (R : Rel f st ls) {r s : Row} (hmt : Mt r s) (hm : matchB st r s = true) (hn : ls.n < 60) : ∃ f', Rel f' (advB st r s) (lStep ls r s) := by
  obtain ⟨f', R', hf⟩ := R.grow hn
  have h1 : 1 ≤ st.nv + 1 := by have := R.nn; omega
  have h2 : st.nv + 1 ≤ st.nv + 1 := Int.le_refl _
  have cp : ∀ {r s : Row}, copied st r = 0 → r.k ≠ .call → (∀ f', Rel f' { st with nv := st.nv + 1 } { ls with n := ls.n + 1 } → f' (st.nv + 1) = vl (ls.n + 1) → Rel f' (wPairs (st.nv + 1) { st with nv := st.nv + 1 } (pairsOf r s)) (lStep ls r s)) → ∃ f', Rel f' (advB st r s) (lStep ls r s) := fun h hk k => ⟨f', by rw [adv_new h hk]; exact k f' R' hf⟩
  clear R' hf
  cases hmt with
  | getVar t a x y =>
    have h : sameRead st (.a a) (.x y) = true := by
      cases e : sameRead st (.a a) (.x y) with
      | true => rfl
      | false => simp only [matchB, shapeB, okPs, okP, isX, pairsOf, Kd.roles, Row.opA, mPairs, e, List.map_cons, List.map_nil, List.getD_cons_zero, List.getD_cons_succ, decide_true, Bool.true_and, if_true, Bool.false_eq_true, if_false, show ((1 : Int) = 2) = False from by decide] at hm
    replace h : (match lk st.held y with | Option.none => false | some v => if a = y then v == (lk st.inc a).getD 0 else false) = true := h
    have h' : (match lk st.held y with | Option.none => false | some v => v == (lk st.inc a).getD 0) = true := by
      revert h
      split
      · exact id
      · split
        · exact id
        · exact fun h => nomatch h
    obtain ⟨v, hv, v1, v2⟩ := R.val R.vg h'
    rw [adv_copy (v := v) (by show (lk st.inc a).getD 0 = v; rw [hv]; rfl) v1 (by intro e; cases e)]
    refine ⟨f, R.tick.wt v1 v2 ?_ t x⟩
    show f v = (lk ls.given a).getD _
    rw [R.g, lk_mp, hv]; rfl
  | putTX t a y x =>
    have h : sameRead st (.t t) (.x y) = true := by
      cases e : sameRead st (.t t) (.x y) with
      | true => rfl
      | false => simp only [matchB, shapeB, okPs, okP, isX, pairsOf, Kd.roles, Row.opA, mPairs, e, List.map_cons, List.map_nil, List.getD_cons_zero, List.getD_cons_succ, decide_true, Bool.true_and, if_true, Bool.false_eq_true, if_false, show ((1 : Int) = 2) = False from by decide] at hm
    obtain ⟨v, hv, v1, v2⟩ := R.val R.vt h
    rw [adv_copy (v := v) (by show (lk st.vo t).getD 0 = v; rw [hv]; rfl) v1 (by intro e; cases e)]
    refine ⟨f, R.tick.wa v1 v2 ?_ a x⟩
    show f v = (lk ls.temps t).getD _
    rw [R.t, lk_mp, hv]; rfl
  | putTY t a y x => simp only [matchB, shapeB, okPs, okP, isX, Bool.false_eq_true, if_false, Bool.and_false] at hm
  | call n m n' m' => exact let ⟨f', R', _⟩ := R.grow hn; ⟨f', R'.clear⟩
  | getStr n a m x => exact cp rfl (fun e => nomatch e) fun _ R' _ => R'
  | uniVar t x => exact cp rfl (fun e => nomatch e) fun _ R' hf => R'.wt h1 h2 hf t x
  | getYY y a z x => exact cp rfl (fun e => nomatch e) fun _ R' _ => R'
  | getYX y a z x => exact cp rfl (fun e => nomatch e) fun _ R' _ => R'
  | getTY y a z x => exact cp rfl (fun e => nomatch e) fun _ R' _ => R'
  | getTX y a z x => exact cp rfl (fun e => nomatch e) fun _ R' _ => R'
  | putYY y a z x => exact cp rfl (fun e => nomatch e) fun _ R' hf => R'.wa h1 h2 hf a x
  | putYX y a z x => exact cp rfl (fun e => nomatch e) fun _ R' hf => R'.wa h1 h2 hf a x
  | putVar t a x y => exact cp rfl (fun e => nomatch e) fun _ R' hf => (R'.wt h1 h2 hf t x).wa h1 h2 hf a y
  | putList a x => exact cp rfl (fun e => nomatch e) fun _ R' hf => R'.wa h1 h2 hf a x
  | setLoc t x => exact cp rfl (fun e => nomatch e) fun _ R' hf => R'.wt h1 h2 hf t x
  | setVar t x => exact cp rfl (fun e => nomatch e) fun _ R' hf => R'.wt h1 h2 hf t x
  | putCon n a m x => exact cp rfl (fun e => nomatch e) fun _ R' hf => R'.wa h1 h2 hf a x
  | putStr n t m x => exact cp rfl (fun e => nomatch e) fun _ R' hf => R'.wt h1 h2 hf t x
  | putVoid a x => exact cp rfl (fun e => nomatch e) fun _ R' hf => R'.wa h1 h2 hf a x
theorem run_eq : ∀ (rs ss : List Row) (f : Int → PySem.Str) (st : CS) (ls : LS), Rel f st ls → ls.n + rs.length ≤ 60 → (∀ r ∈ rs, WA r) → (∀ s ∈ ss, WR s) → rs.length = ss.length → (∀ (i : Nat) (r s : Row), rs[i]? = some r → ss[i]? = some s → r.k = s.k) → cRun st rs ss = lRun ls rs ss
  | [], [], _, _, _, _, _, _, _, _, _ => rfl
  | [], _ :: _, _, _, _, _, _, _, _, h, _ => nomatch h
  | _ :: _, [], _, _, _, _, _, _, _, h, _ => nomatch h
  | r :: rs, s :: ss, f, st, ls, R, hn, hw, hw', hl, hk => by
    have hkk := hk 0 r s rfl rfl
    have ha := hw r List.mem_cons_self
    have hb := hw' s List.mem_cons_self
    have hn' : ls.n + (rs.length + 1 : Nat) ≤ 60 := hn
    have hmt := mt_of ha hb hkk
    have hm := match_right R hmt
    show (matchB st r s && cRun (advB st r s) rs ss) = (rightB ls r s && lRun (lStep ls r s) rs ss)
    rw [← hm]
    cases e : matchB st r s with
    | false => rfl
    | true =>
      obtain ⟨f', R'⟩ := step_rel R hmt e (by omega)
      have := run_eq rs ss f' _ _ R' (by rw [lStep_n]; omega) (fun r h => hw r (.tail _ h)) (fun s h => hw' s (.tail _ h)) (Nat.succ.inj hl) (fun i r s h1 h2 => hk (i + 1) r s h1 h2)
      rw [this]
theorem rel_ini {n : Nat} (h : n ≤ 3) : Rel inl (iniS n) (iniL n) := by
  have inj : ∀ i j : Int, 1 ≤ i → i ≤ 3 → 1 ≤ j → j ≤ 3 → inl i = inl j → i = j := by
    intro i j h1 h2 h3 h4 he
    obtain rfl | rfl | rfl : i = 1 ∨ i = 2 ∨ i = 3 := by omega
    all_goals (obtain rfl | rfl | rfl : j = 1 ∨ j = 2 ∨ j = 3 := by omega)
    all_goals first | rfl | exact absurd he (by decide +kernel)
  obtain rfl | rfl | rfl | rfl : n = 0 ∨ n = 1 ∨ n = 2 ∨ n = 3 := by omega
  all_goals refine ⟨by decide +kernel, by decide +kernel, by decide +kernel, by decide +kernel, ?_, ?_, ?_, ?_, by decide +kernel, by decide +kernel, fun i j h1 h2 h3 h4 he => inj i j h1 (Int.le_trans h2 (by decide +kernel)) h3 (Int.le_trans h4 (by decide +kernel)) he, fun i _ _ => .inl (hd0_inl i)⟩
  all_goals (unfold InR; decide +kernel)
theorem plain_law {n : Nat} {rs ss : List Row} (h : n ≤ 3) (hz : rs.length ≤ 50) (hw : ∀ r ∈ rs, WA r) (hw' : ∀ s ∈ ss, WR s) (hl : rs.length = ss.length) (hk : ∀ (i : Nat) (r s : Row), rs[i]? = some r → ss[i]? = some s → r.k = s.k) :
    cRun (iniS n) rs ss = lRun (iniL n) rs ss := by
  refine run_eq rs ss _ _ _ (rel_ini h) ?_ hw hw' hl hk
  have : (iniL n).n = 0 := by
    obtain rfl | rfl | rfl | rfl : n = 0 ∨ n = 1 ∨ n = 2 ∨ n = 3 := by omega
    all_goals rfl
  omega
end
section
theorem UpdF.upd {d : Addr} {o : Obj} {l : List (Addr × Obj)} {g : Obj → List (Addr × Obj)} (U : UpdF d o l g) (o' : Obj) : Upd d o o' l (g o') := by
  induction U with
  | head h => exact .head h
  | tail h _ ih => exact .tail h ih
theorem UpdF.same {d : Addr} {o : Obj} {l : List (Addr × Obj)} {g : Obj → List (Addr × Obj)} (U : UpdF d o l g) : g o = l := by
  induction U with
  | head h => rfl
  | tail h _ ih => simp only [ih]
abbrev rollO (ls : Addr) (p : Nat) (tp : Tok) (nl : Nat) : Obj := listOf #[.ref ls, .int (p : Int) tp] nl
theorem ints_at {vs : List Value} {ns : List Int} (h : IntsOf vs ns) {p : Nat} (hp : (p : Int) < (vs.length : Int)) : ∃ z t, vs[p]? = some (.int z t) := by
  have hp' : p < vs.length := by omega
  obtain ⟨z, _, t, e⟩ := all2_get h (List.getElem?_eq_getElem hp')
  exact ⟨z, t, by rw [List.getElem?_eq_getElem hp', e]⟩
theorem upd_use {d : Addr} {o o' : Obj} {l : List (Addr × Obj)} {g : Obj → List (Addr × Obj)} (h : ∀ o', Upd d o o' l (g o')) : Upd d o o' l (g o') := h o'
theorem sub_ints {A : Around} {E : Value → Shared → Prop} {s : Shared} {h₀ : Heap} {L d : Addr} {news : List (Addr × Obj)} {w : World} {vs : List Value} {ns : List Int} {n p : Nat} {u : Tok} {prog : Program} {value slice : PySem.Expr} {Q : Value → Shared → Prop} (N : News h₀ L s.heap news) (hp : (d, listOf vs.toArray n) ∈ news)
    (hi : IntsOf vs ns) (hz : vs.length ≤ 1000) (hlt : ¬ (vs.length : Int) ≤ (p : Int)) (h : ∀ z t, Q (.int z t) s)
    (hs : subscripted slice false (.ref d) (.int (p : Int) u) = operate [.ref d, .int (p : Int) u] (getItem (.ref d) (.int (p : Int) u)) := by with_unfolding_all rfl) :
    wpAny (model prog w) A (subscriptTail value slice (.ref d) (.int (p : Int) u)) Q E s := by
  obtain ⟨z, t, e⟩ := ints_at hi (p := p) (by omega)
  subst_vars
  refine item_litK (News.isList N hp) (by omega) (by omega) (by simpa using e) (h z t) hs
section
variable {prog : Program} {w : World} {A : Around} {E : Value → Shared → Prop} {s : Shared} {h₀ : Heap} {L rl ls : Addr} {m : PySem.Str → Option Value} {news : List (Addr × Obj)} {g : Obj → List (Addr × Obj)} {p p' nl : Nat} {tp u t : Tok}
theorem roll_get {Q : Value → Shared → Prop} (N : News h₀ L s.heap news) (hm : (rl, rollO ls p tp nl) ∈ news) (h : Q (.int (p : Int) tp) s) : wpAny (model prog w) A (getItem (.ref rl) (.int 1 u)) Q E s :=
  wpAny_getItem_list (News.isList N hm) (by decide) (by decide) rfl h
theorem roll_set {z : Int} {Q : Unit → Shared → Prop} (F : Fr h₀ L s.heap m) (N : News h₀ L s.heap news) (U : ∀ o', Upd rl (rollO ls p tp nl) o' news (g o')) (hz : z = (p' : Int))
    (h : ∀ h', Fr h₀ L h' m → News h₀ L h' (g (rollO ls p' t nl)) → Q () { s with heap := h' }) : wpAny (model prog w) A (setItem (.ref rl) (.int 1 u) (.int z t)) Q E s := by
  subst hz
  exact ki_set (its := #[.ref ls, .int (p : Int) tp]) (q := [.ref ls, .int (p' : Int) t]) F N (by decide) (by decide) rfl (U _) h
end
set_option maxRecDepth 100000 in
set_option maxHeartbeats 0 in
theorem read_ct (c : Cx) {rl ls : Addr} {vs : List Value} {ns : List Int} {p : Nat} {lim : Int} {tp tl : Tok} {nl n2 : Nat} {news : List (Addr × Obj)} {g : Obj → List (Addr × Obj)}
    (hi : IntsOf vs ns) (hl1 : 1 ≤ lim) (hlen : vs.length ≤ 1000) (hm1 : (rl, rollO ls p tp nl) ∈ news) (hm2 : (ls, listOf vs.toArray n2) ∈ news) (U : UpdF rl (rollO ls p tp nl) news g) :
    Ct c 140 3 20 [.ref rl, .int lim tl] news (fun r news' => ∃ k t p' tp', r = .int k t ∧ 0 ≤ k ∧ k < lim ∧ news' = g (rollO ls p' tp' nl)) := by
  unfold Ct PR
  k_fill
  intro A env outer A₀ base h₀ L m s Q E hh hA hf hke hd hu B F X N T ret
  have hU := UpdF.upd U
  have hz0 : vs.length ≤ 1000000 := by omega
  k_with_none
  k_with "mem" => (first | with_reducible assumption | with_reducible exact List.mem_cons_self | (with_reducible refine List.mem_cons_of_mem _ ?_; k_extra "mem") | (with_reducible refine List.mem_append_left _ ?_; k_extra "mem") | (with_reducible refine List.mem_append_right _ ?_; k_extra "mem"))
  k_with "my_enter" => ((refine' code_def ?r2zk1 ?r2zk2 ?r2zk3 ?r2zk4 ?r2zk5 ?r2zkA ?r2zkF ?r2zkK ?r2zk6 ?r2zk7 ?r2zk8 ?r2zk9 ?r2zkB ?_ ?r2zc2 ?r2zc3 ?r2zc4 ?r2zc5; (case r2zkA => assumption); (case r2zkF => assumption); (case r2zkK => assumption); (case r2zk1 => k_asm); (case r2zk2 => k_asm); (case r2zk3 => k_asm); (case r2zk4 => k_asm); (case r2zk5 => k_asm); (case r2zk6 => k_is); (case r2zk7 => k_is); (case r2zk8 => omega); (case r2zk9 => exact BindsTo.of_eq rfl); (case r2zc5 => decide); (case r2zkB => exact locs rfl); (case r2zc2 => exact rfl); (case r2zc3 => exact rfl); (case r2zc4 => exact rfl); k_whole; intro zq_g' zq_L' zq_h' zq_FG' zq_F' zq_N' zq_B' zq_X' zq_T'; (try dsimp only); (try k_fold)))
  k_with "mysub" => (((with_reducible show wpAny _ _ (subscriptTail _ _ (Value.ref _) (Value.int _ _)) _ _ _); (with_unfolding_all first | (refine' sub_tup ?r3zN ?r3zm ?r3zi ?r3zj ?r3zx ?_ ?r3zh6; (case r3zN => k_asm); (case r3zm => k_extra "mem"); (case r3zi => exact rfl); (case r3zj => decide); (case r3zx => exact rfl); (case r3zh6 => rfl); k_whole) | (refine' sub_list ?r3zN ?r3zm ?r3zi ?r3zj ?r3zx ?_ ?r3zh6; (case r3zN => k_asm); (case r3zm => k_extra "mem"); (case r3zi => exact rfl); (case r3zj => omega); (case r3zx => assumption); (case r3zh6 => rfl); k_whole) | (refine' sub_list ?r3zN ?r3zm ?r3zi ?r3zj ?r3zx ?_ ?r3zh6; (case r3zN => k_asm); (case r3zm => k_extra "mem"); (case r3zi => exact rfl); (case r3zj => decide); (case r3zx => exact rfl); (case r3zh6 => rfl); k_whole) | (refine' di_item ?r3zN ?r3zm ?r3zd ?r3zv ?_ ?r3zh6; (case r3zN => k_asm); (case r3zm => k_extra "mem"); (case r3zd => with_reducible assumption); (case r3zv => with_reducible assumption); (case r3zh6 => rfl); k_whole; intro _) | (refine' ds_item ?r3zN ?r3zm ?r3zd ?r3zv ?_ ?r3zh6; (case r3zN => k_asm); (case r3zm => k_extra "mem"); (case r3zd => with_reducible assumption); (case r3zv => with_reducible assumption); (case r3zh6 => rfl); k_whole; intro _))))
  k_with "subscriptTail" => (k_extra "mysub")
  k_with "subscriptTail Name Constant ref int" => (k_extra "mysub")
  k_with "subscriptTail Name Name ref int" => (k_extra "mysub")
  k_with "subscriptTail Attribute Name Subscript Name Constant ref int" => (k_extra "mysub")
  k_with "getMethod ref" => (((with_reducible show wpAny _ _ (getMethod (Value.ref _) (PySem.Str.ofString "get") _) _ _ _); k_dflt (first | (refine' di_method ?r8zN ?r8zm ?r8zd ?_; (case r8zN => k_asm); (case r8zm => k_extra "mem"); (case r8zd => with_reducible assumption)) | (refine' ds_method ?r8zN ?r8zm ?r8zd ?_; (case r8zN => k_asm); (case r8zm => k_extra "mem"); (case r8zd => with_reducible assumption)))))
  k_with "call builtin:dict.get" => ((k_dflt (first | (refine' di_get ?r9zN ?r9zm ?r9zd ?r9zlo ?_; (case r9zN => k_asm); (case r9zm => k_extra "mem"); (case r9zd => with_reducible assumption); (case r9zlo => with_reducible assumption)) | (refine' ds_get ?r9zN ?r9zm ?r9zd ?r9zlo ?_; (case r9zN => k_asm); (case r9zm => k_extra "mem"); (case r9zd => with_reducible assumption); (case r9zlo => with_reducible assumption))); intro _))
  k_with "compareOp NotIn int ref" => ((k_dflt (refine' di_notin2 ?r10zN ?r10zm ?r10zd ?r10zlo ?_ ?_; (case r10zN => k_asm); (case r10zm => k_extra "mem"); (case r10zd => with_reducible assumption); (case r10zlo => with_reducible assumption)); intros))
  k_with "ite" => (with_reducible first | refine ite_t ?_ | refine ite_f ?_ | (refine' ite_bt ?r11zh ?_; (case r11zh => assumption)) | (refine' ite_bf ?r11zh ?_; (case r11zh => assumption)))
  k_with "opAt" => (first | with_reducible assumption | (refine' OpAt.mono ?r12zs ?r12zh; (case r12zh => with_reducible assumption); (case r12zs => k_extra "sub")) | (refine' OpAt.t ?r12zq; (case r12zq => k_extra "mem")) | (refine' OpAt.a ?r12zq; (case r12zq => k_extra "mem")) | (refine' OpAt.y ?r12zq; (case r12zq => k_extra "mem")) | (refine' OpAt.x ?r12zq; (case r12zq => k_extra "mem")))
  k_with "units" => (first | exact un1 (by with_reducible assumption) rfl | exact un0 (by with_reducible assumption) rfl | exact un2 (by with_reducible assumption) rfl | (simp only [units_in1, units_deeper, Around.mark_units, units_caller] at *; omega))
  k_with "compareOp Eq ref ref" => ((k_dflt (refine' op_eq ?r14zN ?r14za ?r14zb ?r14zu ?_; (case r14zN => k_asm); (case r14za => k_extra "opAt"); (case r14zb => k_extra "opAt"); (case r14zu => k_extra "units"); k_whole)))
  k_with "compareOp NotEq ref ref" => ((k_dflt (refine' op_ne ?r15zN ?r15za ?r15zb ?r15zu ?_; (case r15zN => k_asm); (case r15za => k_extra "opAt"); (case r15zb => k_extra "opAt"); (case r15zu => k_extra "units"); k_whole)))
  k_with "ne" => (first | with_reducible assumption | with_reducible exact Ne.symm (by with_reducible assumption) | with_reducible exact lt_ne_1 (by with_reducible assumption) | with_reducible exact lt_ne_2 (by with_reducible assumption) | with_reducible exact lt_ne_3 (by with_reducible assumption) | with_reducible exact lt_ne_4 (by with_reducible assumption) | with_reducible exact lt_ne_5 (by with_reducible assumption) | with_reducible exact lt_ne_6 (by with_reducible assumption) | with_reducible exact lt_ne_7 (by with_reducible assumption) | with_reducible exact lt_ne_8 (by with_reducible assumption) | with_reducible exact Ne.symm (lt_ne_1 (by with_reducible assumption)) | with_reducible exact Ne.symm (lt_ne_2 (by with_reducible assumption)) | with_reducible exact Ne.symm (lt_ne_3 (by with_reducible assumption)) | with_reducible exact Ne.symm (lt_ne_4 (by with_reducible assumption)) | with_reducible exact Ne.symm (lt_ne_5 (by with_reducible assumption)) | with_reducible exact Ne.symm (lt_ne_6 (by with_reducible assumption)) | with_reducible exact Ne.symm (lt_ne_7 (by with_reducible assumption)) | with_reducible exact Ne.symm (lt_ne_8 (by with_reducible assumption)) | omega)
  k_with "allne" => (first | with_reducible assumption | (refine' ne_of_lt_all ?r17zz; (case r17zz => with_reducible assumption)) | (refine' ne_of_fresh ?r17zz ?r17zm; (case r17zz => with_reducible assumption); (case r17zm => k_extra "mem")) | exact List.forall_mem_nil _ | (refine' List.forall_mem_cons.mpr ⟨?r17za, ?r17zb⟩; (case r17za => ((try dsimp only); k_extra "ne")); (case r17zb => k_extra "allne")))
  k_with "updF" => (first | (refine' UpdF.head ?r18za; (case r18za => k_extra "allne")) | (refine' UpdF.tail ?r18za ?r18zb; (case r18za => ((try dsimp only); k_extra "ne")); (case r18zb => k_extra "updF")))
  k_with "setItem ref int" => ((k_dflt (first | (refine' di_set ?r19zF ?r19zN ?r19zU ?r19zd ?r19zz ?_; (case r19zF => k_asm); (case r19zN => k_asm); (case r19zU => k_extra "updF"); (case r19zd => with_reducible assumption); (case r19zz => omega)) | (refine' ds_set ?r19zF ?r19zN ?r19zU ?r19zd ?r19zz ?_; (case r19zF => k_asm); (case r19zN => k_asm); (case r19zU => k_extra "updF"); (case r19zd => with_reducible assumption); (case r19zz => omega))); intro zq_h' zq_o' zq_F' zq_N' zq_hd'; (try dsimp only at zq_N'); (try k_sweep)))
  k_with "ifline" => (first | ((with_reducible refine' if_ne ?r20zF ?r20zv ?r20zn ?_ ?r20zk ?r20zl ?r20zd); (case r20zF => k_asm); (case r20zv => with_unfolding_all rfl); (case r20zn => decide +kernel); (case r20zk => rfl); (case r20zl => rfl); (case r20zd => decide); intro _) | ((with_reducible refine' if_eq ?r20zF ?r20zv ?r20zn ?_ ?r20zk ?r20zl ?r20zd); (case r20zF => k_asm); (case r20zv => with_unfolding_all rfl); (case r20zn => decide +kernel); (case r20zk => rfl); (case r20zl => rfl); (case r20zd => decide); intro _; dsimp only) | ((with_reducible refine' ifo_ne ?r20zF ?r20zv ?r20zn ?_ ?r20zk ?r20zl ?r20zd); (case r20zF => k_asm); (case r20zv => with_unfolding_all rfl); (case r20zn => decide +kernel); (case r20zk => rfl); (case r20zl => rfl); (case r20zd => decide); intro _) | ((with_reducible refine' ifo_eq ?r20zF ?r20zv ?r20zn ?_ ?r20zk ?r20zl ?r20zd); (case r20zF => k_asm); (case r20zv => with_unfolding_all rfl); (case r20zn => decide +kernel); (case r20zk => rfl); (case r20zl => rfl); (case r20zd => decide); intro _; dsimp only))
  k_with "execs cons" => (((with_reducible show wpAny _ _ (execs (Stmt.If _ _ _ _ :: _) _) _ _ _); k_dflt (k_extra "ifline")))
  k_with "ltall" => (first | assumption | exact tb_ltOf (by assumption) | (refine' tb_ltOf (And.right ?r22zz); (case r22zz => assumption)) | (refine' tb_ltOf (And.right (And.right ?r22zz)); (case r22zz => assumption)) | (refine' tb_ltOf (And.right (And.right (And.right ?r22zz))); (case r22zz => assumption)))
  k_with "fresh" => (first | exact FreshOver.nil | (refine' FreshOver.cons ?r23za ?r23zb; (case r23za => ((try dsimp only); k_extra "ltall")); (case r23zb => k_extra "fresh")))
  k_with "pairs" => (first | exact All2.nil | (refine' All2.cons ?r24za ?r24zb; (case r24za => (refine' PairAt.mk ?r24zc; (case r24zc => k_extra "mem"))); (case r24zb => k_extra "pairs")))
  k_with "upd" => (first | (refine' upd_app ?r25za ?r25zb; (case r25za => k_extra "allne"); (case r25zb => k_extra "upd")) | (refine' Upd.head ?r25za; (case r25za => k_extra "allne")) | (refine' Upd.tail ?r25za ?r25zb; (case r25za => ((try dsimp only); k_extra "ne")); (case r25zb => k_extra "upd")))
  k_with "setAttr ref" => ((k_dflt (refine' set_dict ?r26zF ?r26zX ?r26zN ?r26zI ?r26zd ?r26zs ?r26zp ?r26zt ?r26zh ?r26zl ?r26ze ?r26zU ?r26zz ?_; (case r26zF => k_asm); (case r26zX => k_asm); (case r26zN => k_asm); (case r26zI => k_inst); (case r26zd => exact rfl); (case r26zs => k_is); (case r26zp => k_is); (case r26zt => k_is); (case r26zh => k_is); (case r26zl => k_get); (case r26ze => k_put); (case r26zU => k_extra "upd"); (case r26zz => exact Nat.le_of_ble_eq_true rfl)); intro zq_h' zq_F' zq_N'; (try k_sweep)))
  k_with "compareOp Eq" => ((k_dflt (refine' pt_eq ?r27zN ?r27za ?r27zb ?r27zu ?_; (case r27zN => k_asm); (case r27za => with_reducible assumption); (case r27zb => with_reducible assumption); (case r27zu => k_extra "units"); k_whole)))
  k_with "compareOp NotEq" => ((k_dflt (refine' pt_ne ?r28zN ?r28za ?r28zb ?r28zu ?_; (case r28zN => k_asm); (case r28za => with_reducible assumption); (case r28zb => with_reducible assumption); (case r28zu => k_extra "units"); k_whole)))
  k_with "exec While Compare cons nil" => (first | ((k_dflt (k_extra "while")); (all_goals ((try ((try k_unmd); k_unfold; clear gG)); (try k_unmd); (try k_fold)))) | (k_here; (try k_fold); k_dflt (refine whl_start 100 ?_)))
  k_with "call builtin:isinstance" => ((k_dflt (first | (refine' isi_tup ?r30zF ?r30zX ?r30zN ?r30zm ?_; (case r30zF => k_asm); (case r30zX => k_asm); (case r30zN => k_asm); (case r30zm => k_extra "mem")) | (refine' isi_int ?r30zF ?r30zX ?r30zN ?_; (case r30zF => k_asm); (case r30zX => k_asm); (case r30zN => k_asm))); intro _))
  k_with "eval Name" => (((with_reducible refine' ldq ?r31zF ?r31zv ?r31zk ?r31zl ?r31zd ?_); (case r31zF => with_reducible assumption); (case r31zl => decide +kernel); (case r31zd => decide +kernel); (case r31zv => k_dflt (first | with_reducible assumption | exact @rfl _ (some _) | assumption)); (case r31zk => exact rfl)))
  k_with "TurnPost" => ((first | (with_reducible refine TurnPost.retI ?_) | (with_reducible refine TurnPost.nextI ?_)))
  k_with "exec For" => (((rename Fr _ _ _ _ => zq_lF'); (with_unfolding_all refine' For_invVF zq_lF' ?r33zk1 ?r33zk2 ?_; (case r33zk1 => exact rfl); (case r33zk2 => exact rfl); k_whole)))
  k_with "exec For Name Attribute cons nil" => (walk_at "exec For")
  k_with "exec For Name Name cons nil" => (walk_at "exec For")
  k_with "exec For Name Call cons nil" => (walk_at "exec For")
  k_with "rowAt" => (with_reducible assumption)
  k_with "depth" => (first | exact dp1 (by with_reducible assumption) rfl | exact dp0 (by with_reducible assumption) rfl | exact dp2 (by with_reducible assumption) rfl | (simp only [depth_under_make, depth_under_kw, depth_in1, depth_deeper, depth_caller] at *; omega))
  k_with "exec If" => (first | k_dflt (k_extra "if") | ((with_reducible refine wpAny_If ?_); (try dsimp only)))
  k_with "exec If Compare cons nil" => (walk_at "exec If")
  k_with "exec If BoolOp cons nil" => (walk_at "exec If")
  k_with "exec If Call cons nil" => (walk_at "exec If")
  k_with "exec If UnaryOp cons nil" => (walk_at "exec If")
  k_with "exec If Compare cons cons" => (walk_at "exec If")
  k_with "exec If BoolOp cons cons" => (walk_at "exec If")
  k_with "eval Call" => (((fail_if_success (with_reducible show wpAny _ _ (eval (Expr.Call (Expr.Name (PySem.Str.ofString "range") _) _ _ _) _) _ _ _)); (with_reducible show wpAny _ _ (eval (Expr.Call (Expr.Name _ _) _ _ _) _) _ _ _); k_dflt (refine Call_ ?_)))
  k_with "eval Call Attribute" => ((k_dflt (refine MethodCall_ ?_)))
  k_with "handled" => (first | assumption | exact rfl)
  k_with "frames" => (first | exact rfl | (refine' frames_deeper ?r49zz; (case r49zz => assumption)))
  k_with "pyIter ref" => (((k_dflt (k_extra "loop")); (all_goals ((try ((try k_unmd); k_unfold; clear gG)); (try dsimp only); (try k_unmd); (try k_fold)))))
  k_with "call ref" => (k_dflt (k_extra "call"))
  k_with "sub" => (first | with_reducible assumption | with_reducible exact sub_refl | (with_reducible refine sub_cons ?_; k_extra "sub") | (with_reducible refine sub_app ?_; k_extra "sub"))
  k_with "call builtin:list.append" => ((k_dflt (refine' app_l ?r53zF ?r53zN ?r53zU ?r53zz ?_; (case r53zF => k_asm); (case r53zN => k_asm); (case r53zU => k_extra "upd"); (case r53zz => exact Nat.le_of_ble_eq_true rfl)); intro zq_h' zq_F' zq_N'; (try dsimp only [List.cons_append, List.nil_append] at zq_N'); (try k_sweep)))
  k_with "compareOp In ref ref" => ((k_dflt (first | (refine' in_ops0 ?r54zN ?r54zl ?r54zo ?r54zu ?_; (case r54zN => k_asm); (case r54zl => k_extra "mem"); (case r54zo => k_extra "opAt"); (case r54zu => k_extra "units")) | (refine' in_ops1 ?r54zN ?r54zl ?r54zv ?r54zo ?r54zu ?_; (case r54zN => k_asm); (case r54zl => k_extra "mem"); (case r54zv => k_extra "opAt"); (case r54zo => k_extra "opAt"); (case r54zu => k_extra "units")))))
  k_with "assign Tuple" => ((k_dflt (refine' unpackN_ ?r55zF ?r55zN ?r55zT ?r55zh ?r55z2 ?r55z3 ?_; (case r55zF => k_asm); (case r55zN => k_asm); (case r55zT => (refine' News.isTup ?r55zy1 ?r55zy2; (case r55zy1 => k_asm); (case r55zy2 => k_extra "mem"))); (case r55zh => k_extra "handled"); (case r55z2 => exact rfl); (case r55z3 => exact rfl)); intro zq_h' zq_F' zq_N'; (try k_sweep)))
  k_with "WPost" => ((first | (with_reducible refine WPost.retI ?_) | (with_reducible refine WPost.nextI ?_)))
  k_with "WhlIf" => (((first | (refine' WhlIf.yes ?r57zz ?_; (case r57zz => (refine decide_eq_true ?_; omega))) | (refine' WhlIf.no ?r57zz ?_; (case r57zz => (refine decide_eq_false ?_; omega)))); (try dsimp only); (try k_unmd); (try k_fold)))
  k_with "call builtin:len" => ((k_dflt (refine' len_l ?r58zN ?r58zm ?r58zz ?_; (case r58zN => k_asm); (case r58zm => k_extra "mem"); (case r58zz => first | exact Nat.le_of_ble_eq_true rfl | omega)); intro _ _))
  k_with "loadName" => (((with_reducible refine' ldnq ?r59zF ?r59zv ?r59zk ?r59zl ?_); (case r59zF => with_reducible assumption); (case r59zl => decide +kernel); (case r59zv => k_dflt (first | with_reducible assumption | exact @rfl _ (some _) | assumption)); (case r59zk => exact rfl)))
  k_with "kv" => (with_reducible first | exact kv_held | exact kv_temps | exact kv_given | exact kv_out | exact kv_count)
  k_with "stitem" => ((k_dflt (refine' st_item ?r61zN ?r61zm ?r61zd ?r61zv ?_ ?r61zh6; (case r61zN => k_asm); (case r61zm => k_extra "mem"); (case r61zd => with_reducible assumption); (case r61zv => k_extra "kv"); (case r61zh6 => with_unfolding_all rfl))))
  k_with "subscriptTail Name Constant ref str" => (k_extra "stitem")
  k_with "call type:range" => ((k_dflt (first | (refine' range1_rows ?r63zF ?r63zN ?_; (case r63zF => k_asm); (case r63zN => k_asm)) | (refine' range2_rows ?r63zF ?r63zN ?_; (case r63zF => k_asm); (case r63zN => k_asm))); intro zq_h' zq_tk' zq_t9 zq_u9 zq_w9 zq_R' zq_F' zq_N' zq_kp'; clear zq_kp'; (try k_sweep)))
  k_with "TurnPost" => ((with_reducible refine TurnPost.contI ?_))
  k_with "unpackItems ref" => ((k_dflt (refine' unpackItemsN_ ?r65zF ?r65zN ?r65zT ?r65zh ?r65z2 ?_; (case r65zF => k_asm); (case r65zN => k_asm); (case r65zT => (refine' News.isTup ?r65zy1 ?r65zy2; (case r65zy1 => k_asm); (case r65zy2 => k_extra "mem"))); (case r65zh => k_extra "handled"); (case r65z2 => exact rfl)); intro zq_h' zq_F' zq_N'; (try k_sweep)))
  k_with "storeName" => (((k_dflt (refine' store_let ?r66zF ?r66zN ?_ ?r66za ?r66zb; (case r66zF => k_asm); (case r66zN => k_asm); (case r66za => rfl); (case r66zb => rfl); k_whole)); (intro zq_mk zq_h' zq_F' zq_N'); (try k_sweep)))
  k_with "callWith" => (((with_reducible show wpAny _ _ (callWith _ (Value.builtin "list.append") _ _ _) _ _ _); (k_dflt (refine callWith_method1 ?_))))
  k_with "getItem ref int" => ((k_dflt (refine' roll_get ?r142zN ?r142zm ?_; (case r142zN => k_asm); (case r142zm => k_extra "mem"))))
  k_with "setItem ref int int" => ((k_dflt (refine' roll_set ?r143zF ?r143zN ?r143zU ?r143zz ?_; (case r143zF => k_asm); (case r143zN => k_asm); (case r143zU => assumption); (case r143zz => exact rfl)); intro zq_h' zq_F' zq_N'; (try k_sweep)))
  k_with "call builtin:len" => ((k_dflt (refine' len_l ?r144zN ?r144zm ?r144zz ?_; (case r144zN => k_asm); (case r144zm => k_extra "mem"); (case r144zz => assumption)); intro _ _))
  k_with "subscriptTail Name Subscript ref int" => ((with_unfolding_all (refine' sub_ints ?r145zN ?r145zm ?r145zi ?r145zj ?r145zx ?_ ?r145zh6; (case r145zN => k_asm); (case r145zm => k_extra "mem"); (case r145zi => assumption); (case r145zj => assumption); (case r145zx => assumption); (case r145zh6 => rfl); k_whole); intro _ _))
  k_with "upd" => (exact upd_use (by assumption))
  refine wpAny_call ?_
  k_dflt (refine' code_def (binds := [(PySem.Str.ofString "roll", .ref rl), (PySem.Str.ofString "limit", .int lim tl)]) ?zk1 ?zk2 ?zk3 ?zk4 ?zk5 ?zkA ?zkF ?zkK ?zk6 ?zk7 ?zk8 ?zk9 ?zkB ?_ ?zc2 ?zc3 ?zc4 ?zc5; (case zkA => assumption); (case zkF => assumption); (case zkK => assumption); (case zk1 => k_asm); (case zk2 => k_asm); (case zk3 => k_asm); (case zk4 => k_asm); (case zk5 => k_asm); (case zk6 => k_is); (case zk7 => k_is); (case zk8 => omega); (case zk9 => exact BindsTo.of_eq rfl); (case zc5 => decide); (case zkB => exact locs rfl); (case zc2 => exact rfl); (case zc3 => exact rfl); (case zc4 => exact rfl); k_whole; intro g' L' h' FG' F' N' B' X' T'; (try dsimp only [List.reverse_cons, List.reverse_nil, List.nil_append, List.cons_append] at F'); (try dsimp only); (try k_fold))
  k_steps
  · exact ret _ _ _ _ (by assumption) (by assumption) ⟨0, _, p, tp, rfl, Int.le_refl _, by omega, (UpdF.same U).symm⟩
  · exact ret _ _ _ _ (by assumption) (by assumption) ⟨_, _, p + 1, _, rfl, fmod_lo _ (by omega), fmod_hi _ (by omega), rfl⟩
  · exact ret _ _ _ _ (by assumption) (by assumption) ⟨_, _, p + 1, _, rfl, fmod_lo _ (by omega), fmod_hi _ (by omega), rfl⟩
end
section
noncomputable def FreshCh : List (Addr × Obj) → List (Addr × Obj) → Prop
  | [], _ => True
  | d :: ds, base => AllLt d.1 (ds ++ base) ∧ FreshCh ds base
theorem fresh_lt : ∀ {D base : List (Addr × Obj)}, FreshCh D base → ∀ d ∈ D, ∀ q ∈ base, q.1 < d.1
  | [], _, _, d, hd, _, _ => nomatch hd
  | x :: ds, base, h, d, hd, q, hq => by
    rcases List.mem_cons.mp hd with rfl | hd
    · exact tb_ltOf h.1 q (List.mem_append_right _ hq)
    · exact fresh_lt h.2 d hd q hq
theorem fresh_off {D base keep : List (Addr × Obj)} {x : Addr × Obj} (h : FreshCh D base) (hx : x ∈ base) (hk : Off x.1 keep) : Off x.1 (D ++ keep) := by
  intro q hq
  rcases List.mem_append.mp hq with hq | hq
  · exact Nat.ne_of_gt (fresh_lt h q hq x hx)
  · exact hk q hq
noncomputable def Tok4 (r : Row) : Prop := ∀ k, Pt.op (.t k) ∈ r.ps → 0 ≤ k ∧ k < 4
structure GOk (rl ls cl : Addr) (keep : List (Addr × Obj)) (cvs : List Value) (rows : List Row) : Prop where
  all : All2 (RowAt keep) cvs rows
  rg : ∀ r ∈ rows, WA r ∧ Tok4 r
  o1 : Off rl keep
  o2 : Off ls keep
  o3 : Off cl keep
theorem GOk.add {rl ls cl : Addr} {keep : List (Addr × Obj)} {cvs : List Value} {rows : List Row} {v : Value} {r : Row} (h : GOk rl ls cl keep cvs rows) (hr : RowAt keep v r) (hw : WA r) (ht : Tok4 r) : GOk rl ls cl keep (cvs ++ [v]) (rows ++ [r]) :=
  ⟨all2_append h.all hr, fun x hx => (List.mem_append.mp hx).elim (h.rg x) fun hx => by rw [List.mem_singleton.mp hx]; exact ⟨hw, ht⟩, h.o1, h.o2, h.o3⟩
theorem GOk.grow {rl ls cl : Addr} {keep own : List (Addr × Obj)} {cvs : List Value} {rows : List Row} {D : List (Addr × Obj)} {a b d : Obj} (h : GOk rl ls cl keep cvs rows) (hf : FreshCh D ((rl, a) :: (ls, b) :: (cl, d) :: (keep ++ own))) : GOk rl ls cl (D ++ keep) cvs rows :=
  ⟨h.all.mono fun _ _ x => x.mono fun _ hp => List.mem_append_right _ hp, h.rg, fresh_off (x := (rl, a)) hf (.head _) h.o1, fresh_off (x := (ls, b)) hf (.tail _ (.head _)) h.o2, fresh_off (x := (cl, d)) hf (.tail _ (.tail _ (.head _))) h.o3⟩
theorem gen_end {h₀ : Heap} {L : Addr} {J : (PySem.Str → Option Value) → List (Addr × Obj) → Prop} {own : List (Addr × Obj)} {s₁ : Shared} {m' : PySem.Str → Option Value} {h' : Heap} {tk : Nat} {x1 x2 x3 : Addr × Obj} {keep : List (Addr × Obj)} (D : List (Addr × Obj))
    (F : Fr h₀ L h' m') (N : News h₀ L h' (D ++ (x1 :: x2 :: x3 :: (keep ++ own)))) (hf : FreshCh D (x1 :: x2 :: x3 :: (keep ++ own))) (ho : OwnOff own (x1.1 :: x2.1 :: x3.1 :: keep.map (·.1))) (hj : J m' (x1 :: x2 :: x3 :: (D ++ keep))) :
    TurnEnd h₀ L J own s₁ { s₁ with heap := h', toks := tk } := by
  refine TurnEnd.intro (nx := x1 :: x2 :: x3 :: (D ++ keep)) F N ?_ ?_ ?_ hj
  · intro p hp
    simp only [List.mem_cons, List.mem_append] at hp ⊢
    rcases hp with h | h | h | h | h <;> simp only [h, true_or, or_true]
  · intro p hp
    simp only [List.mem_cons, List.mem_append]
    simp only [hp, or_true]
  · intro p hp b hb
    simp only [List.map_cons, List.map_append, List.mem_cons, List.mem_append] at hb
    rcases hb with h | h | h | h | h
    · exact ho p hp b (by simp [h])
    · exact ho p hp b (by simp [h])
    · exact ho p hp b (by simp [h])
    · obtain ⟨d, hd, rfl⟩ := List.mem_map.mp h
      exact Nat.ne_of_lt (fresh_lt hf d hd p (.tail _ (.tail _ (.tail _ (List.mem_append_right _ hp)))))
    · exact ho p hp b (by simp only [List.mem_cons]; simp only [h, or_true])
theorem row2 {keep : List (Addr × Obj)} {a : Addr} {s : PySem.Str} {t : Tok} {n : Nat} {v1 v2 : Value} {p1 p2 : Pt} {k : Kd} (hm : (a, tupOf #[.str s t, v1, v2] n) ∈ keep) (hk : s = k.name) (h1 : PtAt keep v1 p1) (h2 : PtAt keep v2 p2) : RowAt keep (.ref a) ⟨k, [p1, p2]⟩ := by
  subst hk; exact .mk hm (.cons h1 (.cons h2 .nil))
theorem row1 {keep : List (Addr × Obj)} {a : Addr} {s : PySem.Str} {t : Tok} {n : Nat} {v1 : Value} {p1 : Pt} {k : Kd} (hm : (a, tupOf #[.str s t, v1] n) ∈ keep) (hk : s = k.name) (h1 : PtAt keep v1 p1) : RowAt keep (.ref a) ⟨k, [p1]⟩ := by
  subst hk; exact .mk hm (.cons h1 .nil)
theorem app_len0 {α : Type} {l : List α} (h : l.length ≤ 900) : l.length ≤ 100000 := by omega
theorem app_len1 {α : Type} {l : List α} {a : α} (h : l.length ≤ 900) : (l ++ [a]).length ≤ 100000 := by simp; omega
theorem app_len2 {α : Type} {l : List α} {a b : α} (h : l.length ≤ 900) : (l ++ [a] ++ [b]).length ≤ 100000 := by simp; omega
theorem gen_push {h₀ : Heap} {L : Addr} {J : (PySem.Str → Option Value) → List (Addr × Obj) → Prop} {own : List (Addr × Obj)} {s₁ : Shared} {m' : PySem.Str → Option Value} {h' : Heap} {tk : Nat} {rl ls cl : Addr} {a b d : Obj} {keep : List (Addr × Obj)} {cvs : List Value} {rows : List Row} (D : List (Addr × Obj))
    (F : Fr h₀ L h' m') (N : News h₀ L h' (D ++ ((rl, a) :: (ls, b) :: (cl, d) :: (keep ++ own)))) (hf : FreshCh D ((rl, a) :: (ls, b) :: (cl, d) :: (keep ++ own))) (ho : OwnOff own (rl :: ls :: cl :: keep.map (·.1))) (hG : GOk rl ls cl keep cvs rows)
    (hj : GOk rl ls cl (D ++ keep) cvs rows → J m' ((rl, a) :: (ls, b) :: (cl, d) :: (D ++ keep))) :
    TurnEnd h₀ L J own s₁ { s₁ with heap := h', toks := tk } := gen_end D F N hf ho (hj (hG.grow hf))
end
section
section
variable {w : World} {A : Around} {E : Value → Shared → Prop} {s : Shared} {env : Env} {h₀ : Heap} {x : PySem.Str} {body : List Stmt} {Q : Flow → Shared → Prop}
theorem ti_iter {l : Addr} {vs : List Value} {nn : Nat} {m₀ : PySem.Str → Option Value} {news : List (Addr × Obj)} (J : Nat → (PySem.Str → Option Value) → List (Addr × Obj) → Prop)
    (hh : A.handled = none) (hl : (l, tupOf vs.toArray nn) ∈ news) (F : Fr h₀ env.locals s.heap m₀) (N : News h₀ env.locals s.heap news) (hj : J 0 m₀ news)
    (turn : ∀ i v m₁ news₁ h tk own, vs[i]? = some v → OwnOff own (news₁.map (·.1)) → (l, tupOf vs.toArray nn) ∈ news₁ → J i m₁ news₁ → Fr h₀ env.locals h (fun y => if y = x then some v else m₁ y) → News h₀ env.locals h (news₁ ++ own) →
      wpAny (model PR w) A (execs body env) (TurnPost h₀ env.locals (fun m' nx => (l, tupOf vs.toArray nn) ∈ nx ∧ J (i + 1) m' nx) own { s with heap := h, toks := tk } Q) E { s with heap := h, toks := tk })
    (done : ∀ m₁ news₁ h tk, J vs.length m₁ news₁ → Fr h₀ env.locals h m₁ → News h₀ env.locals h news₁ → Q .next { s with heap := h, toks := tk }) :
    wpAny (model PR w) A (pyIter (.ref l)) (fun it s₂ => LoopAtV PR w A h₀ env x body Q E it s₂) E s := by
  have hol : s.heap.get? l = some (tupOf vs.toArray nn) := (N _ hl).1
  have hls : s.heap.IsTuple l vs.toArray := ⟨_, hol, rfl, nn, rfl⟩
  have hne : l ≠ s.heap.objs.size := Nat.ne_of_lt (Heap.lt_size hol)
  refine wpAny_pyIter_tuple hls ?_
  have W := Walks.tuple (prog := PR) (w := w) hh s.heap.objs.size l hne vs.toArray
  have hlen : vs.toArray.size = vs.length := by simp
  rw [hlen] at W
  refine ⟨_, _, _, vs.length, _, _, m₀, news, (fun i m nx => (l, tupOf vs.toArray nn) ∈ nx ∧ J i m nx), rfl, W, ?_, ?_, ?_, ⟨⟨_, Heap.get?_push_size _ rfl, rfl, rfl⟩, hls.at fun o e => Heap.get?_push_of_some _ e⟩, F.push _, (fun p hp => ⟨Heap.get?_push_of_some _ (N p hp).1, (N p hp).2⟩), ⟨hl, hj⟩, ?_, ?_⟩
  · intro hm
    rcases List.mem_cons.mp hm with e | hm
    · exact absurd F.ns.lt (e ▸ Nat.lt_irrefl _)
    · exact (N _ hl).2.1 ((List.mem_singleton.mp hm).symm)
  · intro b hb
    rw [List.mem_singleton.mp hb]
    exact next_is_new F
  · intro p hp hI
    exact absurd (Heap.lt_size (N p hp).1) ((List.mem_singleton.mp hI) ▸ Nat.lt_irrefl _)
  · rintro i v m₁ news₁ s₁ own ⟨hh', tk', rfl⟩ hin hP hlJ hoff hown hget hfp hst F₁ N₁
    (show (let gG : Prop := _; gG)); intro gG; obtain ⟨hl₁, hJ⟩ := hlJ
    have hP' : vs[i]? = some v := by simpa using hP
    have hI0 : h₀.get? s.heap.objs.size = none := next_is_new F
    obtain ⟨⟨oI, hoI, _⟩, _⟩ := id hst
    have hIown : (s.heap.objs.size, oI) ∈ own.filter fun p => decide (p.1 = s.heap.objs.size) := List.mem_filter.mpr ⟨hfp _ (List.mem_cons.mpr (.inl rfl)) hI0 _ hoI, by simp⟩
    have hsep : OwnOff (own.filter fun p => decide (p.1 = s.heap.objs.size)) (news₁.map (·.1)) := by
      intro p hp b hb e
      obtain ⟨q, hq, rfl⟩ := List.mem_map.mp hb
      have h1 : p.1 = s.heap.objs.size := by simpa using (List.mem_filter.mp hp).2
      exact hoff q hq (List.mem_singleton.mpr (e ▸ h1))
    have N₂ : News h₀ env.locals hh' (news₁ ++ own.filter fun p => decide (p.1 = s.heap.objs.size)) := fun p hp => N₁ p ((List.mem_append.mp hp).elim (fun h => List.mem_append.mpr (.inr h)) fun h => List.mem_append.mpr (.inl ((List.mem_filter.mp h).1)))
    have hlo : hh'.get? l = some (tupOf vs.toArray nn) := (N₁ _ (List.mem_append.mpr (.inr hl₁))).1
    (try k_unmd); k_unfold; clear gG
    refine wpAny_mono (turn i v m₁ news₁ hh' tk' _ hP' hsep hl₁ hJ F₁ N₂) (fun f s₂ p => ?_) fun _ _ e => e
    replace p := p.inv
    have fin : InvEndG h₀ env.locals (fun m' nx => (l, tupOf vs.toArray nn) ∈ nx ∧ J (i + 1) m' nx) (own.filter fun p => decide (p.1 = s.heap.objs.size)) { s with heap := hh', toks := tk' } s₂ →
        LoopStepU h₀ env.locals [s.heap.objs.size] own (fun m nx => (l, tupOf vs.toArray nn) ∈ nx ∧ J (i + 1) m nx) { s with heap := hh', toks := tk' } .next s₂ := by
      rintro ⟨h', tk, m', news', nx, e, F', N', hn, ho, ha, hm⟩
      refine ⟨rfl, h', tk, m', nx, e, F', fun p hp => ?_, fun p hp hq => ?_, hm⟩
      · rcases List.mem_append.mp hp with h | h
        · by_cases hI : p.1 = s.heap.objs.size
          · exact N' p (ho p (List.mem_filter.mpr ⟨h, by simpa using hI⟩))
          · have h1 : p.1 = l := by
              rcases List.mem_cons.mp (hown p h) with h2 | h2
              · exact absurd h2 hI
              · exact List.mem_singleton.mp h2
            have h2 : hh'.get? p.1 = some p.2 := hget p h
            rw [h1, hlo] at h2
            have h3 : p = (l, tupOf vs.toArray nn) := Prod.ext h1 (Option.some.inj h2).symm
            rw [h3]
            exact N' _ (hn _ hm.1)
        · exact N' p (hn p h)
      · exact ha _ hIown p.1 (List.mem_map.mpr ⟨p, hp, rfl⟩) (List.mem_singleton.mp hq).symm
    cases f with
    | ret v => exact .ret p
    | brk => exact .brk p
    | next => exact .next (fin p)
    | cont => exact .cont (fin p)
  · rintro h' tk m' news' F' N' _ ⟨_, hJ⟩
    exact done m' news' h' tk hJ F' N'
end
end
section
inductive It where
  | nm (s : PySem.Str)
  | pt (p : Pt)
inductive ItAt (news : List (Addr × Obj)) : Value → It → Prop where
  | nm {s : PySem.Str} {t : Tok} : ItAt news (.str s t) (.nm s)
  | pt {v : Value} {p : Pt} : PtAt news v p → ItAt news v (.pt p)
theorem ItAt.mono {news news' : List (Addr × Obj)} (hs : ∀ p ∈ news, p ∈ news') {v : Value} {o : It} (h : ItAt news v o) : ItAt news' v o := by
  cases h with
  | nm => exact .nm
  | pt h => exact .pt (h.mono hs)
noncomputable def rp (home : List Int) : Pt → Pt
  | .op (.t k) => .op (.x (home.getD k.toNat 0))
  | .op (.a k) => .op (.x k)
  | p => p
noncomputable def rIt (home : List Int) : It → It
  | .nm s => .nm s
  | .pt p => .pt (rp home p)
noncomputable def rRow (home : List Int) (r : Row) : Row := ⟨r.k, r.ps.map (rp home)⟩
theorem wr_of {home : List Int} {r : Row} (h : WA r) : WR (rRow home r) := by
  cases h <;> constructor
noncomputable def rowIts (r : Row) : List It := .nm r.k.name :: r.ps.map .pt
theorem its_of {keep : List (Addr × Obj)} {vs : List Value} {k : Kd} {ps : List Pt} {t : Tok} (h : All2 (PtAt keep) vs ps) : All2 (ItAt keep) (.str k.name t :: vs) (rowIts ⟨k, ps⟩) := by
  refine .cons .nm ?_
  show All2 (ItAt keep) vs (ps.map .pt)
  induction h with
  | nil => exact .nil
  | cons x _ ih => exact .cons (.pt x) ih
theorem pts_of {keep : List (Addr × Obj)} {home : List Int} : ∀ {ps : List Pt} {vs : List Value}, All2 (ItAt keep) vs ((ps.map .pt).map (rIt home)) → All2 (PtAt keep) vs (ps.map (rp home))
  | [], vs, h => by
    cases h; exact .nil
  | p :: ps, vs, h => by
    cases h with
    | cons x y =>
      cases x with
      | pt x => exact .cons x (pts_of y)
theorem row_of {keep : List (Addr × Obj)} {d : Addr} {n : Nat} {us : List Value} {r : Row} {home : List Int} (h : All2 (ItAt keep) us ((rowIts r).map (rIt home))) (hm : (d, tupOf us.toArray n) ∈ keep) : RowAt keep (.ref d) (rRow home r) := by
  unfold rowIts at h
  rw [List.map_cons] at h
  cases h with
  | cons x y =>
    cases x with
    | nm => exact .mk hm (pts_of y)
theorem it_cases {keep : List (Addr × Obj)} {v : Value} {r : Row} {i : Nat} {it : It} (hw : WA r) (ht : Tok4 r) (hi : (rowIts r)[i]? = some it) (h : ItAt keep v it) :
    (∃ s t, v = .str s t ∧ it = .nm s) ∨ (∃ n t, v = .int n t ∧ it = .pt (.int n)) ∨ (∃ a t1 t2 n k, v = .ref a ∧ it = .pt (.op (.t k)) ∧ 0 ≤ k ∧ k < 4 ∧ (a, tupOf #[.str (PySem.Str.ofString "t") t1, .int k t2] n) ∈ keep) ∨
    (∃ a t1 t2 n k, v = .ref a ∧ it = .pt (.op (.a k)) ∧ (a, tupOf #[.str (PySem.Str.ofString "a") t1, .int k t2] n) ∈ keep) ∨ (∃ a t1 t2 n k, v = .ref a ∧ it = .pt (.op (.y k)) ∧ (a, tupOf #[.str (PySem.Str.ofString "y") t1, .int k t2] n) ∈ keep) := by
  cases h with
  | nm => exact .inl ⟨_, _, rfl, rfl⟩
  | pt h =>
    cases h with
    | int => exact .inr (.inl ⟨_, _, rfl, rfl⟩)
    | op h =>
      have hmem : ∀ p, It.pt p ∈ rowIts r → p ∈ r.ps := by
        intro p hp
        unfold rowIts at hp
        rcases List.mem_cons.mp hp with hp | hp
        · cases hp
        · obtain ⟨q, hq, e⟩ := List.mem_map.mp hp
          cases e; exact hq
      have hm := hmem _ (List.mem_of_getElem? hi)
      cases h with
      | t h => exact .inr (.inr (.inl ⟨_, _, _, _, _, rfl, rfl, (ht _ hm).1, (ht _ hm).2, h⟩))
      | a h => exact .inr (.inr (.inr (.inl ⟨_, _, _, _, _, rfl, rfl, h⟩)))
      | y h => exact .inr (.inr (.inr (.inr ⟨_, _, _, _, _, rfl, rfl, h⟩)))
      | x h =>
        exfalso
        cases hw <;> simp at hm
theorem isi_str {w : World} {A : Around} {E : Value → Shared → Prop} {s : Shared} {h₀ : Heap} {L : Addr} {m : PySem.Str → Option Value} {news : List (Addr × Obj)} {i : PySem.Str} {u : Tok} {Q : Value → Shared → Prop} (F : Fr h₀ L s.heap m) (X : (hd.heap_1 w.params).In h₀) (N : News h₀ L s.heap news) (h : ∀ tk, Q (.bool false) { s with toks := tk }) :
    wpAny (model PR w) A (call (.builtin "isinstance") [.str i u, .type "tuple"]) Q E s := by
  unfold PR
  k_fill
  k_with_none
  k_with "mem" => (first | with_reducible assumption | with_reducible exact List.mem_cons_self | (with_reducible refine List.mem_cons_of_mem _ ?_; k_extra "mem") | (with_reducible refine List.mem_append_left _ ?_; k_extra "mem") | (with_reducible refine List.mem_append_right _ ?_; k_extra "mem"))
  k_with "my_enter" => ((refine' code_def ?r2zk1 ?r2zk2 ?r2zk3 ?r2zk4 ?r2zk5 ?r2zkA ?r2zkF ?r2zkK ?r2zk6 ?r2zk7 ?r2zk8 ?r2zk9 ?r2zkB ?_ ?r2zc2 ?r2zc3 ?r2zc4 ?r2zc5; (case r2zkA => assumption); (case r2zkF => assumption); (case r2zkK => assumption); (case r2zk1 => k_asm); (case r2zk2 => k_asm); (case r2zk3 => k_asm); (case r2zk4 => k_asm); (case r2zk5 => k_asm); (case r2zk6 => k_is); (case r2zk7 => k_is); (case r2zk8 => omega); (case r2zk9 => exact BindsTo.of_eq rfl); (case r2zc5 => decide); (case r2zkB => exact locs rfl); (case r2zc2 => exact rfl); (case r2zc3 => exact rfl); (case r2zc4 => exact rfl); k_whole; intro zq_g' zq_L' zq_h' zq_FG' zq_F' zq_N' zq_B' zq_X' zq_T'; (try dsimp only); (try k_fold)))
  k_with "mysub" => (((with_reducible show wpAny _ _ (subscriptTail _ _ (Value.ref _) (Value.int _ _)) _ _ _); (with_unfolding_all first | (refine' sub_tup ?r3zN ?r3zm ?r3zi ?r3zj ?r3zx ?_ ?r3zh6; (case r3zN => k_asm); (case r3zm => k_extra "mem"); (case r3zi => exact rfl); (case r3zj => decide); (case r3zx => exact rfl); (case r3zh6 => rfl); k_whole) | (refine' sub_list ?r3zN ?r3zm ?r3zi ?r3zj ?r3zx ?_ ?r3zh6; (case r3zN => k_asm); (case r3zm => k_extra "mem"); (case r3zi => exact rfl); (case r3zj => omega); (case r3zx => assumption); (case r3zh6 => rfl); k_whole) | (refine' sub_list ?r3zN ?r3zm ?r3zi ?r3zj ?r3zx ?_ ?r3zh6; (case r3zN => k_asm); (case r3zm => k_extra "mem"); (case r3zi => exact rfl); (case r3zj => decide); (case r3zx => exact rfl); (case r3zh6 => rfl); k_whole) | (refine' di_item ?r3zN ?r3zm ?r3zd ?r3zv ?_ ?r3zh6; (case r3zN => k_asm); (case r3zm => k_extra "mem"); (case r3zd => with_reducible assumption); (case r3zv => with_reducible assumption); (case r3zh6 => rfl); k_whole; intro _) | (refine' ds_item ?r3zN ?r3zm ?r3zd ?r3zv ?_ ?r3zh6; (case r3zN => k_asm); (case r3zm => k_extra "mem"); (case r3zd => with_reducible assumption); (case r3zv => with_reducible assumption); (case r3zh6 => rfl); k_whole; intro _))))
  k_with "subscriptTail" => (k_extra "mysub")
  k_with "subscriptTail Name Constant ref int" => (k_extra "mysub")
  k_with "subscriptTail Name Name ref int" => (k_extra "mysub")
  k_with "subscriptTail Attribute Name Subscript Name Constant ref int" => (k_extra "mysub")
  k_with "getMethod ref" => (((with_reducible show wpAny _ _ (getMethod (Value.ref _) (PySem.Str.ofString "get") _) _ _ _); k_dflt (first | (refine' di_method ?r8zN ?r8zm ?r8zd ?_; (case r8zN => k_asm); (case r8zm => k_extra "mem"); (case r8zd => with_reducible assumption)) | (refine' ds_method ?r8zN ?r8zm ?r8zd ?_; (case r8zN => k_asm); (case r8zm => k_extra "mem"); (case r8zd => with_reducible assumption)))))
  k_with "call builtin:dict.get" => ((k_dflt (first | (refine' di_get ?r9zN ?r9zm ?r9zd ?r9zlo ?_; (case r9zN => k_asm); (case r9zm => k_extra "mem"); (case r9zd => with_reducible assumption); (case r9zlo => with_reducible assumption)) | (refine' ds_get ?r9zN ?r9zm ?r9zd ?r9zlo ?_; (case r9zN => k_asm); (case r9zm => k_extra "mem"); (case r9zd => with_reducible assumption); (case r9zlo => with_reducible assumption))); intro _))
  k_with "compareOp NotIn int ref" => ((k_dflt (refine' di_notin2 ?r10zN ?r10zm ?r10zd ?r10zlo ?_ ?_; (case r10zN => k_asm); (case r10zm => k_extra "mem"); (case r10zd => with_reducible assumption); (case r10zlo => with_reducible assumption)); intros))
  k_with "ite" => (with_reducible first | refine ite_t ?_ | refine ite_f ?_ | (refine' ite_bt ?r11zh ?_; (case r11zh => assumption)) | (refine' ite_bf ?r11zh ?_; (case r11zh => assumption)))
  k_with "opAt" => (first | with_reducible assumption | (refine' OpAt.mono ?r12zs ?r12zh; (case r12zh => with_reducible assumption); (case r12zs => k_extra "sub")) | (refine' OpAt.t ?r12zq; (case r12zq => k_extra "mem")) | (refine' OpAt.a ?r12zq; (case r12zq => k_extra "mem")) | (refine' OpAt.y ?r12zq; (case r12zq => k_extra "mem")) | (refine' OpAt.x ?r12zq; (case r12zq => k_extra "mem")))
  k_with "units" => (first | exact un1 (by with_reducible assumption) rfl | exact un0 (by with_reducible assumption) rfl | exact un2 (by with_reducible assumption) rfl | (simp only [units_in1, units_deeper, Around.mark_units, units_caller] at *; omega))
  k_with "compareOp Eq ref ref" => ((k_dflt (refine' op_eq ?r14zN ?r14za ?r14zb ?r14zu ?_; (case r14zN => k_asm); (case r14za => k_extra "opAt"); (case r14zb => k_extra "opAt"); (case r14zu => k_extra "units"); k_whole)))
  k_with "compareOp NotEq ref ref" => ((k_dflt (refine' op_ne ?r15zN ?r15za ?r15zb ?r15zu ?_; (case r15zN => k_asm); (case r15za => k_extra "opAt"); (case r15zb => k_extra "opAt"); (case r15zu => k_extra "units"); k_whole)))
  k_with "ne" => (first | with_reducible assumption | with_reducible exact Ne.symm (by with_reducible assumption) | with_reducible exact lt_ne_1 (by with_reducible assumption) | with_reducible exact lt_ne_2 (by with_reducible assumption) | with_reducible exact lt_ne_3 (by with_reducible assumption) | with_reducible exact lt_ne_4 (by with_reducible assumption) | with_reducible exact lt_ne_5 (by with_reducible assumption) | with_reducible exact lt_ne_6 (by with_reducible assumption) | with_reducible exact lt_ne_7 (by with_reducible assumption) | with_reducible exact lt_ne_8 (by with_reducible assumption) | with_reducible exact Ne.symm (lt_ne_1 (by with_reducible assumption)) | with_reducible exact Ne.symm (lt_ne_2 (by with_reducible assumption)) | with_reducible exact Ne.symm (lt_ne_3 (by with_reducible assumption)) | with_reducible exact Ne.symm (lt_ne_4 (by with_reducible assumption)) | with_reducible exact Ne.symm (lt_ne_5 (by with_reducible assumption)) | with_reducible exact Ne.symm (lt_ne_6 (by with_reducible assumption)) | with_reducible exact Ne.symm (lt_ne_7 (by with_reducible assumption)) | with_reducible exact Ne.symm (lt_ne_8 (by with_reducible assumption)) | omega)
  k_with "allne" => (first | with_reducible assumption | (refine' ne_of_lt_all ?r17zz; (case r17zz => with_reducible assumption)) | (refine' ne_of_fresh ?r17zz ?r17zm; (case r17zz => with_reducible assumption); (case r17zm => k_extra "mem")) | exact List.forall_mem_nil _ | (refine' List.forall_mem_cons.mpr ⟨?r17za, ?r17zb⟩; (case r17za => ((try dsimp only); k_extra "ne")); (case r17zb => k_extra "allne")))
  k_with "updF" => (first | (refine' UpdF.head ?r18za; (case r18za => k_extra "allne")) | (refine' UpdF.tail ?r18za ?r18zb; (case r18za => ((try dsimp only); k_extra "ne")); (case r18zb => k_extra "updF")))
  k_with "setItem ref int" => ((k_dflt (first | (refine' di_set ?r19zF ?r19zN ?r19zU ?r19zd ?r19zz ?_; (case r19zF => k_asm); (case r19zN => k_asm); (case r19zU => k_extra "updF"); (case r19zd => with_reducible assumption); (case r19zz => omega)) | (refine' ds_set ?r19zF ?r19zN ?r19zU ?r19zd ?r19zz ?_; (case r19zF => k_asm); (case r19zN => k_asm); (case r19zU => k_extra "updF"); (case r19zd => with_reducible assumption); (case r19zz => omega))); intro zq_h' zq_o' zq_F' zq_N' zq_hd'; (try dsimp only at zq_N'); (try k_sweep)))
  k_with "ifline" => (first | ((with_reducible refine' if_ne ?r20zF ?r20zv ?r20zn ?_ ?r20zk ?r20zl ?r20zd); (case r20zF => k_asm); (case r20zv => with_unfolding_all rfl); (case r20zn => decide +kernel); (case r20zk => rfl); (case r20zl => rfl); (case r20zd => decide); intro _) | ((with_reducible refine' if_eq ?r20zF ?r20zv ?r20zn ?_ ?r20zk ?r20zl ?r20zd); (case r20zF => k_asm); (case r20zv => with_unfolding_all rfl); (case r20zn => decide +kernel); (case r20zk => rfl); (case r20zl => rfl); (case r20zd => decide); intro _; dsimp only) | ((with_reducible refine' ifo_ne ?r20zF ?r20zv ?r20zn ?_ ?r20zk ?r20zl ?r20zd); (case r20zF => k_asm); (case r20zv => with_unfolding_all rfl); (case r20zn => decide +kernel); (case r20zk => rfl); (case r20zl => rfl); (case r20zd => decide); intro _) | ((with_reducible refine' ifo_eq ?r20zF ?r20zv ?r20zn ?_ ?r20zk ?r20zl ?r20zd); (case r20zF => k_asm); (case r20zv => with_unfolding_all rfl); (case r20zn => decide +kernel); (case r20zk => rfl); (case r20zl => rfl); (case r20zd => decide); intro _; dsimp only))
  k_with "execs cons" => (((with_reducible show wpAny _ _ (execs (Stmt.If _ _ _ _ :: _) _) _ _ _); k_dflt (k_extra "ifline")))
  k_with "ltall" => (first | assumption | exact tb_ltOf (by assumption) | (refine' tb_ltOf (And.right ?r22zz); (case r22zz => assumption)) | (refine' tb_ltOf (And.right (And.right ?r22zz)); (case r22zz => assumption)) | (refine' tb_ltOf (And.right (And.right (And.right ?r22zz))); (case r22zz => assumption)))
  k_with "fresh" => (first | exact FreshOver.nil | (refine' FreshOver.cons ?r23za ?r23zb; (case r23za => ((try dsimp only); k_extra "ltall")); (case r23zb => k_extra "fresh")))
  k_with "pairs" => (first | exact All2.nil | (refine' All2.cons ?r24za ?r24zb; (case r24za => (refine' PairAt.mk ?r24zc; (case r24zc => k_extra "mem"))); (case r24zb => k_extra "pairs")))
  k_with "upd" => (first | (refine' upd_app ?r25za ?r25zb; (case r25za => k_extra "allne"); (case r25zb => k_extra "upd")) | (refine' Upd.head ?r25za; (case r25za => k_extra "allne")) | (refine' Upd.tail ?r25za ?r25zb; (case r25za => ((try dsimp only); k_extra "ne")); (case r25zb => k_extra "upd")))
  k_with "setAttr ref" => ((k_dflt (refine' set_dict ?r26zF ?r26zX ?r26zN ?r26zI ?r26zd ?r26zs ?r26zp ?r26zt ?r26zh ?r26zl ?r26ze ?r26zU ?r26zz ?_; (case r26zF => k_asm); (case r26zX => k_asm); (case r26zN => k_asm); (case r26zI => k_inst); (case r26zd => exact rfl); (case r26zs => k_is); (case r26zp => k_is); (case r26zt => k_is); (case r26zh => k_is); (case r26zl => k_get); (case r26ze => k_put); (case r26zU => k_extra "upd"); (case r26zz => exact Nat.le_of_ble_eq_true rfl)); intro zq_h' zq_F' zq_N'; (try k_sweep)))
  k_with "compareOp Eq" => ((k_dflt (refine' pt_eq ?r27zN ?r27za ?r27zb ?r27zu ?_; (case r27zN => k_asm); (case r27za => with_reducible assumption); (case r27zb => with_reducible assumption); (case r27zu => k_extra "units"); k_whole)))
  k_with "compareOp NotEq" => ((k_dflt (refine' pt_ne ?r28zN ?r28za ?r28zb ?r28zu ?_; (case r28zN => k_asm); (case r28za => with_reducible assumption); (case r28zb => with_reducible assumption); (case r28zu => k_extra "units"); k_whole)))
  k_with "exec While Compare cons nil" => (first | ((k_dflt (k_extra "while")); (all_goals ((try ((try k_unmd); k_unfold; clear gG)); (try k_unmd); (try k_fold)))) | (k_here; (try k_fold); k_dflt (refine whl_start 100 ?_)))
  k_with "call builtin:isinstance" => ((k_dflt (first | (refine' isi_tup ?r30zF ?r30zX ?r30zN ?r30zm ?_; (case r30zF => k_asm); (case r30zX => k_asm); (case r30zN => k_asm); (case r30zm => k_extra "mem")) | (refine' isi_int ?r30zF ?r30zX ?r30zN ?_; (case r30zF => k_asm); (case r30zX => k_asm); (case r30zN => k_asm))); intro _))
  k_with "eval Name" => (((with_reducible refine' ldq ?r31zF ?r31zv ?r31zk ?r31zl ?r31zd ?_); (case r31zF => with_reducible assumption); (case r31zl => decide +kernel); (case r31zd => decide +kernel); (case r31zv => k_dflt (first | with_reducible assumption | exact @rfl _ (some _) | assumption)); (case r31zk => exact rfl)))
  k_with "TurnPost" => ((first | (with_reducible refine TurnPost.retI ?_) | (with_reducible refine TurnPost.nextI ?_)))
  k_with "exec For" => (((rename Fr _ _ _ _ => zq_lF'); (with_unfolding_all refine' For_invVF zq_lF' ?r33zk1 ?r33zk2 ?_; (case r33zk1 => exact rfl); (case r33zk2 => exact rfl); k_whole)))
  k_with "exec For Name Attribute cons nil" => (walk_at "exec For")
  k_with "exec For Name Name cons nil" => (walk_at "exec For")
  k_with "exec For Name Call cons nil" => (walk_at "exec For")
  k_with "rowAt" => (with_reducible assumption)
  k_with "depth" => (first | exact dp1 (by with_reducible assumption) rfl | exact dp0 (by with_reducible assumption) rfl | exact dp2 (by with_reducible assumption) rfl | (simp only [depth_under_make, depth_under_kw, depth_in1, depth_deeper, depth_caller] at *; omega))
  k_with "exec If" => (first | k_dflt (k_extra "if") | ((with_reducible refine wpAny_If ?_); (try dsimp only)))
  k_with "exec If Compare cons nil" => (walk_at "exec If")
  k_with "exec If BoolOp cons nil" => (walk_at "exec If")
  k_with "exec If Call cons nil" => (walk_at "exec If")
  k_with "exec If UnaryOp cons nil" => (walk_at "exec If")
  k_with "exec If Compare cons cons" => (walk_at "exec If")
  k_with "exec If BoolOp cons cons" => (walk_at "exec If")
  k_with "eval Call" => (((fail_if_success (with_reducible show wpAny _ _ (eval (Expr.Call (Expr.Name (PySem.Str.ofString "range") _) _ _ _) _) _ _ _)); (with_reducible show wpAny _ _ (eval (Expr.Call (Expr.Name _ _) _ _ _) _) _ _ _); k_dflt (refine Call_ ?_)))
  k_with "eval Call Attribute" => ((k_dflt (refine MethodCall_ ?_)))
  k_with "handled" => (first | assumption | exact rfl)
  k_with "frames" => (first | exact rfl | (refine' frames_deeper ?r49zz; (case r49zz => assumption)))
  k_with "pyIter ref" => (((k_dflt (k_extra "loop")); (all_goals ((try ((try k_unmd); k_unfold; clear gG)); (try dsimp only); (try k_unmd); (try k_fold)))))
  k_with "call ref" => (k_dflt (k_extra "call"))
  k_with "sub" => (first | with_reducible assumption | with_reducible exact sub_refl | (with_reducible refine sub_cons ?_; k_extra "sub") | (with_reducible refine sub_app ?_; k_extra "sub"))
  k_with "call builtin:list.append" => ((k_dflt (refine' app_l ?r53zF ?r53zN ?r53zU ?r53zz ?_; (case r53zF => k_asm); (case r53zN => k_asm); (case r53zU => k_extra "upd"); (case r53zz => exact Nat.le_of_ble_eq_true rfl)); intro zq_h' zq_F' zq_N'; (try dsimp only [List.cons_append, List.nil_append] at zq_N'); (try k_sweep)))
  k_with "compareOp In ref ref" => ((k_dflt (first | (refine' in_ops0 ?r54zN ?r54zl ?r54zo ?r54zu ?_; (case r54zN => k_asm); (case r54zl => k_extra "mem"); (case r54zo => k_extra "opAt"); (case r54zu => k_extra "units")) | (refine' in_ops1 ?r54zN ?r54zl ?r54zv ?r54zo ?r54zu ?_; (case r54zN => k_asm); (case r54zl => k_extra "mem"); (case r54zv => k_extra "opAt"); (case r54zo => k_extra "opAt"); (case r54zu => k_extra "units")))))
  k_with "assign Tuple" => ((k_dflt (refine' unpackN_ ?r55zF ?r55zN ?r55zT ?r55zh ?r55z2 ?r55z3 ?_; (case r55zF => k_asm); (case r55zN => k_asm); (case r55zT => (refine' News.isTup ?r55zy1 ?r55zy2; (case r55zy1 => k_asm); (case r55zy2 => k_extra "mem"))); (case r55zh => k_extra "handled"); (case r55z2 => exact rfl); (case r55z3 => exact rfl)); intro zq_h' zq_F' zq_N'; (try k_sweep)))
  k_with "WPost" => ((first | (with_reducible refine WPost.retI ?_) | (with_reducible refine WPost.nextI ?_)))
  k_with "WhlIf" => (((first | (refine' WhlIf.yes ?r57zz ?_; (case r57zz => (refine decide_eq_true ?_; omega))) | (refine' WhlIf.no ?r57zz ?_; (case r57zz => (refine decide_eq_false ?_; omega)))); (try dsimp only); (try k_unmd); (try k_fold)))
  k_with "call builtin:len" => ((k_dflt (refine' len_l ?r58zN ?r58zm ?r58zz ?_; (case r58zN => k_asm); (case r58zm => k_extra "mem"); (case r58zz => first | exact Nat.le_of_ble_eq_true rfl | omega)); intro _ _))
  k_with "loadName" => (((with_reducible refine' ldnq ?r59zF ?r59zv ?r59zk ?r59zl ?_); (case r59zF => with_reducible assumption); (case r59zl => decide +kernel); (case r59zv => k_dflt (first | with_reducible assumption | exact @rfl _ (some _) | assumption)); (case r59zk => exact rfl)))
  k_with "kv" => (with_reducible first | exact kv_held | exact kv_temps | exact kv_given | exact kv_out | exact kv_count)
  k_with "stitem" => ((k_dflt (refine' st_item ?r61zN ?r61zm ?r61zd ?r61zv ?_ ?r61zh6; (case r61zN => k_asm); (case r61zm => k_extra "mem"); (case r61zd => with_reducible assumption); (case r61zv => k_extra "kv"); (case r61zh6 => with_unfolding_all rfl))))
  k_with "subscriptTail Name Constant ref str" => (k_extra "stitem")
  k_with "call type:range" => ((k_dflt (first | (refine' range1_rows ?r63zF ?r63zN ?_; (case r63zF => k_asm); (case r63zN => k_asm)) | (refine' range2_rows ?r63zF ?r63zN ?_; (case r63zF => k_asm); (case r63zN => k_asm))); intro zq_h' zq_tk' zq_t9 zq_u9 zq_w9 zq_R' zq_F' zq_N' zq_kp'; clear zq_kp'; (try k_sweep)))
  k_with "TurnPost" => ((with_reducible refine TurnPost.contI ?_))
  k_with "unpackItems ref" => ((k_dflt (refine' unpackItemsN_ ?r65zF ?r65zN ?r65zT ?r65zh ?r65z2 ?_; (case r65zF => k_asm); (case r65zN => k_asm); (case r65zT => (refine' News.isTup ?r65zy1 ?r65zy2; (case r65zy1 => k_asm); (case r65zy2 => k_extra "mem"))); (case r65zh => k_extra "handled"); (case r65z2 => exact rfl)); intro zq_h' zq_F' zq_N'; (try k_sweep)))
  k_with "storeName" => (((k_dflt (refine' store_let ?r66zF ?r66zN ?_ ?r66za ?r66zb; (case r66zF => k_asm); (case r66zN => k_asm); (case r66za => rfl); (case r66zb => rfl); k_whole)); (intro zq_mk zq_h' zq_F' zq_N'); (try k_sweep)))
  k_with "callWith" => (((with_reducible show wpAny _ _ (callWith _ (Value.builtin "list.append") _ _ _) _ _ _); (k_dflt (refine callWith_method1 ?_))))
  walk1
  exact h _
theorem sub_home {A : Around} {E : Value → Shared → Prop} {s : Shared} {h₀ : Heap} {L d : Addr} {news : List (Addr × Obj)} {w : World} {vs : List Value} {home : List Int} {n : Nat} {k : Int} {u : Tok} {prog : Program} {value slice : PySem.Expr} {Q : Value → Shared → Prop} (N : News h₀ L s.heap news) (hp : (d, listOf vs.toArray n) ∈ news)
    (hi : IntsOf vs home) (hz : home.length = 4) (h0 : 0 ≤ k) (h4 : k < 4) (h : ∀ t, Q (.int (home.getD k.toNat 0) t) s)
    (hs : subscripted slice false (.ref d) (.int k u) = operate [.ref d, .int k u] (getItem (.ref d) (.int k u)) := by with_unfolding_all rfl) :
    wpAny (model prog w) A (subscriptTail value slice (.ref d) (.int k u)) Q E s := by
  have hl := all2_length hi
  obtain ⟨z, hz9, t, e⟩ := all2_get hi (List.getElem?_eq_getElem (show k.toNat < vs.length by omega))
  refine item_litK (News.isList N hp) h0 (by omega) (List.getElem?_eq_getElem (show k.toNat < vs.length by omega)) ?_ hs
  rw [e, show z = home.getD k.toNat 0 by rw [List.getD_eq_getElem?_getD, hz9]; rfl]
  exact h t
theorem take_map_step {α β : Type} {l : List α} {i : Nat} {a : α} (f : α → β) (h : l[i]? = some a) : (l.take (i + 1)).map f = (l.take i).map f ++ [f a] := by
  rw [List.take_add_one, h]; simp
theorem FreshOver.sub {T base base' : List (Addr × Obj)} (h : FreshOver T base) (hs : ∀ p ∈ base', p ∈ base) : FreshOver T base' := fun q hq p hp => h q hq p (hs p hp)
theorem FreshOver.app {T T' base : List (Addr × Obj)} (h : FreshOver T base) (h' : FreshOver T' base) : FreshOver (T ++ T') base := fun q hq => (List.mem_append.mp hq).elim (h q) (h' q)
theorem FreshOver.off {T base : List (Addr × Obj)} {x : Addr × Obj} (h : FreshOver T base) (hx : x ∈ base) : Off x.1 T := fun q hq => Nat.ne_of_gt (h q hq x hx)
theorem row_inv {news : List (Addr × Obj)} {v : Value} {k : Kd} {ps : List Pt} (h : RowAt news v ⟨k, ps⟩) : ∃ ia t n vs, v = .ref ia ∧ (ia, tupOf (Value.str k.name t :: vs).toArray n) ∈ news ∧ All2 (PtAt news) vs ps := by
  cases h with
  | mk hm h => exact ⟨_, _, _, _, rfl, hm, h⟩
section
variable {h₀ : Heap} {L : Addr} {J : (PySem.Str → Option Value) → List (Addr × Obj) → Prop} {own : List (Addr × Obj)} {s₁ : Shared} {m' : PySem.Str → Option Value} {h' : Heap} {tk : Nat} {d x y z : Addr × Obj} {B : List (Addr × Obj)}
theorem real_same (F : Fr h₀ L h' m') (N : News h₀ L h' (x :: y :: (B ++ own))) (ho : OwnOff own (x.1 :: y.1 :: B.map (·.1))) (hj : J m' (x :: y :: B)) : TurnEnd h₀ L J own s₁ { s₁ with heap := h', toks := tk } :=
  TurnEnd.intro F N (sub_cons2 (sub_cons2 fun _ h => List.mem_append_left _ h)) (sub_cons (sub_cons sub_own)) ho hj
theorem real_push (F : Fr h₀ L h' m') (N : News h₀ L h' (d :: x :: y :: (B ++ own))) (hl : AllLt d.1 (x :: y :: (B ++ own))) (ho : OwnOff own (x.1 :: y.1 :: B.map (·.1))) (hj : J m' (x :: y :: (d :: B))) : TurnEnd h₀ L J own s₁ { s₁ with heap := h', toks := tk } := by
  refine TurnEnd.intro (nx := x :: y :: (d :: B)) F N ?_ (sub_cons (sub_cons (sub_cons sub_own))) ?_ hj
  · intro p hp
    simp only [List.mem_cons, List.mem_append] at hp ⊢
    rcases hp with h | h | h | h <;> simp only [h, true_or, or_true]
  · intro p hp b hb
    simp only [List.map_cons, List.mem_cons] at hb
    rcases hb with h | h | h | h
    · exact ho p hp b (by simp [h])
    · exact ho p hp b (by simp [h])
    · subst h; exact Nat.ne_of_lt (tb_ltOf hl p (.tail _ (.tail _ (List.mem_append_right _ hp))))
    · exact ho p hp b (by simp only [List.mem_cons]; simp only [h, or_true])
theorem real_outer {T T2 keep : List (Addr × Obj)} {x' : Addr × Obj} (F : Fr h₀ L h' m') (N : News h₀ L h' (d :: z :: x :: (T2 ++ (T ++ keep ++ own)))) (hl : AllLt d.1 (z :: x :: (T2 ++ (T ++ keep ++ own)))) (hf : FreshOver T2 (z :: x' :: (T ++ keep ++ own))) (ho : OwnOff own (x.1 :: (T ++ keep).map (·.1)))
    (hj : J m' (x :: ((d :: (T2 ++ T)) ++ keep))) : TurnEnd h₀ L J own s₁ { s₁ with heap := h', toks := tk } := by
  refine TurnEnd.intro (nx := x :: ((d :: (T2 ++ T)) ++ keep)) F N ?_ (fun p hp => by simp only [List.mem_cons, List.mem_append]; simp only [hp, or_true]) ?_ hj
  · intro p hp
    simp only [List.mem_cons, List.mem_append] at hp ⊢
    rcases hp with h | (h | h | h) | h <;> simp only [h, true_or, or_true]
  · intro p hp b hb
    simp only [List.map_cons, List.map_append, List.mem_cons, List.mem_append] at hb
    rcases hb with h | (h | h | h) | h
    · exact ho p hp b (by simp [h])
    · subst h; exact Nat.ne_of_lt (tb_ltOf hl p (by simp only [List.mem_cons, List.mem_append]; simp only [hp, or_true]))
    · obtain ⟨q, hq, rfl⟩ := List.mem_map.mp h
      exact Nat.ne_of_lt (hf q hq p (by simp only [List.mem_cons, List.mem_append]; simp only [hp, or_true]))
    · exact ho p hp b (by simp only [List.map_append, List.mem_cons, List.mem_append]; simp only [h, or_true, true_or])
    · exact ho p hp b (by simp only [List.map_append, List.mem_cons, List.mem_append]; simp only [h, or_true])
end
theorem tup_sz {us : List Value} (h : us.length ≤ 900) : us.toArray.size ≤ 16384 := by simp; omega
theorem FreshOver.cons' {q : Addr × Obj} {T base big : List (Addr × Obj)} (h : AllLt q.1 big) (hs : ∀ p ∈ base, p ∈ big) (k : FreshOver T base) : FreshOver (q :: T) base := .cons (fun p hp => tb_ltOf h p (hs p hp)) k
theorem fresh_adr {T base base' : List (Addr × Obj)} (h : FreshOver T base) (hs : ∀ p ∈ base', ∃ q ∈ base, q.1 = p.1) : FreshOver T base' := fun x hx p hp => let ⟨q, hq, e⟩ := hs p hp; e ▸ h x hx q hq
theorem fresh_obj {T r : List (Addr × Obj)} {w : Addr} {o1 o2 : Obj} (h : FreshOver T ((w, o1) :: r)) : FreshOver T ((w, o2) :: r) := fresh_adr h fun p hp => (List.mem_cons.mp hp).elim (fun e => ⟨(w, o1), .head _, by rw [e]⟩) fun hp => ⟨p, .tail _ hp, rfl⟩
theorem fresh_step {q l : Addr × Obj} {T K own : List (Addr × Obj)} {w : Addr} {o1 o2 : Obj} (h : AllLt q.1 ((w, o1) :: l :: (T ++ K ++ own))) (k : FreshOver T ((w, o2) :: l :: K)) : FreshOver (q :: T) ((w, o2) :: l :: K) := by
  refine .cons (fun p hp => ?_) k
  simp only [List.mem_cons] at hp
  rcases hp with h1 | h1 | h1
  · subst h1; exact tb_ltOf h (w, o1) (.head _)
  · exact tb_ltOf h p (.tail _ (h1 ▸ .head _))
  · exact tb_ltOf h p (.tail _ (.tail _ (List.mem_append_left _ (List.mem_append_right _ h1))))
theorem fresh_out {d : Addr × Obj} {w l : Addr} {o1 o2 o3 o4 o5 : Obj} {T T2 keep own : List (Addr × Obj)} (h : AllLt d.1 ((w, o1) :: (l, o2) :: (T2 ++ (T ++ keep ++ own)))) (h2 : FreshOver T2 ((w, o3) :: (l, o4) :: (T ++ keep ++ own))) (h1 : FreshOver T ((l, o5) :: keep)) : FreshOver (d :: (T2 ++ T)) ((l, o5) :: keep) := by
  refine .cons (fun p hp => ?_) (.app (fresh_adr h2 fun p hp => ?_) h1)
  · rcases List.mem_cons.mp hp with rfl | hp
    · exact tb_ltOf h (l, o2) (.tail _ (.head _))
    · exact tb_ltOf h p (by simp only [List.mem_cons, List.mem_append]; simp only [hp, or_true, true_or])
  · rcases List.mem_cons.mp hp with rfl | hp
    · exact ⟨(l, o4), .tail _ (.head _), rfl⟩
    · exact ⟨p, by simp only [List.mem_cons, List.mem_append]; simp only [hp, or_true, true_or], rfl⟩
theorem subY {p : Addr × Obj} {T T2 keep : List (Addr × Obj)} (h : p ∈ T2 ++ (T ++ keep)) : p ∈ (T2 ++ T) ++ keep := by rw [List.append_assoc]; exact h
end
section
theorem real_at {keep : List (Addr × Obj)} {ws : List Value} {ss : List Row} {kn : Nat} (hall : All2 (RowAt keep) ws ss) (hwr : ∀ s ∈ ss, WR s) (hz : ss.length ≤ 100) (hk : (kn : Int) < (ws.length : Int)) :
    ∃ ia k t nn vs9 ps9, ws[kn]? = some (.ref ia) ∧ ss[kn]? = some ⟨k, ps9⟩ ∧ (ia, tupOf (Value.str k.name t :: vs9).toArray nn) ∈ keep ∧ All2 (PtAt keep) vs9 ps9 ∧ WR ⟨k, ps9⟩ ∧ kn < 1000 ∧ (1 : Int) ≤ (((Value.str k.name t :: vs9).length : Nat) : Int) - 1 ∧ (Value.str k.name t :: vs9).length ≤ 900 := by
  have hk' : kn < ws.length := by omega
  have hl := all2_length hall
  obtain ⟨r, hr, ha⟩ := all2_get hall (List.getElem?_eq_getElem hk')
  have hw := hwr _ (List.mem_of_getElem? hr)
  obtain ⟨k, ps⟩ := r
  obtain ⟨ia, t, n, vs9, e, hm, hv⟩ := row_inv ha
  have h1 := all2_length hv
  have h2 := wr_len hw
  refine ⟨ia, k, t, n, vs9, ps, by rw [List.getElem?_eq_getElem hk', e], hr, hm, hv, hw, by omega, ?_, ?_⟩
  · rcases ar_or k with h3 | h3 <;> simp only [List.length_cons] <;> omega
  · rcases ar_or k with h3 | h3 <;> simp only [List.length_cons] <;> omega
theorem spot_at {keep : List (Addr × Obj)} {vs : List Value} {ps : List Pt} {x : Value} {kj : Nat} (hv : All2 (PtAt keep) vs ps) (hk : (kj : Int) < (((x :: vs).length : Nat) : Int) - 1) :
    ∃ v p, (x :: vs)[kj + 1]? = some v ∧ vs[kj]? = some v ∧ ps[kj]? = some p ∧ PtAt keep v p := by
  have hk' : kj < vs.length := by simp only [List.length_cons] at hk; omega
  obtain ⟨p, hp, h⟩ := all2_get hv (List.getElem?_eq_getElem hk')
  exact ⟨_, p, by simp [List.getElem?_eq_getElem hk'], List.getElem?_eq_getElem hk', hp, h⟩
theorem one_add_cast {j : Nat} : 1 + (j : Int) = ((j + 1 : Nat) : Int) := by omega
theorem lt_1000 {l : List Value} {j : Nat} {v : Value} (h : l[j + 1]? = some v) (hl : l.length ≤ 900) : j + 1 < 1000 := by
  have := (List.getElem?_eq_some_iff.mp h).1; omega
section
variable {prog : Program} {w : World} {A : Around} {E : Value → Shared → Prop} {s : Shared} {h₀ : Heap} {L l D b : Addr} {m : PySem.Str → Option Value} {news news' : List (Addr × Obj)} {vs ws : List Value} {n n2 j : Nat} {t : Tok}
theorem li_set {x v0 : Value} {Q : Unit → Shared → Prop} (F : Fr h₀ L s.heap m) (N : News h₀ L s.heap news) (h0 : vs[j + 1]? = some v0) (hz : vs.length ≤ 900) (U : Upd D (listOf vs.toArray n) (listOf (vs.set (j + 1) x).toArray n) news news')
    (h : ∀ h', Fr h₀ L h' m → News h₀ L h' news' → Q () { s with heap := h' }) : wpAny (model prog w) A (setItem (.ref D) (.int (1 + (j : Int)) t) x) Q E s := by
  have hj : j + 1 < vs.length := (List.getElem?_eq_some_iff.mp h0).1
  obtain ⟨pre, post, rfl, rfl, a, b⟩ := U.split
  have z := N (D, listOf vs.toArray n) (List.mem_append.mpr (.inr (.head _)))
  have e : (1 + (j : Int)).toNat = j + 1 := by omega
  refine ki_setAt z.1 (by omega) (by omega) (by simp; omega) (h _ (F.change (Heap.SameBut.update ..) z.2.1 z.2.2) (ki_turn _ N a b ?_ ?_))
  · show vs.toArray.setIfInBounds (1 + (j : Int)).toNat x = (vs.set (j + 1) x).toArray
    rw [e]
    apply Array.toList_inj.mp
    simp
  · simp
theorem li_copyT {Q : Value → Shared → Prop} (F : Fr h₀ L s.heap m) (N : News h₀ L s.heap news) (hb : (b, tupOf vs.toArray n2) ∈ news) (hz : vs.length ≤ 900)
    (h : ∀ D c h', Fr h₀ L h' m → News h₀ L h' ((D, listOf vs.toArray c) :: news) → (∀ q ∈ news, q.1 < D) → Q (.ref D) { s with heap := h' }) : wpAny (model prog w) A (call (.type "list") [.ref b]) Q E s :=
  kup_listOfT F N hb rfl h (by rw [sizeLine_eq]; simp; omega)
theorem li_add {Q : Value → Shared → Prop} {a : Addr} {na nb : Nat} (F : Fr h₀ L s.heap m) (N : News h₀ L s.heap news) (ha : (a, listOf vs.toArray na) ∈ news) (hb : (b, listOf ws.toArray nb) ∈ news) (hz : vs.length + ws.length ≤ 900)
    (h : ∀ D h', Fr h₀ L h' m → News h₀ L h' ((D, listOf (vs ++ ws).toArray 0) :: news) → (∀ p ∈ news, p.1 < D) → Q (.ref D) { s with heap := h' }) : wpAny (model prog w) A (binaryOp .Add (.ref a) (.ref b)) Q E s :=
  kmk_add_lit F N (News.isList N ha) (News.isList N hb) (by simp) h (by rw [sizeLine_eq]; simp; omega)
theorem pick_take {kn : Nat} : kms_pick ws none (some (kn : Int)) = ws.take kn := by
  unfold kms_pick kms_lo kms_hi
  dsimp only
  rw [if_neg (by omega), Int.toNat_natCast, List.drop_zero, Nat.sub_zero]
  exact (List.take_eq_take_min ..).symm
theorem pick_drop {kn : Nat} : kms_pick ws (some ((kn : Int) + 1)) none = ws.drop (kn + 1) := by
  unfold kms_pick kms_lo kms_hi
  dsimp only
  rw [if_neg (by omega), show ((kn : Int) + 1).toNat = kn + 1 by omega]
  by_cases h : kn + 1 ≤ ws.length
  · rw [Nat.min_eq_left h]; exact List.take_of_length_le (by simp)
  · rw [Nat.min_eq_right (by omega), List.drop_length, List.drop_eq_nil_of_le (by omega), List.take_nil]
theorem arr_sz (h : ws.length ≤ 900) : ws.toArray.size ≤ sizeLine := by rw [sizeLine_eq]; simp; omega
theorem len_tk1 {kn : Nat} {x : Value} (h : ws.length ≤ 300) : (ws.take kn).length + [x].length ≤ 900 := by simp; omega
theorem len_tk2 {kn : Nat} {x : Value} (h : ws.length ≤ 300) : (ws.take kn ++ [x]).length + (ws.drop (kn + 1)).length ≤ 900 := by simp; omega
end
theorem pt_cases {news : List (Addr × Obj)} {v : Value} {p : Pt} (h : PtAt news v p) : (∃ n t, v = .int n t ∧ p = .int n) ∨ (∃ o a t1 t2 n, v = .ref a ∧ p = .op o ∧ (a, tupOf #[.str o.tag t1, .int o.num t2] n) ∈ news) := by
  cases h with
  | int => exact .inl ⟨_, _, rfl, rfl⟩
  | op h => obtain ⟨a, b, c, d, e, f⟩ := op_inv h; exact .inr ⟨_, a, b, c, d, e, rfl, f⟩
theorem all2_set {α β : Type} {R : α → β → Prop} {as : List α} {bs : List β} (h : All2 R as bs) {a : α} {b : β} (hr : R a b) : ∀ i, All2 R (as.set i a) (bs.set i b) := by
  induction h with
  | nil => intro i; exact .nil
  | cons x y ih =>
    intro i
    cases i with
    | zero => exact .cons hr y
    | succ i => exact .cons x (ih i)
theorem wr_set {k : Kd} {ps : List Pt} {kj : Nat} {p q : Pt} (h : WR ⟨k, ps⟩) (hj : ps[kj]? = some p) (hq : (∃ a b, p = .int a ∧ q = .int b) ∨ (∃ o z, p = .op o ∧ q = .op (.x z))) : WR ⟨k, ps.set kj q⟩ := by
  rcases kj with _ | _ | kj
  · cases h <;> simp at hj <;> subst hj <;> rcases hq with ⟨a, b, e1, e2⟩ | ⟨o, z, e1, e2⟩ <;> (try cases e1) <;> subst e2 <;> constructor
  · cases h <;> simp at hj <;> subst hj <;> rcases hq with ⟨a, b, e1, e2⟩ | ⟨o, z, e1, e2⟩ <;> (try cases e1) <;> subst e2 <;> constructor
  · cases h <;> simp at hj
theorem alt_end {news' keep : List (Addr × Obj)} {ws : List Value} {ss : List Row} {kn kj n : Nat} {kd : Kd} {tk9 : Tok} {vs9 : List Value} {ps9 : List Pt} {T3 : Addr} {v9 : Value} {p9 q9 : Pt} (hall : All2 (RowAt keep) ws ss) (hwr : ∀ s ∈ ss, WR s) (hsub : ∀ q ∈ keep, q ∈ news')
    (hs9 : ss[kn]? = some ⟨kd, ps9⟩) (hva : All2 (PtAt keep) vs9 ps9) (hW : WR ⟨kd, ps9⟩) (hj : ps9[kj]? = some p9) (hq : (∃ a b, p9 = .int a ∧ q9 = .int b) ∨ (∃ o z, p9 = .op o ∧ q9 = .op (.x z)))
    (hm : (T3, tupOf ((Value.str kd.name tk9 :: vs9).set (kj + 1) v9).toArray n) ∈ news') (hv : PtAt news' v9 q9) :
    ∃ ss', All2 (RowAt news') (ws.take kn ++ [Value.ref T3] ++ ws.drop (kn + 1)) ss' ∧ (∀ s ∈ ss', WR s) ∧ ss'.length = ss.length ∧ (∀ (i : Nat) (r s : Row), ss[i]? = some r → ss'[i]? = some s → r.k = s.k) := by
  have hkn : kn < ss.length := (List.getElem?_eq_some_iff.mp hs9).1
  have hkw : kn < ws.length := by rw [all2_length hall]; exact hkn
  have e : ws.take kn ++ [Value.ref T3] ++ ws.drop (kn + 1) = ws.set kn (.ref T3) := by
    rw [List.set_eq_take_append_cons_drop, if_pos hkw, List.append_assoc]; rfl
  rw [e]
  refine ⟨ss.set kn ⟨kd, ps9.set kj q9⟩, all2_set (hall.mono fun _ _ x => x.mono hsub) ?_ kn, ?_, by simp, ?_⟩
  · exact RowAt.mk hm (all2_set (hva.mono fun _ _ x => x.mono hsub) hv kj)
  · intro s hs
    rcases List.mem_or_eq_of_mem_set hs with hs | hs
    · exact hwr s hs
    · rw [hs]; exact wr_set hW hj hq
  · intro i r s hr hs
    by_cases h : kn = i
    · subst h
      rw [List.getElem?_set_self hkn] at hs
      rw [hs9] at hr
      cases hr; cases hs; rfl
    · rw [List.getElem?_set_ne h, hr] at hs; cases hs; rfl
theorem alt_ret {news' keep : List (Addr × Obj)} {ws : List Value} {ss : List Row} {kn kj n n' : Nat} {kd : Kd} {tk9 : Tok} {vs9 : List Value} {ps9 : List Pt} {T3 l' : Addr} {v9 : Value} {p9 q9 : Pt} (hall : All2 (RowAt keep) ws ss) (hwr : ∀ s ∈ ss, WR s) (hsub : ∀ q ∈ keep, q ∈ news')
    (hs9 : ss[kn]? = some ⟨kd, ps9⟩) (hva : All2 (PtAt keep) vs9 ps9) (hW : WR ⟨kd, ps9⟩) (hj : ps9[kj]? = some p9) (hq : (∃ a b, p9 = .int a ∧ q9 = .int b) ∨ (∃ o z, p9 = .op o ∧ q9 = .op (.x z)))
    (hl : (l', listOf (ws.take kn ++ [Value.ref T3] ++ ws.drop (kn + 1)).toArray n') ∈ news') (hm : (T3, tupOf ((Value.str kd.name tk9 :: vs9).set (kj + 1) v9).toArray n) ∈ news') (hv : PtAt news' v9 q9) :
    ∃ l'' n'' ws' ss', Value.ref l' = .ref l'' ∧ (l'', listOf (ws' : List Value).toArray n'') ∈ news' ∧ (∀ q ∈ keep, q ∈ news') ∧ All2 (RowAt news') ws' ss' ∧ (∀ s ∈ ss', WR s) ∧ ss'.length = ss.length ∧ (∀ (i : Nat) (r s : Row), ss[i]? = some r → ss'[i]? = some s → r.k = s.k) :=
  let ⟨ss', h1, h2, h3, h4⟩ := alt_end hall hwr hsub hs9 hva hW hj hq hm hv
  ⟨l', n', _, ss', rfl, hl, hsub, h1, h2, h3, h4⟩
end
section
set_option maxRecDepth 100000 in
set_option maxHeartbeats 0 in
theorem real_ct (c : Cx) {cl hl : Addr} {cvs hvs : List Value} {home : List Int} {rows : List Row} {nc nh : Nat} {keep : List (Addr × Obj)} (hA : (cl, listOf cvs.toArray nc) ∈ keep) (hB : (hl, listOf hvs.toArray nh) ∈ keep)
    (hi : IntsOf hvs home) (hh4 : home.length = 4) (hall : All2 (RowAt keep) cvs rows) (hrg : ∀ r ∈ rows, WA r ∧ Tok4 r) (hz : rows.length ≤ 100) :
    Ct c 161 6 100 [.ref cl, .ref hl] keep
      (fun v news' => ∃ l n ws T, v = .ref l ∧ news' = T ++ keep ∧ FreshOver T keep ∧ (l, listOf (ws : List Value).toArray n) ∈ T ∧ All2 (RowAt (T ++ keep)) ws (rows.map (rRow home))) := by
  unfold Ct PR
  k_fill
  intro A env outer A₀ base h₀ L m s Q E hh hA' hf hke hd hu B F X N T ret
  have hlc := all2_length hall
  k_with_none
  k_with "mem" => (first | with_reducible assumption | with_reducible exact List.mem_cons_self | (with_reducible refine List.mem_cons_of_mem _ ?_; k_extra "mem") | (with_reducible refine List.mem_append_left _ ?_; k_extra "mem") | (with_reducible refine List.mem_append_right _ ?_; k_extra "mem"))
  k_with "my_enter" => ((refine' code_def ?r2zk1 ?r2zk2 ?r2zk3 ?r2zk4 ?r2zk5 ?r2zkA ?r2zkF ?r2zkK ?r2zk6 ?r2zk7 ?r2zk8 ?r2zk9 ?r2zkB ?_ ?r2zc2 ?r2zc3 ?r2zc4 ?r2zc5; (case r2zkA => assumption); (case r2zkF => assumption); (case r2zkK => assumption); (case r2zk1 => k_asm); (case r2zk2 => k_asm); (case r2zk3 => k_asm); (case r2zk4 => k_asm); (case r2zk5 => k_asm); (case r2zk6 => k_is); (case r2zk7 => k_is); (case r2zk8 => omega); (case r2zk9 => exact BindsTo.of_eq rfl); (case r2zc5 => decide); (case r2zkB => exact locs rfl); (case r2zc2 => exact rfl); (case r2zc3 => exact rfl); (case r2zc4 => exact rfl); k_whole; intro zq_g' zq_L' zq_h' zq_FG' zq_F' zq_N' zq_B' zq_X' zq_T'; (try dsimp only); (try k_fold)))
  k_with "mysub" => (((with_reducible show wpAny _ _ (subscriptTail _ _ (Value.ref _) (Value.int _ _)) _ _ _); (with_unfolding_all first | (refine' sub_tup ?r3zN ?r3zm ?r3zi ?r3zj ?r3zx ?_ ?r3zh6; (case r3zN => k_asm); (case r3zm => k_extra "mem"); (case r3zi => exact rfl); (case r3zj => decide); (case r3zx => exact rfl); (case r3zh6 => rfl); k_whole) | (refine' sub_list ?r3zN ?r3zm ?r3zi ?r3zj ?r3zx ?_ ?r3zh6; (case r3zN => k_asm); (case r3zm => k_extra "mem"); (case r3zi => exact rfl); (case r3zj => omega); (case r3zx => assumption); (case r3zh6 => rfl); k_whole) | (refine' sub_list ?r3zN ?r3zm ?r3zi ?r3zj ?r3zx ?_ ?r3zh6; (case r3zN => k_asm); (case r3zm => k_extra "mem"); (case r3zi => exact rfl); (case r3zj => decide); (case r3zx => exact rfl); (case r3zh6 => rfl); k_whole) | (refine' di_item ?r3zN ?r3zm ?r3zd ?r3zv ?_ ?r3zh6; (case r3zN => k_asm); (case r3zm => k_extra "mem"); (case r3zd => with_reducible assumption); (case r3zv => with_reducible assumption); (case r3zh6 => rfl); k_whole; intro _) | (refine' ds_item ?r3zN ?r3zm ?r3zd ?r3zv ?_ ?r3zh6; (case r3zN => k_asm); (case r3zm => k_extra "mem"); (case r3zd => with_reducible assumption); (case r3zv => with_reducible assumption); (case r3zh6 => rfl); k_whole; intro _))))
  k_with "subscriptTail" => (k_extra "mysub")
  k_with "subscriptTail Name Constant ref int" => (k_extra "mysub")
  k_with "subscriptTail Name Name ref int" => (k_extra "mysub")
  k_with "subscriptTail Attribute Name Subscript Name Constant ref int" => (k_extra "mysub")
  k_with "getMethod ref" => (((with_reducible show wpAny _ _ (getMethod (Value.ref _) (PySem.Str.ofString "get") _) _ _ _); k_dflt (first | (refine' di_method ?r8zN ?r8zm ?r8zd ?_; (case r8zN => k_asm); (case r8zm => k_extra "mem"); (case r8zd => with_reducible assumption)) | (refine' ds_method ?r8zN ?r8zm ?r8zd ?_; (case r8zN => k_asm); (case r8zm => k_extra "mem"); (case r8zd => with_reducible assumption)))))
  k_with "call builtin:dict.get" => ((k_dflt (first | (refine' di_get ?r9zN ?r9zm ?r9zd ?r9zlo ?_; (case r9zN => k_asm); (case r9zm => k_extra "mem"); (case r9zd => with_reducible assumption); (case r9zlo => with_reducible assumption)) | (refine' ds_get ?r9zN ?r9zm ?r9zd ?r9zlo ?_; (case r9zN => k_asm); (case r9zm => k_extra "mem"); (case r9zd => with_reducible assumption); (case r9zlo => with_reducible assumption))); intro _))
  k_with "compareOp NotIn int ref" => ((k_dflt (refine' di_notin2 ?r10zN ?r10zm ?r10zd ?r10zlo ?_ ?_; (case r10zN => k_asm); (case r10zm => k_extra "mem"); (case r10zd => with_reducible assumption); (case r10zlo => with_reducible assumption)); intros))
  k_with "ite" => (with_reducible first | refine ite_t ?_ | refine ite_f ?_ | (refine' ite_bt ?r11zh ?_; (case r11zh => assumption)) | (refine' ite_bf ?r11zh ?_; (case r11zh => assumption)))
  k_with "opAt" => (first | with_reducible assumption | (refine' OpAt.mono ?r12zs ?r12zh; (case r12zh => with_reducible assumption); (case r12zs => k_extra "sub")) | (refine' OpAt.t ?r12zq; (case r12zq => k_extra "mem")) | (refine' OpAt.a ?r12zq; (case r12zq => k_extra "mem")) | (refine' OpAt.y ?r12zq; (case r12zq => k_extra "mem")) | (refine' OpAt.x ?r12zq; (case r12zq => k_extra "mem")))
  k_with "units" => (first | exact un1 (by with_reducible assumption) rfl | exact un0 (by with_reducible assumption) rfl | exact un2 (by with_reducible assumption) rfl | (simp only [units_in1, units_deeper, Around.mark_units, units_caller] at *; omega))
  k_with "compareOp Eq ref ref" => ((k_dflt (refine' op_eq ?r14zN ?r14za ?r14zb ?r14zu ?_; (case r14zN => k_asm); (case r14za => k_extra "opAt"); (case r14zb => k_extra "opAt"); (case r14zu => k_extra "units"); k_whole)))
  k_with "compareOp NotEq ref ref" => ((k_dflt (refine' op_ne ?r15zN ?r15za ?r15zb ?r15zu ?_; (case r15zN => k_asm); (case r15za => k_extra "opAt"); (case r15zb => k_extra "opAt"); (case r15zu => k_extra "units"); k_whole)))
  k_with "ne" => (first | with_reducible assumption | with_reducible exact Ne.symm (by with_reducible assumption) | with_reducible exact lt_ne_1 (by with_reducible assumption) | with_reducible exact lt_ne_2 (by with_reducible assumption) | with_reducible exact lt_ne_3 (by with_reducible assumption) | with_reducible exact lt_ne_4 (by with_reducible assumption) | with_reducible exact lt_ne_5 (by with_reducible assumption) | with_reducible exact lt_ne_6 (by with_reducible assumption) | with_reducible exact lt_ne_7 (by with_reducible assumption) | with_reducible exact lt_ne_8 (by with_reducible assumption) | with_reducible exact Ne.symm (lt_ne_1 (by with_reducible assumption)) | with_reducible exact Ne.symm (lt_ne_2 (by with_reducible assumption)) | with_reducible exact Ne.symm (lt_ne_3 (by with_reducible assumption)) | with_reducible exact Ne.symm (lt_ne_4 (by with_reducible assumption)) | with_reducible exact Ne.symm (lt_ne_5 (by with_reducible assumption)) | with_reducible exact Ne.symm (lt_ne_6 (by with_reducible assumption)) | with_reducible exact Ne.symm (lt_ne_7 (by with_reducible assumption)) | with_reducible exact Ne.symm (lt_ne_8 (by with_reducible assumption)) | omega)
  k_with "allne" => (first | with_reducible assumption | (refine' ne_of_lt_all ?r17zz; (case r17zz => with_reducible assumption)) | (refine' ne_of_fresh ?r17zz ?r17zm; (case r17zz => with_reducible assumption); (case r17zm => k_extra "mem")) | exact List.forall_mem_nil _ | (refine' List.forall_mem_cons.mpr ⟨?r17za, ?r17zb⟩; (case r17za => ((try dsimp only); k_extra "ne")); (case r17zb => k_extra "allne")))
  k_with "updF" => (first | (refine' UpdF.head ?r18za; (case r18za => k_extra "allne")) | (refine' UpdF.tail ?r18za ?r18zb; (case r18za => ((try dsimp only); k_extra "ne")); (case r18zb => k_extra "updF")))
  k_with "setItem ref int" => ((k_dflt (first | (refine' di_set ?r19zF ?r19zN ?r19zU ?r19zd ?r19zz ?_; (case r19zF => k_asm); (case r19zN => k_asm); (case r19zU => k_extra "updF"); (case r19zd => with_reducible assumption); (case r19zz => omega)) | (refine' ds_set ?r19zF ?r19zN ?r19zU ?r19zd ?r19zz ?_; (case r19zF => k_asm); (case r19zN => k_asm); (case r19zU => k_extra "updF"); (case r19zd => with_reducible assumption); (case r19zz => omega))); intro zq_h' zq_o' zq_F' zq_N' zq_hd'; (try dsimp only at zq_N'); (try k_sweep)))
  k_with "ifline" => (first | ((with_reducible refine' if_ne ?r20zF ?r20zv ?r20zn ?_ ?r20zk ?r20zl ?r20zd); (case r20zF => k_asm); (case r20zv => with_unfolding_all rfl); (case r20zn => decide +kernel); (case r20zk => rfl); (case r20zl => rfl); (case r20zd => decide); intro _) | ((with_reducible refine' if_eq ?r20zF ?r20zv ?r20zn ?_ ?r20zk ?r20zl ?r20zd); (case r20zF => k_asm); (case r20zv => with_unfolding_all rfl); (case r20zn => decide +kernel); (case r20zk => rfl); (case r20zl => rfl); (case r20zd => decide); intro _; dsimp only) | ((with_reducible refine' ifo_ne ?r20zF ?r20zv ?r20zn ?_ ?r20zk ?r20zl ?r20zd); (case r20zF => k_asm); (case r20zv => with_unfolding_all rfl); (case r20zn => decide +kernel); (case r20zk => rfl); (case r20zl => rfl); (case r20zd => decide); intro _) | ((with_reducible refine' ifo_eq ?r20zF ?r20zv ?r20zn ?_ ?r20zk ?r20zl ?r20zd); (case r20zF => k_asm); (case r20zv => with_unfolding_all rfl); (case r20zn => decide +kernel); (case r20zk => rfl); (case r20zl => rfl); (case r20zd => decide); intro _; dsimp only))
  k_with "execs cons" => (((with_reducible show wpAny _ _ (execs (Stmt.If _ _ _ _ :: _) _) _ _ _); k_dflt (k_extra "ifline")))
  k_with "ltall" => (first | assumption | exact tb_ltOf (by assumption) | (refine' tb_ltOf (And.right ?r22zz); (case r22zz => assumption)) | (refine' tb_ltOf (And.right (And.right ?r22zz)); (case r22zz => assumption)) | (refine' tb_ltOf (And.right (And.right (And.right ?r22zz))); (case r22zz => assumption)))
  k_with "fresh" => (first | exact FreshOver.nil | (refine' FreshOver.cons ?r23za ?r23zb; (case r23za => ((try dsimp only); k_extra "ltall")); (case r23zb => k_extra "fresh")))
  k_with "pairs" => (first | exact All2.nil | (refine' All2.cons ?r24za ?r24zb; (case r24za => (refine' PairAt.mk ?r24zc; (case r24zc => k_extra "mem"))); (case r24zb => k_extra "pairs")))
  k_with "upd" => (first | (refine' upd_app ?r25za ?r25zb; (case r25za => k_extra "allne"); (case r25zb => k_extra "upd")) | (refine' Upd.head ?r25za; (case r25za => k_extra "allne")) | (refine' Upd.tail ?r25za ?r25zb; (case r25za => ((try dsimp only); k_extra "ne")); (case r25zb => k_extra "upd")))
  k_with "setAttr ref" => ((k_dflt (refine' set_dict ?r26zF ?r26zX ?r26zN ?r26zI ?r26zd ?r26zs ?r26zp ?r26zt ?r26zh ?r26zl ?r26ze ?r26zU ?r26zz ?_; (case r26zF => k_asm); (case r26zX => k_asm); (case r26zN => k_asm); (case r26zI => k_inst); (case r26zd => exact rfl); (case r26zs => k_is); (case r26zp => k_is); (case r26zt => k_is); (case r26zh => k_is); (case r26zl => k_get); (case r26ze => k_put); (case r26zU => k_extra "upd"); (case r26zz => exact Nat.le_of_ble_eq_true rfl)); intro zq_h' zq_F' zq_N'; (try k_sweep)))
  k_with "compareOp Eq" => ((k_dflt (refine' pt_eq ?r27zN ?r27za ?r27zb ?r27zu ?_; (case r27zN => k_asm); (case r27za => with_reducible assumption); (case r27zb => with_reducible assumption); (case r27zu => k_extra "units"); k_whole)))
  k_with "compareOp NotEq" => ((k_dflt (refine' pt_ne ?r28zN ?r28za ?r28zb ?r28zu ?_; (case r28zN => k_asm); (case r28za => with_reducible assumption); (case r28zb => with_reducible assumption); (case r28zu => k_extra "units"); k_whole)))
  k_with "exec While Compare cons nil" => (first | ((k_dflt (k_extra "while")); (all_goals ((try ((try k_unmd); k_unfold; clear gG)); (try k_unmd); (try k_fold)))) | (k_here; (try k_fold); k_dflt (refine whl_start 100 ?_)))
  k_with "call builtin:isinstance" => ((k_dflt (first | (refine' isi_tup ?r30zF ?r30zX ?r30zN ?r30zm ?_; (case r30zF => k_asm); (case r30zX => k_asm); (case r30zN => k_asm); (case r30zm => k_extra "mem")) | (refine' isi_int ?r30zF ?r30zX ?r30zN ?_; (case r30zF => k_asm); (case r30zX => k_asm); (case r30zN => k_asm))); intro _))
  k_with "eval Name" => (((with_reducible refine' ldq ?r31zF ?r31zv ?r31zk ?r31zl ?r31zd ?_); (case r31zF => with_reducible assumption); (case r31zl => decide +kernel); (case r31zd => decide +kernel); (case r31zv => k_dflt (first | with_reducible assumption | exact @rfl _ (some _) | assumption)); (case r31zk => exact rfl)))
  k_with "TurnPost" => ((first | (with_reducible refine TurnPost.retI ?_) | (with_reducible refine TurnPost.nextI ?_)))
  k_with "exec For" => (((rename Fr _ _ _ _ => zq_lF'); (with_unfolding_all refine' For_invVF zq_lF' ?r33zk1 ?r33zk2 ?_; (case r33zk1 => exact rfl); (case r33zk2 => exact rfl); k_whole)))
  k_with "exec For Name Attribute cons nil" => (walk_at "exec For")
  k_with "exec For Name Name cons nil" => (walk_at "exec For")
  k_with "exec For Name Call cons nil" => (walk_at "exec For")
  k_with "rowAt" => (with_reducible assumption)
  k_with "depth" => (first | exact dp1 (by with_reducible assumption) rfl | exact dp0 (by with_reducible assumption) rfl | exact dp2 (by with_reducible assumption) rfl | (simp only [depth_under_make, depth_under_kw, depth_in1, depth_deeper, depth_caller] at *; omega))
  k_with "exec If" => (first | k_dflt (k_extra "if") | ((with_reducible refine wpAny_If ?_); (try dsimp only)))
  k_with "exec If Compare cons nil" => (walk_at "exec If")
  k_with "exec If BoolOp cons nil" => (walk_at "exec If")
  k_with "exec If Call cons nil" => (walk_at "exec If")
  k_with "exec If UnaryOp cons nil" => (walk_at "exec If")
  k_with "exec If Compare cons cons" => (walk_at "exec If")
  k_with "exec If BoolOp cons cons" => (walk_at "exec If")
  k_with "eval Call" => (((fail_if_success (with_reducible show wpAny _ _ (eval (Expr.Call (Expr.Name (PySem.Str.ofString "range") _) _ _ _) _) _ _ _)); (with_reducible show wpAny _ _ (eval (Expr.Call (Expr.Name _ _) _ _ _) _) _ _ _); k_dflt (refine Call_ ?_)))
  k_with "eval Call Attribute" => ((k_dflt (refine MethodCall_ ?_)))
  k_with "handled" => (first | assumption | exact rfl)
  k_with "frames" => (first | exact rfl | (refine' frames_deeper ?r49zz; (case r49zz => assumption)))
  k_with "pyIter ref" => (((k_dflt (k_extra "loop")); (all_goals ((try ((try k_unmd); k_unfold; clear gG)); (try dsimp only); (try k_unmd); (try k_fold)))))
  k_with "call ref" => (k_dflt (k_extra "call"))
  k_with "sub" => (first | with_reducible assumption | with_reducible exact sub_refl | (with_reducible refine sub_cons ?_; k_extra "sub") | (with_reducible refine sub_app ?_; k_extra "sub"))
  k_with "call builtin:list.append" => ((k_dflt (refine' app_l ?r53zF ?r53zN ?r53zU ?r53zz ?_; (case r53zF => k_asm); (case r53zN => k_asm); (case r53zU => k_extra "upd"); (case r53zz => exact Nat.le_of_ble_eq_true rfl)); intro zq_h' zq_F' zq_N'; (try dsimp only [List.cons_append, List.nil_append] at zq_N'); (try k_sweep)))
  k_with "compareOp In ref ref" => ((k_dflt (first | (refine' in_ops0 ?r54zN ?r54zl ?r54zo ?r54zu ?_; (case r54zN => k_asm); (case r54zl => k_extra "mem"); (case r54zo => k_extra "opAt"); (case r54zu => k_extra "units")) | (refine' in_ops1 ?r54zN ?r54zl ?r54zv ?r54zo ?r54zu ?_; (case r54zN => k_asm); (case r54zl => k_extra "mem"); (case r54zv => k_extra "opAt"); (case r54zo => k_extra "opAt"); (case r54zu => k_extra "units")))))
  k_with "assign Tuple" => ((k_dflt (refine' unpackN_ ?r55zF ?r55zN ?r55zT ?r55zh ?r55z2 ?r55z3 ?_; (case r55zF => k_asm); (case r55zN => k_asm); (case r55zT => (refine' News.isTup ?r55zy1 ?r55zy2; (case r55zy1 => k_asm); (case r55zy2 => k_extra "mem"))); (case r55zh => k_extra "handled"); (case r55z2 => exact rfl); (case r55z3 => exact rfl)); intro zq_h' zq_F' zq_N'; (try k_sweep)))
  k_with "WPost" => ((first | (with_reducible refine WPost.retI ?_) | (with_reducible refine WPost.nextI ?_)))
  k_with "WhlIf" => (((first | (refine' WhlIf.yes ?r57zz ?_; (case r57zz => (refine decide_eq_true ?_; omega))) | (refine' WhlIf.no ?r57zz ?_; (case r57zz => (refine decide_eq_false ?_; omega)))); (try dsimp only); (try k_unmd); (try k_fold)))
  k_with "call builtin:len" => ((k_dflt (refine' len_l ?r58zN ?r58zm ?r58zz ?_; (case r58zN => k_asm); (case r58zm => k_extra "mem"); (case r58zz => first | exact Nat.le_of_ble_eq_true rfl | omega)); intro _ _))
  k_with "loadName" => (((with_reducible refine' ldnq ?r59zF ?r59zv ?r59zk ?r59zl ?_); (case r59zF => with_reducible assumption); (case r59zl => decide +kernel); (case r59zv => k_dflt (first | with_reducible assumption | exact @rfl _ (some _) | assumption)); (case r59zk => exact rfl)))
  k_with "kv" => (with_reducible first | exact kv_held | exact kv_temps | exact kv_given | exact kv_out | exact kv_count)
  k_with "stitem" => ((k_dflt (refine' st_item ?r61zN ?r61zm ?r61zd ?r61zv ?_ ?r61zh6; (case r61zN => k_asm); (case r61zm => k_extra "mem"); (case r61zd => with_reducible assumption); (case r61zv => k_extra "kv"); (case r61zh6 => with_unfolding_all rfl))))
  k_with "subscriptTail Name Constant ref str" => (k_extra "stitem")
  k_with "call type:range" => ((k_dflt (first | (refine' range1_rows ?r63zF ?r63zN ?_; (case r63zF => k_asm); (case r63zN => k_asm)) | (refine' range2_rows ?r63zF ?r63zN ?_; (case r63zF => k_asm); (case r63zN => k_asm))); intro zq_h' zq_tk' zq_t9 zq_u9 zq_w9 zq_R' zq_F' zq_N' zq_kp'; clear zq_kp'; (try k_sweep)))
  k_with "TurnPost" => ((with_reducible refine TurnPost.contI ?_))
  k_with "unpackItems ref" => ((k_dflt (refine' unpackItemsN_ ?r65zF ?r65zN ?r65zT ?r65zh ?r65z2 ?_; (case r65zF => k_asm); (case r65zN => k_asm); (case r65zT => (refine' News.isTup ?r65zy1 ?r65zy2; (case r65zy1 => k_asm); (case r65zy2 => k_extra "mem"))); (case r65zh => k_extra "handled"); (case r65z2 => exact rfl)); intro zq_h' zq_F' zq_N'; (try k_sweep)))
  k_with "storeName" => (((k_dflt (refine' store_let ?r66zF ?r66zN ?_ ?r66za ?r66zb; (case r66zF => k_asm); (case r66zN => k_asm); (case r66za => rfl); (case r66zb => rfl); k_whole)); (intro zq_mk zq_h' zq_F' zq_N'); (try k_sweep)))
  k_with "callWith" => (((with_reducible show wpAny _ _ (callWith _ (Value.builtin "list.append") _ _ _) _ _ _); (k_dflt (refine callWith_method1 ?_))))
  k_with "ne" => (first | with_reducible assumption | with_reducible exact Ne.symm (by with_reducible assumption) | with_reducible exact lt_ne_1 (by with_reducible assumption) | with_reducible exact lt_ne_2 (by with_reducible assumption) | with_reducible exact lt_ne_3 (by with_reducible assumption) | with_reducible exact lt_ne_4 (by with_reducible assumption) | with_reducible exact lt_ne_5 (by with_reducible assumption) | with_reducible exact lt_ne_6 (by with_reducible assumption) | with_reducible exact lt_ne_7 (by with_reducible assumption) | with_reducible exact lt_ne_8 (by with_reducible assumption) | omega)
  k_with "call builtin:list.append" => ((k_dflt (refine' app_l ?r148zF ?r148zN ?r148zU ?r148zz ?_; (case r148zF => k_asm); (case r148zN => k_asm); (case r148zU => k_extra "upd"); (case r148zz => first | exact app_len0 (by assumption) | exact app_len1 (by assumption) | exact app_len2 (by assumption))); intro zq_h' zq_F' zq_N'; (try dsimp only [List.cons_append, List.nil_append] at zq_N'); (try k_sweep)))
  k_with "call type:tuple" => ((k_dflt (refine' kde_tupleOf ?r149zF ?r149zN ?r149zT ?r149zz ?r149ze ?_; (case r149zF => k_asm); (case r149zN => k_asm); (case r149zT => (refine' News.isList ?r149zy1 ?r149zy2; (case r149zy1 => k_asm); (case r149zy2 => k_extra "mem"))); (case r149zz => exact tup_sz (by assumption)); (case r149ze => exact rfl)); intro zq_D' zq_h' zq_F' zq_N' zq_l1; (try k_lt zq_l1); (try k_sweep)))
  k_with "call builtin:isinstance" => ((k_dflt (first | (refine' isi_tup ?r150zF ?r150zX ?r150zN ?r150zm ?_; (case r150zF => k_asm); (case r150zX => k_asm); (case r150zN => k_asm); (case r150zm => k_extra "mem")) | (refine' isi_int ?r150zF ?r150zX ?r150zN ?_; (case r150zF => k_asm); (case r150zX => k_asm); (case r150zN => k_asm)) | (refine' isi_str ?r150zF ?r150zX ?r150zN ?_; (case r150zF => k_asm); (case r150zX => k_asm); (case r150zN => k_asm))); intro _))
  k_with "subscriptTail Name Subscript ref int" => ((with_unfolding_all (refine' sub_home ?r151zN ?r151zm ?r151zi ?r151zz ?r151z0 ?r151z4 ?_ ?r151zh6; (case r151zN => k_asm); (case r151zm => k_extra "mem"); (case r151zi => assumption); (case r151zz => assumption); (case r151z0 => assumption); (case r151z4 => assumption); (case r151zh6 => rfl); k_whole); intro _))
  k_with "loop" => (
    (rename Fr _ _ _ _ => lF'); (rename News _ _ _ _ => lN')
    first
    | (
      refine name_list lN' (fun l9 vs9 e1 e2 lN9 => ?_)
      subst e1
      clear lN'
      have hlt9 : ∀ p ∈ keep, p.1 < l9 := by first | assumption | exact tb_ltOf (by assumption)
      refine li_iter (vs := cvs) (nn := nc) (fun i m nx => ∃ ws n T, m (PySem.Str.ofString "homes") = some (.ref hl) ∧ m (PySem.Str.ofString "rows") = some (.ref l9) ∧ nx = (l9, listOf (ws : List Value).toArray n) :: (T ++ keep) ∧ FreshOver T ((l9, listOf vs9.toArray 0) :: keep) ∧ All2 (RowAt (T ++ keep)) ws ((rows.take i).map (rRow home)))
        (by assumption) (.tail _ hA) lF' lN9 ⟨vs9, 0, [], rfl, rfl, rfl, FreshOver.nil, by rw [e2]; exact .nil⟩ (fun i v m₁ nx h' tk' own hget hoff hmem hJ F' N' => ?_) (fun m₁ nx h' tk' hJ F' N' => ?_)
      all_goals (
        clear lF' lN9
        (show (let gG : Prop := _; gG)); intro gG; obtain ⟨ws, n9, T9, hm1, hm2, hnx, hfT, hws⟩ := hJ; k_unfold; clear gG
        subst hnx
        change Fr g' L' h' _ at F'
        change News g' L' h' _ at N'
        (try dsimp only))
      obtain ⟨r9, hr9, hra⟩ := all2_get hall hget
      obtain ⟨hwa, ht4⟩ := hrg _ (List.mem_of_getElem? hr9)
      obtain ⟨k9, ps9⟩ := r9
      obtain ⟨ia, tka, nia, vs8, ev, hia, hvs8⟩ := row_inv hra
      subst ev
      have hits := its_of (k := k9) (t := tka) hvs8
      have hwl : ws.length ≤ 900 := by
        have h1 := all2_length hws
        rw [List.length_map, List.length_take] at h1
        omega
      dsimp only [List.cons_append] at N'
      have hsubK : ∀ p ∈ keep, p ∈ (T9 ++ keep) ++ own := fun p hp => List.mem_append_left _ (List.mem_append_right _ hp)
      have hia9 := hsubK _ hia
      have hB9 := hsubK _ hB)
    | (
      refine name_list lN' (fun w9 us9 e1 e3 lN9 => ?_)
      subst e1
      clear lN'
      have hltw : AllLt w9 ((l9, listOf ws.toArray n9) :: (T9 ++ keep ++ own)) := by assumption
      have hlw : l9 ≠ w9 := Nat.ne_of_lt (tb_ltOf hltw _ (.head _))
      have hloff : Off l9 (T9 ++ keep ++ own) := fun q hq => (List.mem_append.mp hq).elim (fun hq => (List.mem_append.mp hq).elim (fun hq => hfT.off (x := (l9, listOf vs9.toArray 0)) (.head _) q hq) fun hq => Nat.ne_of_lt (hlt9 q hq)) fun hq => hoff q hq l9 (by simp)
      refine ti_iter (vs := Value.str k9.name tka :: vs8) (nn := nia) (fun j m nx => ∃ us n' T2, m (PySem.Str.ofString "homes") = some (.ref hl) ∧ m (PySem.Str.ofString "rows") = some (.ref l9) ∧ m (PySem.Str.ofString "row") = some (.ref w9) ∧ nx = (w9, listOf (us : List Value).toArray n') :: (l9, listOf ws.toArray n9) :: (T2 ++ (T9 ++ keep ++ own)) ∧ FreshOver T2 ((w9, listOf us9.toArray 0) :: (l9, listOf ws.toArray n9) :: (T9 ++ keep ++ own)) ∧ All2 (ItAt (T2 ++ (T9 ++ keep))) us (((rowIts ⟨k9, ps9⟩).take j).map (rIt home)))
        (by assumption) (.tail _ (.tail _ hia9)) lF' lN9 ⟨us9, 0, [], by assumption, by assumption, rfl, rfl, FreshOver.nil, by rw [e3]; exact .nil⟩ (fun j v m₁ nx h' tk' own2 hget2 hoff2 hmem2 hJ F' N' => ?_) (fun m₁ nx h' tk' hJ F' N' => ?_)
      all_goals (
        clear lF' lN9 hm1 hm2
        (show (let gG : Prop := _; gG)); intro gG; obtain ⟨us, nu, T2, hm1, hm2, hm3, hnx, hfT2, hus⟩ := hJ; k_unfold; clear gG
        subst hnx
        change Fr g' L' h' _ at F'
        change News g' L' h' _ at N'
        (try dsimp only)
        have hul : us.length ≤ 900 := by
          have h1 := all2_length hus
          have h2 := all2_length hits
          have h3 := wa_len hwa
          rw [List.length_map, List.length_take] at h1
          have h4 := all2_length hvs8
          have h5 := ar_or k9
          simp only [List.length_cons] at h2
          omega)
      rotate_left 1
      have hO9 : Off l9 (T2 ++ (T9 ++ keep ++ own)) := fun q hq => (List.mem_append.mp hq).elim (fun hq => hfT2.off (x := (l9, listOf ws.toArray n9)) (.tail _ (.head _)) q hq) (hloff q)
      rotate_right 1
      obtain ⟨it9, hit9, hia2⟩ := all2_get hits hget2
      dsimp only [List.cons_append] at N'
      have hsub1 : ∀ p ∈ keep, p ∈ T2 ++ (T9 ++ keep ++ own) := fun p hp => List.mem_append_right _ (hsubK p hp)
      have hB8 := hsub1 _ hB
      have hOw : Off w9 (T2 ++ (T9 ++ keep ++ own) ++ own2) := fun q hq => (List.mem_append.mp hq).elim (fun hq => (List.mem_append.mp hq).elim (fun hq => hfT2.off (x := (w9, listOf us9.toArray 0)) (.head _) q hq) fun hq => Nat.ne_of_lt (tb_ltOf hltw q (.tail _ hq))) fun hq => hoff2 q hq w9 (by simp)
      rcases it_cases hwa ht4 hit9 hia2 with ⟨y1, y2, ev, ei⟩ | ⟨y1, y2, ev, ei⟩ | ⟨a1, y1, y2, y3, y4, ev, ei, hk0, hk4, hym⟩ | ⟨a1, y1, y2, y3, y4, ev, ei, hym⟩ | ⟨a1, y1, y2, y3, y4, ev, ei, hym⟩
      all_goals try (subst ev; subst ei; try have hym8 := hsub1 _ hym)))
  refine wpAny_call ?_
  k_dflt (refine' code_def (binds := [(PySem.Str.ofString "code", .ref cl), (PySem.Str.ofString "homes", .ref hl)]) ?zk1 ?zk2 ?zk3 ?zk4 ?zk5 ?zkA ?zkF ?zkK ?zk6 ?zk7 ?zk8 ?zk9 ?zkB ?_ ?zc2 ?zc3 ?zc4 ?zc5; (case zkA => assumption); (case zkF => assumption); (case zkK => assumption); (case zk1 => k_asm); (case zk2 => k_asm); (case zk3 => k_asm); (case zk4 => k_asm); (case zk5 => k_asm); (case zk6 => k_is); (case zk7 => k_is); (case zk8 => omega); (case zk9 => exact BindsTo.of_eq rfl); (case zc5 => decide); (case zkB => exact locs rfl); (case zc2 => exact rfl); (case zc3 => exact rfl); (case zc4 => exact rfl); k_whole; intro g' L' h' FG' F' N' B' X' T'; (try dsimp only [List.reverse_cons, List.reverse_nil, List.nil_append, List.cons_append] at F'); (try dsimp only); (try k_fold))
  k_steps
  · rename Fr g' _ _ _ => F9
    rename News g' _ _ _ => N9
    refine real_same F9 N9 hoff2 ⟨.tail _ (.tail _ (List.mem_append_right _ hia9)), us ++ [_], nu + 1, T2, hm1, hm2, hm3, rfl, hfT2, ?_⟩
    rw [take_map_step _ hit9]
    exact all2_append hus .nm
  · rename Fr g' _ _ _ => F9
    rename News g' _ _ _ => N9
    refine real_same F9 N9 hoff2 ⟨.tail _ (.tail _ (List.mem_append_right _ hia9)), us ++ [_], nu + 1, T2, hm1, hm2, hm3, rfl, hfT2, ?_⟩
    rw [take_map_step _ hit9]
    exact all2_append hus (.pt .int)
  · rename Fr g' _ _ _ => F9
    rename News g' _ _ _ => N9
    refine real_push F9 N9 (by assumption) hoff2 ⟨.tail _ (.tail _ (.tail _ (List.mem_append_right _ hia9))), us ++ [_], nu + 1, _ :: T2, hm1, hm2, hm3, rfl, fresh_step (o1 := listOf us9.toArray 0) (by assumption) hfT2, ?_⟩
    rw [take_map_step _ hit9]
    exact all2_append (hus.mono fun _ _ x => x.mono fun _ h => .tail _ h) (.pt (.op (.x (.head _))))
  · rename Fr g' _ _ _ => F9
    rename News g' _ _ _ => N9
    refine real_push F9 N9 (by assumption) hoff2 ⟨.tail _ (.tail _ (.tail _ (List.mem_append_right _ hia9))), us ++ [_], nu + 1, _ :: T2, hm1, hm2, hm3, rfl, fresh_step (o1 := listOf us9.toArray 0) (by assumption) hfT2, ?_⟩
    rw [take_map_step _ hit9]
    exact all2_append (hus.mono fun _ _ x => x.mono fun _ h => .tail _ h) (.pt (.op (.x (.head _))))
  · rename Fr g' _ _ _ => F9
    rename News g' _ _ _ => N9
    refine real_same F9 N9 hoff2 ⟨.tail _ (.tail _ (List.mem_append_right _ hia9)), us ++ [_], nu + 1, T2, hm1, hm2, hm3, rfl, hfT2, ?_⟩
    rw [take_map_step _ hit9]
    exact all2_append hus (.pt (.op (.y (List.mem_append_right _ (List.mem_append_right _ hym)))))
  · rename Fr g' _ _ _ => F9
    rename News g' _ _ _ => N9
    refine real_outer (x' := (l9, listOf ws.toArray n9)) F9 N9 (by assumption) (fresh_obj hfT2) hoff ⟨.tail _ (List.mem_append_right _ hA), ws ++ [_], n9 + 1, _ :: (T2 ++ T9), hm1, hm2, rfl, fresh_out (o1 := listOf us9.toArray 0) (o2 := listOf us9.toArray 0) (by assumption) hfT2 hfT, ?_⟩
    rw [take_map_step _ hr9]
    rw [List.take_of_length_le (Nat.le_of_eq (all2_length hits).symm)] at hus
    refine all2_append (hws.mono fun _ _ x => x.mono fun p h => ?_) (row_of (hus.mono fun _ _ x => x.mono fun p h => ?_) (.head _))
    · exact .tail _ (subY (List.mem_append_right _ h))
    · exact .tail _ (subY h)
  · rename Fr h₀ _ _ _ => F9
    rename News h₀ _ _ _ => N9
    rw [List.take_of_length_le (by omega)] at hws
    exact ret _ _ _ _ F9 N9 ⟨l9, n9, ws, (l9, listOf ws.toArray n9) :: T9, rfl, rfl, .cons hlt9 (hfT.sub fun _ h => .tail _ h), .head _, hws.mono fun _ _ x => x.mono fun _ h => .tail _ h⟩
end
section
set_option maxRecDepth 100000 in
set_option maxHeartbeats 0 in
theorem altered_ct (c : Cx) {rl ls l : Addr} {vs ws : List Value} {ns : List Int} {ss : List Row} {p : Nat} {tp : Tok} {nl n2' n : Nat} {keep : List (Addr × Obj)}
    (hi : IntsOf vs ns) (hlen : vs.length ≤ 1000) (n1 : ls ≠ rl) (o1 : Off rl keep) (hA : (l, listOf ws.toArray n) ∈ keep) (hall : All2 (RowAt keep) ws ss) (hwr : ∀ s ∈ ss, WR s) (h1 : 1 ≤ ss.length) (hz : ss.length ≤ 100) :
    Ct c 203 6 100 [.ref rl, .ref l] ((rl, rollO ls p tp nl) :: (ls, listOf vs.toArray n2') :: keep)
      (fun v news' => ∃ l' n' ws' ss', v = .ref l' ∧ (l', listOf (ws' : List Value).toArray n') ∈ news' ∧ (∀ q ∈ keep, q ∈ news') ∧ All2 (RowAt news') ws' ss' ∧ (∀ s ∈ ss', WR s) ∧ ss'.length = ss.length ∧ (∀ (i : Nat) (r s : Row), ss[i]? = some r → ss'[i]? = some s → r.k = s.k)) := by
  unfold Ct PR
  k_fill
  intro A env outer A₀ base h₀ L m s Q E hh hA' hf hke hd hu B F X N T ret
  have hlw := all2_length hall
  have hz0 : ws.length ≤ 1000000 := by omega
  have hz9 : ws.length ≤ 900 := by omega
  have hz3 : ws.length ≤ 300 := by omega
  have hl1 : (1 : Int) ≤ (ws.length : Int) := by omega
  k_with_none
  k_with "mem" => (first | with_reducible assumption | with_reducible exact List.mem_cons_self | (with_reducible refine List.mem_cons_of_mem _ ?_; k_extra "mem") | (with_reducible refine List.mem_append_left _ ?_; k_extra "mem") | (with_reducible refine List.mem_append_right _ ?_; k_extra "mem"))
  k_with "my_enter" => ((refine' code_def ?r2zk1 ?r2zk2 ?r2zk3 ?r2zk4 ?r2zk5 ?r2zkA ?r2zkF ?r2zkK ?r2zk6 ?r2zk7 ?r2zk8 ?r2zk9 ?r2zkB ?_ ?r2zc2 ?r2zc3 ?r2zc4 ?r2zc5; (case r2zkA => assumption); (case r2zkF => assumption); (case r2zkK => assumption); (case r2zk1 => k_asm); (case r2zk2 => k_asm); (case r2zk3 => k_asm); (case r2zk4 => k_asm); (case r2zk5 => k_asm); (case r2zk6 => k_is); (case r2zk7 => k_is); (case r2zk8 => omega); (case r2zk9 => exact BindsTo.of_eq rfl); (case r2zc5 => decide); (case r2zkB => exact locs rfl); (case r2zc2 => exact rfl); (case r2zc3 => exact rfl); (case r2zc4 => exact rfl); k_whole; intro zq_g' zq_L' zq_h' zq_FG' zq_F' zq_N' zq_B' zq_X' zq_T'; (try dsimp only); (try k_fold)))
  k_with "mysub" => (((with_reducible show wpAny _ _ (subscriptTail _ _ (Value.ref _) (Value.int _ _)) _ _ _); (with_unfolding_all first | (refine' sub_tup ?r3zN ?r3zm ?r3zi ?r3zj ?r3zx ?_ ?r3zh6; (case r3zN => k_asm); (case r3zm => k_extra "mem"); (case r3zi => exact rfl); (case r3zj => decide); (case r3zx => exact rfl); (case r3zh6 => rfl); k_whole) | (refine' sub_list ?r3zN ?r3zm ?r3zi ?r3zj ?r3zx ?_ ?r3zh6; (case r3zN => k_asm); (case r3zm => k_extra "mem"); (case r3zi => exact rfl); (case r3zj => omega); (case r3zx => assumption); (case r3zh6 => rfl); k_whole) | (refine' sub_list ?r3zN ?r3zm ?r3zi ?r3zj ?r3zx ?_ ?r3zh6; (case r3zN => k_asm); (case r3zm => k_extra "mem"); (case r3zi => exact rfl); (case r3zj => decide); (case r3zx => exact rfl); (case r3zh6 => rfl); k_whole) | (refine' di_item ?r3zN ?r3zm ?r3zd ?r3zv ?_ ?r3zh6; (case r3zN => k_asm); (case r3zm => k_extra "mem"); (case r3zd => with_reducible assumption); (case r3zv => with_reducible assumption); (case r3zh6 => rfl); k_whole; intro _) | (refine' ds_item ?r3zN ?r3zm ?r3zd ?r3zv ?_ ?r3zh6; (case r3zN => k_asm); (case r3zm => k_extra "mem"); (case r3zd => with_reducible assumption); (case r3zv => with_reducible assumption); (case r3zh6 => rfl); k_whole; intro _))))
  k_with "subscriptTail" => (k_extra "mysub")
  k_with "subscriptTail Name Constant ref int" => (k_extra "mysub")
  k_with "subscriptTail Name Name ref int" => (k_extra "mysub")
  k_with "subscriptTail Attribute Name Subscript Name Constant ref int" => (k_extra "mysub")
  k_with "getMethod ref" => (((with_reducible show wpAny _ _ (getMethod (Value.ref _) (PySem.Str.ofString "get") _) _ _ _); k_dflt (first | (refine' di_method ?r8zN ?r8zm ?r8zd ?_; (case r8zN => k_asm); (case r8zm => k_extra "mem"); (case r8zd => with_reducible assumption)) | (refine' ds_method ?r8zN ?r8zm ?r8zd ?_; (case r8zN => k_asm); (case r8zm => k_extra "mem"); (case r8zd => with_reducible assumption)))))
  k_with "call builtin:dict.get" => ((k_dflt (first | (refine' di_get ?r9zN ?r9zm ?r9zd ?r9zlo ?_; (case r9zN => k_asm); (case r9zm => k_extra "mem"); (case r9zd => with_reducible assumption); (case r9zlo => with_reducible assumption)) | (refine' ds_get ?r9zN ?r9zm ?r9zd ?r9zlo ?_; (case r9zN => k_asm); (case r9zm => k_extra "mem"); (case r9zd => with_reducible assumption); (case r9zlo => with_reducible assumption))); intro _))
  k_with "compareOp NotIn int ref" => ((k_dflt (refine' di_notin2 ?r10zN ?r10zm ?r10zd ?r10zlo ?_ ?_; (case r10zN => k_asm); (case r10zm => k_extra "mem"); (case r10zd => with_reducible assumption); (case r10zlo => with_reducible assumption)); intros))
  k_with "ite" => (with_reducible first | refine ite_t ?_ | refine ite_f ?_ | (refine' ite_bt ?r11zh ?_; (case r11zh => assumption)) | (refine' ite_bf ?r11zh ?_; (case r11zh => assumption)))
  k_with "opAt" => (first | with_reducible assumption | (refine' OpAt.mono ?r12zs ?r12zh; (case r12zh => with_reducible assumption); (case r12zs => k_extra "sub")) | (refine' OpAt.t ?r12zq; (case r12zq => k_extra "mem")) | (refine' OpAt.a ?r12zq; (case r12zq => k_extra "mem")) | (refine' OpAt.y ?r12zq; (case r12zq => k_extra "mem")) | (refine' OpAt.x ?r12zq; (case r12zq => k_extra "mem")))
  k_with "units" => (first | exact un1 (by with_reducible assumption) rfl | exact un0 (by with_reducible assumption) rfl | exact un2 (by with_reducible assumption) rfl | (simp only [units_in1, units_deeper, Around.mark_units, units_caller] at *; omega))
  k_with "compareOp Eq ref ref" => ((k_dflt (refine' op_eq ?r14zN ?r14za ?r14zb ?r14zu ?_; (case r14zN => k_asm); (case r14za => k_extra "opAt"); (case r14zb => k_extra "opAt"); (case r14zu => k_extra "units"); k_whole)))
  k_with "compareOp NotEq ref ref" => ((k_dflt (refine' op_ne ?r15zN ?r15za ?r15zb ?r15zu ?_; (case r15zN => k_asm); (case r15za => k_extra "opAt"); (case r15zb => k_extra "opAt"); (case r15zu => k_extra "units"); k_whole)))
  k_with "ne" => (first | with_reducible assumption | with_reducible exact Ne.symm (by with_reducible assumption) | with_reducible exact lt_ne_1 (by with_reducible assumption) | with_reducible exact lt_ne_2 (by with_reducible assumption) | with_reducible exact lt_ne_3 (by with_reducible assumption) | with_reducible exact lt_ne_4 (by with_reducible assumption) | with_reducible exact lt_ne_5 (by with_reducible assumption) | with_reducible exact lt_ne_6 (by with_reducible assumption) | with_reducible exact lt_ne_7 (by with_reducible assumption) | with_reducible exact lt_ne_8 (by with_reducible assumption) | with_reducible exact Ne.symm (lt_ne_1 (by with_reducible assumption)) | with_reducible exact Ne.symm (lt_ne_2 (by with_reducible assumption)) | with_reducible exact Ne.symm (lt_ne_3 (by with_reducible assumption)) | with_reducible exact Ne.symm (lt_ne_4 (by with_reducible assumption)) | with_reducible exact Ne.symm (lt_ne_5 (by with_reducible assumption)) | with_reducible exact Ne.symm (lt_ne_6 (by with_reducible assumption)) | with_reducible exact Ne.symm (lt_ne_7 (by with_reducible assumption)) | with_reducible exact Ne.symm (lt_ne_8 (by with_reducible assumption)) | omega)
  k_with "allne" => (first | with_reducible assumption | (refine' ne_of_lt_all ?r17zz; (case r17zz => with_reducible assumption)) | (refine' ne_of_fresh ?r17zz ?r17zm; (case r17zz => with_reducible assumption); (case r17zm => k_extra "mem")) | exact List.forall_mem_nil _ | (refine' List.forall_mem_cons.mpr ⟨?r17za, ?r17zb⟩; (case r17za => ((try dsimp only); k_extra "ne")); (case r17zb => k_extra "allne")))
  k_with "updF" => (first | (refine' UpdF.head ?r18za; (case r18za => k_extra "allne")) | (refine' UpdF.tail ?r18za ?r18zb; (case r18za => ((try dsimp only); k_extra "ne")); (case r18zb => k_extra "updF")))
  k_with "setItem ref int" => ((k_dflt (first | (refine' di_set ?r19zF ?r19zN ?r19zU ?r19zd ?r19zz ?_; (case r19zF => k_asm); (case r19zN => k_asm); (case r19zU => k_extra "updF"); (case r19zd => with_reducible assumption); (case r19zz => omega)) | (refine' ds_set ?r19zF ?r19zN ?r19zU ?r19zd ?r19zz ?_; (case r19zF => k_asm); (case r19zN => k_asm); (case r19zU => k_extra "updF"); (case r19zd => with_reducible assumption); (case r19zz => omega))); intro zq_h' zq_o' zq_F' zq_N' zq_hd'; (try dsimp only at zq_N'); (try k_sweep)))
  k_with "ifline" => (first | ((with_reducible refine' if_ne ?r20zF ?r20zv ?r20zn ?_ ?r20zk ?r20zl ?r20zd); (case r20zF => k_asm); (case r20zv => with_unfolding_all rfl); (case r20zn => decide +kernel); (case r20zk => rfl); (case r20zl => rfl); (case r20zd => decide); intro _) | ((with_reducible refine' if_eq ?r20zF ?r20zv ?r20zn ?_ ?r20zk ?r20zl ?r20zd); (case r20zF => k_asm); (case r20zv => with_unfolding_all rfl); (case r20zn => decide +kernel); (case r20zk => rfl); (case r20zl => rfl); (case r20zd => decide); intro _; dsimp only) | ((with_reducible refine' ifo_ne ?r20zF ?r20zv ?r20zn ?_ ?r20zk ?r20zl ?r20zd); (case r20zF => k_asm); (case r20zv => with_unfolding_all rfl); (case r20zn => decide +kernel); (case r20zk => rfl); (case r20zl => rfl); (case r20zd => decide); intro _) | ((with_reducible refine' ifo_eq ?r20zF ?r20zv ?r20zn ?_ ?r20zk ?r20zl ?r20zd); (case r20zF => k_asm); (case r20zv => with_unfolding_all rfl); (case r20zn => decide +kernel); (case r20zk => rfl); (case r20zl => rfl); (case r20zd => decide); intro _; dsimp only))
  k_with "execs cons" => (((with_reducible show wpAny _ _ (execs (Stmt.If _ _ _ _ :: _) _) _ _ _); k_dflt (k_extra "ifline")))
  k_with "ltall" => (first | assumption | exact tb_ltOf (by assumption) | (refine' tb_ltOf (And.right ?r22zz); (case r22zz => assumption)) | (refine' tb_ltOf (And.right (And.right ?r22zz)); (case r22zz => assumption)) | (refine' tb_ltOf (And.right (And.right (And.right ?r22zz))); (case r22zz => assumption)))
  k_with "fresh" => (first | exact FreshOver.nil | (refine' FreshOver.cons ?r23za ?r23zb; (case r23za => ((try dsimp only); k_extra "ltall")); (case r23zb => k_extra "fresh")))
  k_with "pairs" => (first | exact All2.nil | (refine' All2.cons ?r24za ?r24zb; (case r24za => (refine' PairAt.mk ?r24zc; (case r24zc => k_extra "mem"))); (case r24zb => k_extra "pairs")))
  k_with "upd" => (first | (refine' upd_app ?r25za ?r25zb; (case r25za => k_extra "allne"); (case r25zb => k_extra "upd")) | (refine' Upd.head ?r25za; (case r25za => k_extra "allne")) | (refine' Upd.tail ?r25za ?r25zb; (case r25za => ((try dsimp only); k_extra "ne")); (case r25zb => k_extra "upd")))
  k_with "setAttr ref" => ((k_dflt (refine' set_dict ?r26zF ?r26zX ?r26zN ?r26zI ?r26zd ?r26zs ?r26zp ?r26zt ?r26zh ?r26zl ?r26ze ?r26zU ?r26zz ?_; (case r26zF => k_asm); (case r26zX => k_asm); (case r26zN => k_asm); (case r26zI => k_inst); (case r26zd => exact rfl); (case r26zs => k_is); (case r26zp => k_is); (case r26zt => k_is); (case r26zh => k_is); (case r26zl => k_get); (case r26ze => k_put); (case r26zU => k_extra "upd"); (case r26zz => exact Nat.le_of_ble_eq_true rfl)); intro zq_h' zq_F' zq_N'; (try k_sweep)))
  k_with "compareOp Eq" => ((k_dflt (refine' pt_eq ?r27zN ?r27za ?r27zb ?r27zu ?_; (case r27zN => k_asm); (case r27za => with_reducible assumption); (case r27zb => with_reducible assumption); (case r27zu => k_extra "units"); k_whole)))
  k_with "compareOp NotEq" => ((k_dflt (refine' pt_ne ?r28zN ?r28za ?r28zb ?r28zu ?_; (case r28zN => k_asm); (case r28za => with_reducible assumption); (case r28zb => with_reducible assumption); (case r28zu => k_extra "units"); k_whole)))
  k_with "exec While Compare cons nil" => (first | ((k_dflt (k_extra "while")); (all_goals ((try ((try k_unmd); k_unfold; clear gG)); (try k_unmd); (try k_fold)))) | (k_here; (try k_fold); k_dflt (refine whl_start 100 ?_)))
  k_with "call builtin:isinstance" => ((k_dflt (first | (refine' isi_tup ?r30zF ?r30zX ?r30zN ?r30zm ?_; (case r30zF => k_asm); (case r30zX => k_asm); (case r30zN => k_asm); (case r30zm => k_extra "mem")) | (refine' isi_int ?r30zF ?r30zX ?r30zN ?_; (case r30zF => k_asm); (case r30zX => k_asm); (case r30zN => k_asm))); intro _))
  k_with "eval Name" => (((with_reducible refine' ldq ?r31zF ?r31zv ?r31zk ?r31zl ?r31zd ?_); (case r31zF => with_reducible assumption); (case r31zl => decide +kernel); (case r31zd => decide +kernel); (case r31zv => k_dflt (first | with_reducible assumption | exact @rfl _ (some _) | assumption)); (case r31zk => exact rfl)))
  k_with "TurnPost" => ((first | (with_reducible refine TurnPost.retI ?_) | (with_reducible refine TurnPost.nextI ?_)))
  k_with "exec For" => (((rename Fr _ _ _ _ => zq_lF'); (with_unfolding_all refine' For_invVF zq_lF' ?r33zk1 ?r33zk2 ?_; (case r33zk1 => exact rfl); (case r33zk2 => exact rfl); k_whole)))
  k_with "exec For Name Attribute cons nil" => (walk_at "exec For")
  k_with "exec For Name Name cons nil" => (walk_at "exec For")
  k_with "exec For Name Call cons nil" => (walk_at "exec For")
  k_with "rowAt" => (with_reducible assumption)
  k_with "depth" => (first | exact dp1 (by with_reducible assumption) rfl | exact dp0 (by with_reducible assumption) rfl | exact dp2 (by with_reducible assumption) rfl | (simp only [depth_under_make, depth_under_kw, depth_in1, depth_deeper, depth_caller] at *; omega))
  k_with "exec If" => (first | k_dflt (k_extra "if") | ((with_reducible refine wpAny_If ?_); (try dsimp only)))
  k_with "exec If Compare cons nil" => (walk_at "exec If")
  k_with "exec If BoolOp cons nil" => (walk_at "exec If")
  k_with "exec If Call cons nil" => (walk_at "exec If")
  k_with "exec If UnaryOp cons nil" => (walk_at "exec If")
  k_with "exec If Compare cons cons" => (walk_at "exec If")
  k_with "exec If BoolOp cons cons" => (walk_at "exec If")
  k_with "eval Call" => (((fail_if_success (with_reducible show wpAny _ _ (eval (Expr.Call (Expr.Name (PySem.Str.ofString "range") _) _ _ _) _) _ _ _)); (with_reducible show wpAny _ _ (eval (Expr.Call (Expr.Name _ _) _ _ _) _) _ _ _); k_dflt (refine Call_ ?_)))
  k_with "eval Call Attribute" => ((k_dflt (refine MethodCall_ ?_)))
  k_with "handled" => (first | assumption | exact rfl)
  k_with "frames" => (first | exact rfl | (refine' frames_deeper ?r49zz; (case r49zz => assumption)))
  k_with "pyIter ref" => (((k_dflt (k_extra "loop")); (all_goals ((try ((try k_unmd); k_unfold; clear gG)); (try dsimp only); (try k_unmd); (try k_fold)))))
  k_with "call ref" => (k_dflt (k_extra "call"))
  k_with "sub" => (first | with_reducible assumption | with_reducible exact sub_refl | (with_reducible refine sub_cons ?_; k_extra "sub") | (with_reducible refine sub_app ?_; k_extra "sub"))
  k_with "call builtin:list.append" => ((k_dflt (refine' app_l ?r53zF ?r53zN ?r53zU ?r53zz ?_; (case r53zF => k_asm); (case r53zN => k_asm); (case r53zU => k_extra "upd"); (case r53zz => exact Nat.le_of_ble_eq_true rfl)); intro zq_h' zq_F' zq_N'; (try dsimp only [List.cons_append, List.nil_append] at zq_N'); (try k_sweep)))
  k_with "compareOp In ref ref" => ((k_dflt (first | (refine' in_ops0 ?r54zN ?r54zl ?r54zo ?r54zu ?_; (case r54zN => k_asm); (case r54zl => k_extra "mem"); (case r54zo => k_extra "opAt"); (case r54zu => k_extra "units")) | (refine' in_ops1 ?r54zN ?r54zl ?r54zv ?r54zo ?r54zu ?_; (case r54zN => k_asm); (case r54zl => k_extra "mem"); (case r54zv => k_extra "opAt"); (case r54zo => k_extra "opAt"); (case r54zu => k_extra "units")))))
  k_with "assign Tuple" => ((k_dflt (refine' unpackN_ ?r55zF ?r55zN ?r55zT ?r55zh ?r55z2 ?r55z3 ?_; (case r55zF => k_asm); (case r55zN => k_asm); (case r55zT => (refine' News.isTup ?r55zy1 ?r55zy2; (case r55zy1 => k_asm); (case r55zy2 => k_extra "mem"))); (case r55zh => k_extra "handled"); (case r55z2 => exact rfl); (case r55z3 => exact rfl)); intro zq_h' zq_F' zq_N'; (try k_sweep)))
  k_with "WPost" => ((first | (with_reducible refine WPost.retI ?_) | (with_reducible refine WPost.nextI ?_)))
  k_with "WhlIf" => (((first | (refine' WhlIf.yes ?r57zz ?_; (case r57zz => (refine decide_eq_true ?_; omega))) | (refine' WhlIf.no ?r57zz ?_; (case r57zz => (refine decide_eq_false ?_; omega)))); (try dsimp only); (try k_unmd); (try k_fold)))
  k_with "call builtin:len" => ((k_dflt (refine' len_l ?r58zN ?r58zm ?r58zz ?_; (case r58zN => k_asm); (case r58zm => k_extra "mem"); (case r58zz => first | exact Nat.le_of_ble_eq_true rfl | omega)); intro _ _))
  k_with "loadName" => (((with_reducible refine' ldnq ?r59zF ?r59zv ?r59zk ?r59zl ?_); (case r59zF => with_reducible assumption); (case r59zl => decide +kernel); (case r59zv => k_dflt (first | with_reducible assumption | exact @rfl _ (some _) | assumption)); (case r59zk => exact rfl)))
  k_with "kv" => (with_reducible first | exact kv_held | exact kv_temps | exact kv_given | exact kv_out | exact kv_count)
  k_with "stitem" => ((k_dflt (refine' st_item ?r61zN ?r61zm ?r61zd ?r61zv ?_ ?r61zh6; (case r61zN => k_asm); (case r61zm => k_extra "mem"); (case r61zd => with_reducible assumption); (case r61zv => k_extra "kv"); (case r61zh6 => with_unfolding_all rfl))))
  k_with "subscriptTail Name Constant ref str" => (k_extra "stitem")
  k_with "call type:range" => ((k_dflt (first | (refine' range1_rows ?r63zF ?r63zN ?_; (case r63zF => k_asm); (case r63zN => k_asm)) | (refine' range2_rows ?r63zF ?r63zN ?_; (case r63zF => k_asm); (case r63zN => k_asm))); intro zq_h' zq_tk' zq_t9 zq_u9 zq_w9 zq_R' zq_F' zq_N' zq_kp'; clear zq_kp'; (try k_sweep)))
  k_with "TurnPost" => ((with_reducible refine TurnPost.contI ?_))
  k_with "unpackItems ref" => ((k_dflt (refine' unpackItemsN_ ?r65zF ?r65zN ?r65zT ?r65zh ?r65z2 ?_; (case r65zF => k_asm); (case r65zN => k_asm); (case r65zT => (refine' News.isTup ?r65zy1 ?r65zy2; (case r65zy1 => k_asm); (case r65zy2 => k_extra "mem"))); (case r65zh => k_extra "handled"); (case r65z2 => exact rfl)); intro zq_h' zq_F' zq_N'; (try k_sweep)))
  k_with "storeName" => (((k_dflt (refine' store_let ?r66zF ?r66zN ?_ ?r66za ?r66zb; (case r66zF => k_asm); (case r66zN => k_asm); (case r66za => rfl); (case r66zb => rfl); k_whole)); (intro zq_mk zq_h' zq_F' zq_N'); (try k_sweep)))
  k_with "callWith" => (((with_reducible show wpAny _ _ (callWith _ (Value.builtin "list.append") _ _ _) _ _ _); (k_dflt (refine callWith_method1 ?_))))
  k_with "ne" => (first | with_reducible assumption | with_reducible exact Ne.symm (by with_reducible assumption) | with_reducible exact lt_ne_1 (by with_reducible assumption) | with_reducible exact lt_ne_2 (by with_reducible assumption) | with_reducible exact lt_ne_3 (by with_reducible assumption) | with_reducible exact lt_ne_4 (by with_reducible assumption) | with_reducible exact lt_ne_5 (by with_reducible assumption) | with_reducible exact lt_ne_6 (by with_reducible assumption) | with_reducible exact lt_ne_7 (by with_reducible assumption) | with_reducible exact lt_ne_8 (by with_reducible assumption) | omega)
  k_with "call builtin:list.append" => ((k_dflt (refine' app_l ?r153zF ?r153zN ?r153zU ?r153zz ?_; (case r153zF => k_asm); (case r153zN => k_asm); (case r153zU => k_extra "upd"); (case r153zz => first | exact app_len0 (by assumption) | exact app_len1 (by assumption) | exact app_len2 (by assumption))); intro zq_h' zq_F' zq_N'; (try dsimp only [List.cons_append, List.nil_append] at zq_N'); (try k_sweep)))
  k_with "allne" => (first | with_reducible assumption | (refine' ne_of_lt_all ?r154zz; (case r154zz => with_reducible assumption)) | (refine' off_ltL ?r154zz; (case r154zz => assumption)) | exact List.forall_mem_nil _ | (refine' List.forall_mem_cons.mpr ⟨?r154za, ?r154zb⟩; (case r154za => ((try dsimp only); k_extra "ne")); (case r154zb => k_extra "allne")))
  k_with "call builtin:len" => ((k_dflt (refine' len_l ?r155zN ?r155zm ?r155zz ?_; (case r155zN => k_asm); (case r155zm => k_extra "mem"); (case r155zz => assumption)); intro _ _))
  k_with "subscriptTail Name Name ref int" => ((first | (with_unfolding_all (refine' sub_list ?r156zN ?r156zm ?r156zi ?r156zj ?r156zx ?_ ?r156zh6; (case r156zN => k_asm); (case r156zm => k_extra "mem"); (case r156zi => exact one_add_cast); (case r156zx => assumption); (case r156zj => exact lt_1000 (by assumption) (by assumption)); (case r156zh6 => rfl); k_whole)) | (with_unfolding_all (refine' sub_list ?r156zN ?r156zm ?r156zi ?r156zj ?r156zx ?_ ?r156zh6; (case r156zN => k_asm); (case r156zm => k_extra "mem"); (case r156zi => exact rfl); (case r156zx => assumption); (case r156zj => assumption); (case r156zh6 => rfl); k_whole))))
  k_with "call type:list" => ((k_dflt (refine' li_copyT ?r157zF ?r157zN ?r157zm ?r157zz ?_; (case r157zF => k_asm); (case r157zN => k_asm); (case r157zm => k_extra "mem"); (case r157zz => assumption)); intro zq_D' zq_c' zq_h' zq_F' zq_N' zq_l1; (try k_lt zq_l1); (try k_sweep)))
  k_with "setItem ref int" => ((k_dflt (refine' li_set ?r158zF ?r158zN ?r158zx ?r158zz ?r158zU ?_; (case r158zF => k_asm); (case r158zN => k_asm); (case r158zU => k_extra "upd"); (case r158zx => assumption); (case r158zz => assumption)); intro zq_h' zq_F' zq_N'; (try dsimp only [List.cons_append, List.nil_append] at zq_N'); (try k_sweep)))
  k_with "call type:tuple" => ((k_dflt (refine' kde_tupleOf ?r159zF ?r159zN ?r159zT ?r159zz ?r159ze ?_; (case r159zF => k_asm); (case r159zN => k_asm); (case r159zT => (refine' News.isList ?r159zy1 ?r159zy2; (case r159zy1 => k_asm); (case r159zy2 => k_extra "mem"))); (case r159zz => exact tup_sz (by rw [List.length_set]; assumption)); (case r159ze => exact rfl)); intro zq_D' zq_h' zq_F' zq_N' zq_l1; (try k_lt zq_l1); (try k_sweep)))
  k_with "subscriptTail Name Slice ref ref" => ((k_dflt (refine' kms_slice_lit ?r160F ?r160N ?r160l ?r160p ?r160q ?r160e ?_ ?r160s ?r160t ?r160z; (case r160F => k_asm); (case r160N => k_asm); (case r160l => (refine' News.isList ?r160zy1 ?r160zy2; (case r160zy1 => k_asm); (case r160zy2 => k_extra "mem"))); (case r160p => kmk_part); (case r160q => kmk_part); (case r160e => first | exact pick_take | exact pick_drop); (case r160s => with_unfolding_all rfl); (case r160t => kmk_pure); (case r160z => exact arr_sz (by assumption))); intro zq_D' zq_h' zq_F' zq_N' zq_l1; (try k_lt zq_l1); (try k_sweep)))
  k_with "binaryOp Add ref ref" => ((k_dflt (refine' li_add ?r161F ?r161N ?r161a ?r161b ?r161z ?_; (case r161F => k_asm); (case r161N => k_asm); (case r161a => k_extra "mem"); (case r161b => k_extra "mem"); (case r161z => first | exact len_tk1 (by assumption) | exact len_tk2 (by assumption))); intro zq_D' zq_h' zq_F' zq_N' zq_l1; (try k_lt zq_l1); (try k_sweep)))
  k_with "call builtin:isinstance" => ((k_dflt (first | (refine' isi_tup ?r162zF ?r162zX ?r162zN ?r162zm ?_; (case r162zF => k_asm); (case r162zX => k_asm); (case r162zN => k_asm); (case r162zm => k_extra "mem")) | (refine' isi_int ?r162zF ?r162zX ?r162zN ?_; (case r162zF => k_asm); (case r162zX => k_asm); (case r162zN => k_asm))); intro _))
  k_with "call" => ((with_reducible show wpAny _ _ (call (Value.ref 140) _) _ _ _); (k_dflt (refine' ct_use_rd (read_ct c hi ?y1 hlen ?y2 ?y3 ?y4) ?zh ?zA ?zf ?zk ?zd ?zu ?zB ?zF ?zX ?zN ?zT ?_; (case zN => k_asm); (case y1 => first | assumption | decide); (case y2 => k_extra "mem"); (case y3 => k_extra "mem"); (case y4 => k_extra "updF"); (case zh => k_extra "handled"); (case zA => k_extra "frames"); (case zf => exact rfl); (case zk => exact rfl); (case zd => k_extra "depth"); (case zu => k_extra "units"); (case zB => k_asm); (case zF => k_asm); (case zX => k_asm); (case zT => k_asm))); (intro k5 t5 p5 tp5 h' tk' F' N' hk0 hk1); (try dsimp only at N'); (obtain ⟨kj, rfl⟩ := Int.eq_ofNat_of_zero_le hk0); (obtain ⟨v8, q8, hv8, hv7, hq8, hpv⟩ := spot_at hva hk1); (rcases pt_cases hpv with ⟨n9, u9, e3, e4⟩ | ⟨o9, a1, b1, b2, b3, e3, e4, mm1⟩); (all_goals (subst e3; subst e4)); (try k_sweep))
  k_with "call" => ((with_reducible show wpAny _ _ (call (Value.ref 140) [.ref rl, .int 9 _]) _ _ _); (k_dflt (refine' ct_use_rd (read_ct c hi ?y1 hlen ?y2 ?y3 ?y4) ?zh ?zA ?zf ?zk ?zd ?zu ?zB ?zF ?zX ?zN ?zT ?_; (case zN => k_asm); (case y1 => first | assumption | decide); (case y2 => k_extra "mem"); (case y3 => k_extra "mem"); (case y4 => k_extra "updF"); (case zh => k_extra "handled"); (case zA => k_extra "frames"); (case zf => exact rfl); (case zk => exact rfl); (case zd => k_extra "depth"); (case zu => k_extra "units"); (case zB => k_asm); (case zF => k_asm); (case zX => k_asm); (case zT => k_asm))); (intro km t6 p6 tp6 h' tk' F' N' hj0 hj1); (try dsimp only at N'); (try k_sweep))
  k_with "call" => ((with_reducible show wpAny _ _ (call (Value.ref 140) [.ref rl, .int 2 _]) _ _ _); (k_dflt (refine' ct_use_rd (read_ct c hi ?y1 hlen ?y2 ?y3 ?y4) ?zh ?zA ?zf ?zk ?zd ?zu ?zB ?zF ?zX ?zN ?zT ?_; (case zN => k_asm); (case y1 => first | assumption | decide); (case y2 => k_extra "mem"); (case y3 => k_extra "mem"); (case y4 => k_extra "updF"); (case zh => k_extra "handled"); (case zA => k_extra "frames"); (case zf => exact rfl); (case zk => exact rfl); (case zd => k_extra "depth"); (case zu => k_extra "units"); (case zB => k_asm); (case zF => k_asm); (case zX => k_asm); (case zT => k_asm))); (intro km t6 p6 tp6 h' tk' F' N' hj0 hj1); (try dsimp only at N'); (try k_sweep))
  k_with "call" => ((with_reducible show wpAny _ _ (call (Value.ref 140) [.ref rl, .int (ws.length : Int) _]) _ _ _); (k_dflt (refine' ct_use_rd (read_ct c hi ?y1 hlen ?y2 ?y3 ?y4) ?zh ?zA ?zf ?zk ?zd ?zu ?zB ?zF ?zX ?zN ?zT ?_; (case zN => k_asm); (case y1 => first | assumption | decide); (case y2 => k_extra "mem"); (case y3 => k_extra "mem"); (case y4 => k_extra "updF"); (case zh => k_extra "handled"); (case zA => k_extra "frames"); (case zf => exact rfl); (case zk => exact rfl); (case zd => k_extra "depth"); (case zu => k_extra "units"); (case zB => k_asm); (case zF => k_asm); (case zX => k_asm); (case zT => k_asm))); (intro k5 t5 p5 tp5 h' tk' F' N' hk0 hk1); (try dsimp only at N'); (obtain ⟨kn, rfl⟩ := Int.eq_ofNat_of_zero_le hk0); (obtain ⟨ia, kd, tk9, nn9, vs9, ps9, hw9, hs9, hm9, hva, hwr9, hkn, hl2, hlv⟩ := real_at hall hwr hz hk1); have hlv2 : (Value.str kd.name tk9 :: vs9).length ≤ 1000000 := Nat.le_trans hlv (by decide); (try k_sweep))
  refine wpAny_call ?_
  k_dflt (refine' code_def (binds := [(PySem.Str.ofString "roll", .ref rl), (PySem.Str.ofString "real", .ref l)]) ?zk1 ?zk2 ?zk3 ?zk4 ?zk5 ?zkA ?zkF ?zkK ?zk6 ?zk7 ?zk8 ?zk9 ?zkB ?_ ?zc2 ?zc3 ?zc4 ?zc5; (case zkA => assumption); (case zkF => assumption); (case zkK => assumption); (case zk1 => k_asm); (case zk2 => k_asm); (case zk3 => k_asm); (case zk4 => k_asm); (case zk5 => k_asm); (case zk6 => k_is); (case zk7 => k_is); (case zk8 => omega); (case zk9 => exact BindsTo.of_eq rfl); (case zc5 => decide); (case zkB => exact locs rfl); (case zc2 => exact rfl); (case zc3 => exact rfl); (case zc4 => exact rfl); k_whole; intro g' L' h' FG' F' N' B' X' T'; (try dsimp only [List.reverse_cons, List.reverse_nil, List.nil_append, List.cons_append] at F'); (try dsimp only); (try k_fold))
  k_steps
  · rename Fr h₀ _ _ _ => F9
    rename News h₀ _ _ _ => N9
    exact ret _ _ _ _ F9 N9 (alt_ret hall hwr (fun q hq => .tail _ (.tail _ (.tail _ (.tail _ (.tail _ (.tail _ (.tail _ (.tail _ (.tail _ (hq)))))))))) hs9 hva hwr9 hq8 (.inl ⟨_, _, rfl, rfl⟩) (.head _) (.tail _ (.tail _ (.tail _ (.tail _ (.head _))))) .int)
  · rename Fr h₀ _ _ _ => F9
    rename News h₀ _ _ _ => N9
    exact ret _ _ _ _ F9 N9 (alt_ret hall hwr (fun q hq => .tail _ (.tail _ (.tail _ (.tail _ (.tail _ (.tail _ (.tail _ (.tail _ (.tail _ (.tail _ (hq))))))))))) hs9 hva hwr9 hq8 (.inr ⟨_, _, rfl, rfl⟩) (.head _) (.tail _ (.tail _ (.tail _ (.tail _ (.head _))))) (.op (.x (.tail _ (.tail _ (.tail _ (.tail _ (.tail _ (.tail _ (.head _))))))))))
end
section
set_option maxRecDepth 100000 in
set_option maxHeartbeats 0 in
theorem gets_ct (c : Cx) {rl ls cl : Addr} {vs cvs : List Value} {ns : List Int} {rows : List Row} {p : Nat} {ar : Int} {tp ta : Tok} {nl n2' nc : Nat} {keep : List (Addr × Obj)}
    (hi : IntsOf vs ns) (hlen : vs.length ≤ 1000) (h0 : 0 ≤ ar) (h3 : ar ≤ 3) (n1 : ls ≠ rl) (n2 : cl ≠ rl) (n3 : cl ≠ ls) (hG : GOk rl ls cl keep cvs rows) (hrl : rows.length ≤ 100) :
    Ct c 147 6 100 [.ref rl, .int ar ta, .ref cl] ((rl, rollO ls p tp nl) :: (ls, listOf vs.toArray n2') :: (cl, listOf cvs.toArray nc) :: keep)
      (fun _ news' => ∃ p' tp' cvs' nc' keep' rows', news' = (rl, rollO ls p' tp' nl) :: (ls, listOf vs.toArray n2') :: (cl, listOf cvs'.toArray nc') :: keep' ∧ GOk rl ls cl keep' cvs' rows' ∧ (∀ q ∈ keep, q ∈ keep') ∧ rows'.length ≤ rows.length + 6) := by
  unfold Ct PR
  k_fill
  intro A env outer A₀ base h₀ L m s Q E hh hA hf hke hd hu B F X N T ret
  k_with_none
  k_with "mem" => (first | with_reducible assumption | with_reducible exact List.mem_cons_self | (with_reducible refine List.mem_cons_of_mem _ ?_; k_extra "mem") | (with_reducible refine List.mem_append_left _ ?_; k_extra "mem") | (with_reducible refine List.mem_append_right _ ?_; k_extra "mem"))
  k_with "my_enter" => ((refine' code_def ?r2zk1 ?r2zk2 ?r2zk3 ?r2zk4 ?r2zk5 ?r2zkA ?r2zkF ?r2zkK ?r2zk6 ?r2zk7 ?r2zk8 ?r2zk9 ?r2zkB ?_ ?r2zc2 ?r2zc3 ?r2zc4 ?r2zc5; (case r2zkA => assumption); (case r2zkF => assumption); (case r2zkK => assumption); (case r2zk1 => k_asm); (case r2zk2 => k_asm); (case r2zk3 => k_asm); (case r2zk4 => k_asm); (case r2zk5 => k_asm); (case r2zk6 => k_is); (case r2zk7 => k_is); (case r2zk8 => omega); (case r2zk9 => exact BindsTo.of_eq rfl); (case r2zc5 => decide); (case r2zkB => exact locs rfl); (case r2zc2 => exact rfl); (case r2zc3 => exact rfl); (case r2zc4 => exact rfl); k_whole; intro zq_g' zq_L' zq_h' zq_FG' zq_F' zq_N' zq_B' zq_X' zq_T'; (try dsimp only); (try k_fold)))
  k_with "mysub" => (((with_reducible show wpAny _ _ (subscriptTail _ _ (Value.ref _) (Value.int _ _)) _ _ _); (with_unfolding_all first | (refine' sub_tup ?r3zN ?r3zm ?r3zi ?r3zj ?r3zx ?_ ?r3zh6; (case r3zN => k_asm); (case r3zm => k_extra "mem"); (case r3zi => exact rfl); (case r3zj => decide); (case r3zx => exact rfl); (case r3zh6 => rfl); k_whole) | (refine' sub_list ?r3zN ?r3zm ?r3zi ?r3zj ?r3zx ?_ ?r3zh6; (case r3zN => k_asm); (case r3zm => k_extra "mem"); (case r3zi => exact rfl); (case r3zj => omega); (case r3zx => assumption); (case r3zh6 => rfl); k_whole) | (refine' sub_list ?r3zN ?r3zm ?r3zi ?r3zj ?r3zx ?_ ?r3zh6; (case r3zN => k_asm); (case r3zm => k_extra "mem"); (case r3zi => exact rfl); (case r3zj => decide); (case r3zx => exact rfl); (case r3zh6 => rfl); k_whole) | (refine' di_item ?r3zN ?r3zm ?r3zd ?r3zv ?_ ?r3zh6; (case r3zN => k_asm); (case r3zm => k_extra "mem"); (case r3zd => with_reducible assumption); (case r3zv => with_reducible assumption); (case r3zh6 => rfl); k_whole; intro _) | (refine' ds_item ?r3zN ?r3zm ?r3zd ?r3zv ?_ ?r3zh6; (case r3zN => k_asm); (case r3zm => k_extra "mem"); (case r3zd => with_reducible assumption); (case r3zv => with_reducible assumption); (case r3zh6 => rfl); k_whole; intro _))))
  k_with "subscriptTail" => (k_extra "mysub")
  k_with "subscriptTail Name Constant ref int" => (k_extra "mysub")
  k_with "subscriptTail Name Name ref int" => (k_extra "mysub")
  k_with "subscriptTail Attribute Name Subscript Name Constant ref int" => (k_extra "mysub")
  k_with "getMethod ref" => (((with_reducible show wpAny _ _ (getMethod (Value.ref _) (PySem.Str.ofString "get") _) _ _ _); k_dflt (first | (refine' di_method ?r8zN ?r8zm ?r8zd ?_; (case r8zN => k_asm); (case r8zm => k_extra "mem"); (case r8zd => with_reducible assumption)) | (refine' ds_method ?r8zN ?r8zm ?r8zd ?_; (case r8zN => k_asm); (case r8zm => k_extra "mem"); (case r8zd => with_reducible assumption)))))
  k_with "call builtin:dict.get" => ((k_dflt (first | (refine' di_get ?r9zN ?r9zm ?r9zd ?r9zlo ?_; (case r9zN => k_asm); (case r9zm => k_extra "mem"); (case r9zd => with_reducible assumption); (case r9zlo => with_reducible assumption)) | (refine' ds_get ?r9zN ?r9zm ?r9zd ?r9zlo ?_; (case r9zN => k_asm); (case r9zm => k_extra "mem"); (case r9zd => with_reducible assumption); (case r9zlo => with_reducible assumption))); intro _))
  k_with "compareOp NotIn int ref" => ((k_dflt (refine' di_notin2 ?r10zN ?r10zm ?r10zd ?r10zlo ?_ ?_; (case r10zN => k_asm); (case r10zm => k_extra "mem"); (case r10zd => with_reducible assumption); (case r10zlo => with_reducible assumption)); intros))
  k_with "ite" => (with_reducible first | refine ite_t ?_ | refine ite_f ?_ | (refine' ite_bt ?r11zh ?_; (case r11zh => assumption)) | (refine' ite_bf ?r11zh ?_; (case r11zh => assumption)))
  k_with "opAt" => (first | with_reducible assumption | (refine' OpAt.mono ?r12zs ?r12zh; (case r12zh => with_reducible assumption); (case r12zs => k_extra "sub")) | (refine' OpAt.t ?r12zq; (case r12zq => k_extra "mem")) | (refine' OpAt.a ?r12zq; (case r12zq => k_extra "mem")) | (refine' OpAt.y ?r12zq; (case r12zq => k_extra "mem")) | (refine' OpAt.x ?r12zq; (case r12zq => k_extra "mem")))
  k_with "units" => (first | exact un1 (by with_reducible assumption) rfl | exact un0 (by with_reducible assumption) rfl | exact un2 (by with_reducible assumption) rfl | (simp only [units_in1, units_deeper, Around.mark_units, units_caller] at *; omega))
  k_with "compareOp Eq ref ref" => ((k_dflt (refine' op_eq ?r14zN ?r14za ?r14zb ?r14zu ?_; (case r14zN => k_asm); (case r14za => k_extra "opAt"); (case r14zb => k_extra "opAt"); (case r14zu => k_extra "units"); k_whole)))
  k_with "compareOp NotEq ref ref" => ((k_dflt (refine' op_ne ?r15zN ?r15za ?r15zb ?r15zu ?_; (case r15zN => k_asm); (case r15za => k_extra "opAt"); (case r15zb => k_extra "opAt"); (case r15zu => k_extra "units"); k_whole)))
  k_with "ne" => (first | with_reducible assumption | with_reducible exact Ne.symm (by with_reducible assumption) | with_reducible exact lt_ne_1 (by with_reducible assumption) | with_reducible exact lt_ne_2 (by with_reducible assumption) | with_reducible exact lt_ne_3 (by with_reducible assumption) | with_reducible exact lt_ne_4 (by with_reducible assumption) | with_reducible exact lt_ne_5 (by with_reducible assumption) | with_reducible exact lt_ne_6 (by with_reducible assumption) | with_reducible exact lt_ne_7 (by with_reducible assumption) | with_reducible exact lt_ne_8 (by with_reducible assumption) | with_reducible exact Ne.symm (lt_ne_1 (by with_reducible assumption)) | with_reducible exact Ne.symm (lt_ne_2 (by with_reducible assumption)) | with_reducible exact Ne.symm (lt_ne_3 (by with_reducible assumption)) | with_reducible exact Ne.symm (lt_ne_4 (by with_reducible assumption)) | with_reducible exact Ne.symm (lt_ne_5 (by with_reducible assumption)) | with_reducible exact Ne.symm (lt_ne_6 (by with_reducible assumption)) | with_reducible exact Ne.symm (lt_ne_7 (by with_reducible assumption)) | with_reducible exact Ne.symm (lt_ne_8 (by with_reducible assumption)) | omega)
  k_with "allne" => (first | with_reducible assumption | (refine' ne_of_lt_all ?r17zz; (case r17zz => with_reducible assumption)) | (refine' ne_of_fresh ?r17zz ?r17zm; (case r17zz => with_reducible assumption); (case r17zm => k_extra "mem")) | exact List.forall_mem_nil _ | (refine' List.forall_mem_cons.mpr ⟨?r17za, ?r17zb⟩; (case r17za => ((try dsimp only); k_extra "ne")); (case r17zb => k_extra "allne")))
  k_with "updF" => (first | (refine' UpdF.head ?r18za; (case r18za => k_extra "allne")) | (refine' UpdF.tail ?r18za ?r18zb; (case r18za => ((try dsimp only); k_extra "ne")); (case r18zb => k_extra "updF")))
  k_with "setItem ref int" => ((k_dflt (first | (refine' di_set ?r19zF ?r19zN ?r19zU ?r19zd ?r19zz ?_; (case r19zF => k_asm); (case r19zN => k_asm); (case r19zU => k_extra "updF"); (case r19zd => with_reducible assumption); (case r19zz => omega)) | (refine' ds_set ?r19zF ?r19zN ?r19zU ?r19zd ?r19zz ?_; (case r19zF => k_asm); (case r19zN => k_asm); (case r19zU => k_extra "updF"); (case r19zd => with_reducible assumption); (case r19zz => omega))); intro zq_h' zq_o' zq_F' zq_N' zq_hd'; (try dsimp only at zq_N'); (try k_sweep)))
  k_with "ifline" => (first | ((with_reducible refine' if_ne ?r20zF ?r20zv ?r20zn ?_ ?r20zk ?r20zl ?r20zd); (case r20zF => k_asm); (case r20zv => with_unfolding_all rfl); (case r20zn => decide +kernel); (case r20zk => rfl); (case r20zl => rfl); (case r20zd => decide); intro _) | ((with_reducible refine' if_eq ?r20zF ?r20zv ?r20zn ?_ ?r20zk ?r20zl ?r20zd); (case r20zF => k_asm); (case r20zv => with_unfolding_all rfl); (case r20zn => decide +kernel); (case r20zk => rfl); (case r20zl => rfl); (case r20zd => decide); intro _; dsimp only) | ((with_reducible refine' ifo_ne ?r20zF ?r20zv ?r20zn ?_ ?r20zk ?r20zl ?r20zd); (case r20zF => k_asm); (case r20zv => with_unfolding_all rfl); (case r20zn => decide +kernel); (case r20zk => rfl); (case r20zl => rfl); (case r20zd => decide); intro _) | ((with_reducible refine' ifo_eq ?r20zF ?r20zv ?r20zn ?_ ?r20zk ?r20zl ?r20zd); (case r20zF => k_asm); (case r20zv => with_unfolding_all rfl); (case r20zn => decide +kernel); (case r20zk => rfl); (case r20zl => rfl); (case r20zd => decide); intro _; dsimp only))
  k_with "execs cons" => (((with_reducible show wpAny _ _ (execs (Stmt.If _ _ _ _ :: _) _) _ _ _); k_dflt (k_extra "ifline")))
  k_with "ltall" => (first | assumption | exact tb_ltOf (by assumption) | (refine' tb_ltOf (And.right ?r22zz); (case r22zz => assumption)) | (refine' tb_ltOf (And.right (And.right ?r22zz)); (case r22zz => assumption)) | (refine' tb_ltOf (And.right (And.right (And.right ?r22zz))); (case r22zz => assumption)))
  k_with "fresh" => (first | exact FreshOver.nil | (refine' FreshOver.cons ?r23za ?r23zb; (case r23za => ((try dsimp only); k_extra "ltall")); (case r23zb => k_extra "fresh")))
  k_with "pairs" => (first | exact All2.nil | (refine' All2.cons ?r24za ?r24zb; (case r24za => (refine' PairAt.mk ?r24zc; (case r24zc => k_extra "mem"))); (case r24zb => k_extra "pairs")))
  k_with "upd" => (first | (refine' upd_app ?r25za ?r25zb; (case r25za => k_extra "allne"); (case r25zb => k_extra "upd")) | (refine' Upd.head ?r25za; (case r25za => k_extra "allne")) | (refine' Upd.tail ?r25za ?r25zb; (case r25za => ((try dsimp only); k_extra "ne")); (case r25zb => k_extra "upd")))
  k_with "setAttr ref" => ((k_dflt (refine' set_dict ?r26zF ?r26zX ?r26zN ?r26zI ?r26zd ?r26zs ?r26zp ?r26zt ?r26zh ?r26zl ?r26ze ?r26zU ?r26zz ?_; (case r26zF => k_asm); (case r26zX => k_asm); (case r26zN => k_asm); (case r26zI => k_inst); (case r26zd => exact rfl); (case r26zs => k_is); (case r26zp => k_is); (case r26zt => k_is); (case r26zh => k_is); (case r26zl => k_get); (case r26ze => k_put); (case r26zU => k_extra "upd"); (case r26zz => exact Nat.le_of_ble_eq_true rfl)); intro zq_h' zq_F' zq_N'; (try k_sweep)))
  k_with "compareOp Eq" => ((k_dflt (refine' pt_eq ?r27zN ?r27za ?r27zb ?r27zu ?_; (case r27zN => k_asm); (case r27za => with_reducible assumption); (case r27zb => with_reducible assumption); (case r27zu => k_extra "units"); k_whole)))
  k_with "compareOp NotEq" => ((k_dflt (refine' pt_ne ?r28zN ?r28za ?r28zb ?r28zu ?_; (case r28zN => k_asm); (case r28za => with_reducible assumption); (case r28zb => with_reducible assumption); (case r28zu => k_extra "units"); k_whole)))
  k_with "exec While Compare cons nil" => (first | ((k_dflt (k_extra "while")); (all_goals ((try ((try k_unmd); k_unfold; clear gG)); (try k_unmd); (try k_fold)))) | (k_here; (try k_fold); k_dflt (refine whl_start 100 ?_)))
  k_with "call builtin:isinstance" => ((k_dflt (first | (refine' isi_tup ?r30zF ?r30zX ?r30zN ?r30zm ?_; (case r30zF => k_asm); (case r30zX => k_asm); (case r30zN => k_asm); (case r30zm => k_extra "mem")) | (refine' isi_int ?r30zF ?r30zX ?r30zN ?_; (case r30zF => k_asm); (case r30zX => k_asm); (case r30zN => k_asm))); intro _))
  k_with "eval Name" => (((with_reducible refine' ldq ?r31zF ?r31zv ?r31zk ?r31zl ?r31zd ?_); (case r31zF => with_reducible assumption); (case r31zl => decide +kernel); (case r31zd => decide +kernel); (case r31zv => k_dflt (first | with_reducible assumption | exact @rfl _ (some _) | assumption)); (case r31zk => exact rfl)))
  k_with "TurnPost" => ((first | (with_reducible refine TurnPost.retI ?_) | (with_reducible refine TurnPost.nextI ?_)))
  k_with "exec For" => (((rename Fr _ _ _ _ => zq_lF'); (with_unfolding_all refine' For_invVF zq_lF' ?r33zk1 ?r33zk2 ?_; (case r33zk1 => exact rfl); (case r33zk2 => exact rfl); k_whole)))
  k_with "exec For Name Attribute cons nil" => (walk_at "exec For")
  k_with "exec For Name Name cons nil" => (walk_at "exec For")
  k_with "exec For Name Call cons nil" => (walk_at "exec For")
  k_with "rowAt" => (with_reducible assumption)
  k_with "depth" => (first | exact dp1 (by with_reducible assumption) rfl | exact dp0 (by with_reducible assumption) rfl | exact dp2 (by with_reducible assumption) rfl | (simp only [depth_under_make, depth_under_kw, depth_in1, depth_deeper, depth_caller] at *; omega))
  k_with "exec If" => (first | k_dflt (k_extra "if") | ((with_reducible refine wpAny_If ?_); (try dsimp only)))
  k_with "exec If Compare cons nil" => (walk_at "exec If")
  k_with "exec If BoolOp cons nil" => (walk_at "exec If")
  k_with "exec If Call cons nil" => (walk_at "exec If")
  k_with "exec If UnaryOp cons nil" => (walk_at "exec If")
  k_with "exec If Compare cons cons" => (walk_at "exec If")
  k_with "exec If BoolOp cons cons" => (walk_at "exec If")
  k_with "eval Call" => (((fail_if_success (with_reducible show wpAny _ _ (eval (Expr.Call (Expr.Name (PySem.Str.ofString "range") _) _ _ _) _) _ _ _)); (with_reducible show wpAny _ _ (eval (Expr.Call (Expr.Name _ _) _ _ _) _) _ _ _); k_dflt (refine Call_ ?_)))
  k_with "eval Call Attribute" => ((k_dflt (refine MethodCall_ ?_)))
  k_with "handled" => (first | assumption | exact rfl)
  k_with "frames" => (first | exact rfl | (refine' frames_deeper ?r49zz; (case r49zz => assumption)))
  k_with "pyIter ref" => (((k_dflt (k_extra "loop")); (all_goals ((try ((try k_unmd); k_unfold; clear gG)); (try dsimp only); (try k_unmd); (try k_fold)))))
  k_with "call ref" => (k_dflt (k_extra "call"))
  k_with "sub" => (first | with_reducible assumption | with_reducible exact sub_refl | (with_reducible refine sub_cons ?_; k_extra "sub") | (with_reducible refine sub_app ?_; k_extra "sub"))
  k_with "call builtin:list.append" => ((k_dflt (refine' app_l ?r53zF ?r53zN ?r53zU ?r53zz ?_; (case r53zF => k_asm); (case r53zN => k_asm); (case r53zU => k_extra "upd"); (case r53zz => exact Nat.le_of_ble_eq_true rfl)); intro zq_h' zq_F' zq_N'; (try dsimp only [List.cons_append, List.nil_append] at zq_N'); (try k_sweep)))
  k_with "compareOp In ref ref" => ((k_dflt (first | (refine' in_ops0 ?r54zN ?r54zl ?r54zo ?r54zu ?_; (case r54zN => k_asm); (case r54zl => k_extra "mem"); (case r54zo => k_extra "opAt"); (case r54zu => k_extra "units")) | (refine' in_ops1 ?r54zN ?r54zl ?r54zv ?r54zo ?r54zu ?_; (case r54zN => k_asm); (case r54zl => k_extra "mem"); (case r54zv => k_extra "opAt"); (case r54zo => k_extra "opAt"); (case r54zu => k_extra "units")))))
  k_with "assign Tuple" => ((k_dflt (refine' unpackN_ ?r55zF ?r55zN ?r55zT ?r55zh ?r55z2 ?r55z3 ?_; (case r55zF => k_asm); (case r55zN => k_asm); (case r55zT => (refine' News.isTup ?r55zy1 ?r55zy2; (case r55zy1 => k_asm); (case r55zy2 => k_extra "mem"))); (case r55zh => k_extra "handled"); (case r55z2 => exact rfl); (case r55z3 => exact rfl)); intro zq_h' zq_F' zq_N'; (try k_sweep)))
  k_with "WPost" => ((first | (with_reducible refine WPost.retI ?_) | (with_reducible refine WPost.nextI ?_)))
  k_with "WhlIf" => (((first | (refine' WhlIf.yes ?r57zz ?_; (case r57zz => (refine decide_eq_true ?_; omega))) | (refine' WhlIf.no ?r57zz ?_; (case r57zz => (refine decide_eq_false ?_; omega)))); (try dsimp only); (try k_unmd); (try k_fold)))
  k_with "call builtin:len" => ((k_dflt (refine' len_l ?r58zN ?r58zm ?r58zz ?_; (case r58zN => k_asm); (case r58zm => k_extra "mem"); (case r58zz => first | exact Nat.le_of_ble_eq_true rfl | omega)); intro _ _))
  k_with "loadName" => (((with_reducible refine' ldnq ?r59zF ?r59zv ?r59zk ?r59zl ?_); (case r59zF => with_reducible assumption); (case r59zl => decide +kernel); (case r59zv => k_dflt (first | with_reducible assumption | exact @rfl _ (some _) | assumption)); (case r59zk => exact rfl)))
  k_with "kv" => (with_reducible first | exact kv_held | exact kv_temps | exact kv_given | exact kv_out | exact kv_count)
  k_with "stitem" => ((k_dflt (refine' st_item ?r61zN ?r61zm ?r61zd ?r61zv ?_ ?r61zh6; (case r61zN => k_asm); (case r61zm => k_extra "mem"); (case r61zd => with_reducible assumption); (case r61zv => k_extra "kv"); (case r61zh6 => with_unfolding_all rfl))))
  k_with "subscriptTail Name Constant ref str" => (k_extra "stitem")
  k_with "call type:range" => ((k_dflt (first | (refine' range1_rows ?r63zF ?r63zN ?_; (case r63zF => k_asm); (case r63zN => k_asm)) | (refine' range2_rows ?r63zF ?r63zN ?_; (case r63zF => k_asm); (case r63zN => k_asm))); intro zq_h' zq_tk' zq_t9 zq_u9 zq_w9 zq_R' zq_F' zq_N' zq_kp'; clear zq_kp'; (try k_sweep)))
  k_with "TurnPost" => ((with_reducible refine TurnPost.contI ?_))
  k_with "unpackItems ref" => ((k_dflt (refine' unpackItemsN_ ?r65zF ?r65zN ?r65zT ?r65zh ?r65z2 ?_; (case r65zF => k_asm); (case r65zN => k_asm); (case r65zT => (refine' News.isTup ?r65zy1 ?r65zy2; (case r65zy1 => k_asm); (case r65zy2 => k_extra "mem"))); (case r65zh => k_extra "handled"); (case r65z2 => exact rfl)); intro zq_h' zq_F' zq_N'; (try k_sweep)))
  k_with "storeName" => (((k_dflt (refine' store_let ?r66zF ?r66zN ?_ ?r66za ?r66zb; (case r66zF => k_asm); (case r66zN => k_asm); (case r66za => rfl); (case r66zb => rfl); k_whole)); (intro zq_mk zq_h' zq_F' zq_N'); (try k_sweep)))
  k_with "callWith" => (((with_reducible show wpAny _ _ (callWith _ (Value.builtin "list.append") _ _ _) _ _ _); (k_dflt (refine callWith_method1 ?_))))
  k_with "ne" => (first | with_reducible assumption | with_reducible exact Ne.symm (by with_reducible assumption) | with_reducible exact lt_ne_1 (by with_reducible assumption) | with_reducible exact lt_ne_2 (by with_reducible assumption) | with_reducible exact lt_ne_3 (by with_reducible assumption) | with_reducible exact lt_ne_4 (by with_reducible assumption) | with_reducible exact lt_ne_5 (by with_reducible assumption) | with_reducible exact lt_ne_6 (by with_reducible assumption) | with_reducible exact lt_ne_7 (by with_reducible assumption) | with_reducible exact lt_ne_8 (by with_reducible assumption) | omega)
  k_with "call builtin:list.append" => ((k_dflt (refine' app_l ?r164zF ?r164zN ?r164zU ?r164zz ?_; (case r164zF => k_asm); (case r164zN => k_asm); (case r164zU => k_extra "upd"); (case r164zz => first | exact app_len0 (by assumption) | exact app_len1 (by assumption) | exact app_len2 (by assumption))); intro zq_h' zq_F' zq_N'; (try dsimp only [List.cons_append, List.nil_append] at zq_N'); (try k_sweep)))
  k_with "call" => ((with_reducible show wpAny _ _ (call (Value.ref 140) _) _ _ _); (k_dflt (refine' ct_use_rd (read_ct c hi ?y1 hlen ?y2 ?y3 ?y4) ?zh ?zA ?zf ?zk ?zd ?zu ?zB ?zF ?zX ?zN ?zT ?_; (case zN => k_asm); (case y1 => decide); (case y2 => k_extra "mem"); (case y3 => k_extra "mem"); (case y4 => k_extra "updF"); (case zh => k_extra "handled"); (case zA => k_extra "frames"); (case zf => exact rfl); (case zk => exact rfl); (case zd => k_extra "depth"); (case zu => k_extra "units"); (case zB => k_asm); (case zF => k_asm); (case zX => k_asm); (case zT => k_asm))); (intro k5 t5 p5 tp5 h' tk' F' N' hk0 hk1); (try dsimp only at N'); (try k_sweep))
  k_with "loop" => (
    (rename Fr _ _ _ _ => lF'); (rename News _ _ _ _ => lN'); (rename IsRange _ _ _ _ _ _ _ _ => lR')
    refine ra_iter (n := ar.toNat) (fun i m nx => ∃ p tp cvs' nc keep' rows', m (PySem.Str.ofString "roll") = some (.ref rl) ∧ m (PySem.Str.ofString "code") = some (.ref cl) ∧ nx = (rl, rollO ls p tp nl) :: (ls, listOf vs.toArray n2') :: (cl, listOf (cvs' : List Value).toArray nc) :: keep' ∧ GOk rl ls cl keep' cvs' rows' ∧ (∀ q ∈ keep, q ∈ keep') ∧ rows'.length ≤ rows.length + 2 * i)
      (by assumption) lR' (range_in h0 h3).1 (range_in h0 h3).2 lF' lN' ⟨p, tp, cvs, nc, keep, rows, rfl, rfl, rfl, hG, fun _ h => h, by omega⟩ (fun i ti m₁ nx h' tk' own hi9 hoff hJ F' N' => ?_) (fun m₁ nx h' tk' hJ F' N' => ?_)
    all_goals (
      clear lF' lN' lR'
      (show (let gG : Prop := _; gG)); intro gG; obtain ⟨p9, tp9, cvs', nc', keep', rows', hm1, hm2, hnx, hG', hsk, hrl'⟩ := hJ; k_unfold; clear gG
      subst hnx
      change Fr g' L' h' _ at F'
      change News g' L' h' _ at N'
      (try dsimp only))
    dsimp only [List.cons_append] at N'
    have hcl := all2_length hG'.all
    have hcz : cvs'.length ≤ 900 := by omega
    have ho3 : Off cl (keep' ++ own) := fun q hq => (List.mem_append.mp hq).elim (hG'.o3 q) fun hq => hoff q hq cl (by simp)
    have ho2 : Off ls (keep' ++ own) := fun q hq => (List.mem_append.mp hq).elim (hG'.o2 q) fun hq => hoff q hq ls (by simp)
    have ho1 : Off rl (keep' ++ own) := fun q hq => (List.mem_append.mp hq).elim (hG'.o1 q) fun hq => hoff q hq rl (by simp))
  refine wpAny_call ?_
  k_dflt (refine' code_def (binds := [(PySem.Str.ofString "roll", .ref rl), (PySem.Str.ofString "arity", .int ar ta), (PySem.Str.ofString "code", .ref cl)]) ?zk1 ?zk2 ?zk3 ?zk4 ?zk5 ?zkA ?zkF ?zkK ?zk6 ?zk7 ?zk8 ?zk9 ?zkB ?_ ?zc2 ?zc3 ?zc4 ?zc5; (case zkA => assumption); (case zkF => assumption); (case zkK => assumption); (case zk1 => k_asm); (case zk2 => k_asm); (case zk3 => k_asm); (case zk4 => k_asm); (case zk5 => k_asm); (case zk6 => k_is); (case zk7 => k_is); (case zk8 => omega); (case zk9 => exact BindsTo.of_eq rfl); (case zc5 => decide); (case zkB => exact locs rfl); (case zc2 => exact rfl); (case zc3 => exact rfl); (case zc4 => exact rfl); k_whole; intro g' L' h' FG' F' N' B' X' T'; (try dsimp only [List.reverse_cons, List.reverse_nil, List.nil_append, List.cons_append] at F'); (try dsimp only); (try k_fold))
  k_steps
  · rename Fr g' _ _ _ => F9
    rename News g' _ _ _ => N9
    refine gen_push [_, _, _] F9 N9 ⟨by assumption, by assumption, by assumption, trivial⟩ hoff hG' (fun hG9 => ?_)
    refine' ⟨_, _, cvs' ++ [_], _, _, rows' ++ [⟨.getVar, [.op (.t k5), .op (.a (1 + (i : Int)))]⟩], hm1, hm2, rfl, (GOk.add hG9 ?r0 ?w0 ?t0), fun q hq => List.mem_append_right _ (hsk q hq), ?z⟩
    case r0 => exact row2 (k := .getVar) (.head _) rfl (.op (.t (.tail _ (.tail _ (.head _))))) (.op (.a (.tail _ (.head _))))
    case w0 => constructor
    case t0 => (intro k hk; simp at hk; first | done | (subst hk; exact ⟨by assumption, by assumption⟩))
    case z => (try simp only [List.length_append, List.length_cons, List.length_nil]); omega
  · rename Fr g' _ _ _ => F9
    rename News g' _ _ _ => N9
    refine gen_push [_, _, _, _] F9 N9 ⟨by assumption, by assumption, by assumption, by assumption, trivial⟩ hoff hG' (fun hG9 => ?_)
    refine' ⟨_, _, cvs' ++ [_] ++ [_], _, _, rows' ++ [⟨.getStr, [.int 8, .op (.a (1 + (i : Int)))]⟩] ++ [⟨.uniVar, [.op (.t k5)]⟩], hm1, hm2, rfl, (GOk.add (GOk.add hG9 ?r0 ?w0 ?t0) ?r1 ?w1 ?t1), fun q hq => List.mem_append_right _ (hsk q hq), ?z⟩
    case r0 => exact row2 (k := .getStr) (.tail _ (.head _)) rfl .int (.op (.a (.tail _ (.tail _ (.head _)))))
    case w0 => constructor
    case t0 => (intro k hk; simp at hk; first | done | (subst hk; exact ⟨by assumption, by assumption⟩))
    case r1 => exact row1 (k := .uniVar) (.head _) rfl (.op (.t (.tail _ (.tail _ (.tail _ (.head _))))))
    case w1 => constructor
    case t1 => (intro k hk; simp at hk; first | done | (subst hk; exact ⟨by assumption, by assumption⟩))
    case z => (try simp only [List.length_append, List.length_cons, List.length_nil]); omega
  · rename Fr g' _ _ _ => F9
    rename News g' _ _ _ => N9
    refine gen_push [_, _, _, _] F9 N9 ⟨by assumption, by assumption, by assumption, by assumption, trivial⟩ hoff hG' (fun hG9 => ?_)
    refine' ⟨_, _, cvs' ++ [_], _, _, rows' ++ [⟨.getVal, [.op (.y 1), .op (.a (1 + (i : Int)))]⟩], hm1, hm2, rfl, (GOk.add hG9 ?r0 ?w0 ?t0), fun q hq => List.mem_append_right _ (hsk q hq), ?z⟩
    case r0 => exact row2 (k := .getVal) (.head _) rfl (.op (.y (.tail _ (.tail _ (.head _))))) (.op (.a (.tail _ (.head _))))
    case w0 => constructor
    case t0 => (intro k hk; simp at hk; first | done | (subst hk; exact ⟨by assumption, by assumption⟩))
    case z => (try simp only [List.length_append, List.length_cons, List.length_nil]); omega
  · rename Fr g' _ _ _ => F9
    rename News g' _ _ _ => N9
    refine gen_push [_, _, _] F9 N9 ⟨by assumption, by assumption, by assumption, trivial⟩ hoff hG' (fun hG9 => ?_)
    refine' ⟨_, _, cvs' ++ [_], _, _, rows' ++ [⟨.getVal, [.op (.t k5), .op (.a (1 + (i : Int)))]⟩], hm1, hm2, rfl, (GOk.add hG9 ?r0 ?w0 ?t0), fun q hq => List.mem_append_right _ (hsk q hq), ?z⟩
    case r0 => exact row2 (k := .getVal) (.head _) rfl (.op (.t (.tail _ (.tail _ (.head _))))) (.op (.a (.tail _ (.head _))))
    case w0 => constructor
    case t0 => (intro k hk; simp at hk; first | done | (subst hk; exact ⟨by assumption, by assumption⟩))
    case z => (try simp only [List.length_append, List.length_cons, List.length_nil]); omega
  · rename Fr g' _ _ _ => F9
    rename News g' _ _ _ => N9
    refine gen_push [_] F9 N9 ⟨by assumption, trivial⟩ hoff hG' (fun hG9 => ?_)
    refine' ⟨_, _, cvs', _, _, rows', hm1, hm2, rfl, hG9, fun q hq => List.mem_append_right _ (hsk q hq), ?z⟩
    case z => (try simp only [List.length_append, List.length_cons, List.length_nil]); omega
  · rename Fr h₀ _ _ _ => F9
    rename News h₀ _ _ _ => N9
    exact ret _ _ _ _ F9 N9 ⟨_, _, cvs', _, keep', rows', rfl, hG', hsk, by omega⟩
end
section
theorem GOk.grow0 {rl ls cl : Addr} {keep : List (Addr × Obj)} {cvs : List Value} {rows : List Row} {D : List (Addr × Obj)} {a b d : Obj} (h : GOk rl ls cl keep cvs rows) (hf : FreshCh D ((rl, a) :: (ls, b) :: (cl, d) :: keep)) : GOk rl ls cl (D ++ keep) cvs rows :=
  ⟨h.all.mono fun _ _ x => x.mono fun _ hp => List.mem_append_right _ hp, h.rg, fresh_off (x := (rl, a)) hf (.head _) h.o1, fresh_off (x := (ls, b)) hf (.tail _ (.head _)) h.o2, fresh_off (x := (cl, d)) hf (.tail _ (.tail _ (.head _))) h.o3⟩
theorem range_in1 {k : Int} (h0 : 0 ≤ k) (h3 : k < 4) : Builtin.Range.small 1 (1 + k) 1 = true ∧ Builtin.Range.rangeSize 1 (1 + k) 1 = (k.toNat : Int) := by
  obtain rfl | rfl | rfl | rfl : k = 0 ∨ k = 1 ∨ k = 2 ∨ k = 3 := by omega
  all_goals exact ⟨by decide, by decide⟩
theorem guard3 {x : Int} {P : Prop} (_ : x = 3) (p : P) : P := p
theorem rot3 {d a b e : Addr × Obj} {k : List (Addr × Obj)} : ∀ p ∈ a :: b :: e :: ([d] ++ k), p ∈ d :: a :: b :: e :: k := by
  intro p hp
  simp only [List.mem_cons, List.mem_append, List.not_mem_nil, or_false] at hp ⊢
  rcases hp with h | h | h | h | h <;> simp only [h, true_or, or_true]
structure GB (rl ls cl : Addr) (base keep : List (Addr × Obj)) (cvs : List Value) (rows : List Row) : Prop where
  all : All2 (RowAt base) cvs rows
  rg : ∀ r ∈ rows, WA r ∧ Tok4 r
  o1 : Off rl keep
  o2 : Off ls keep
  o3 : Off cl keep
theorem GB.add {rl ls cl : Addr} {base keep : List (Addr × Obj)} {cvs : List Value} {rows : List Row} {v : Value} {r : Row} (h : GB rl ls cl base keep cvs rows) (hr : RowAt base v r) (hw : WA r) (ht : Tok4 r) : GB rl ls cl base keep (cvs ++ [v]) (rows ++ [r]) :=
  ⟨all2_append h.all hr, fun x hx => (List.mem_append.mp hx).elim (h.rg x) fun hx => by rw [List.mem_singleton.mp hx]; exact ⟨hw, ht⟩, h.o1, h.o2, h.o3⟩
theorem GB.grow0 {rl ls cl : Addr} {base keep : List (Addr × Obj)} {cvs : List Value} {rows : List Row} {D : List (Addr × Obj)} {a b d : Obj} (h : GB rl ls cl base keep cvs rows) (hf : FreshCh D ((rl, a) :: (ls, b) :: (cl, d) :: keep)) : GB rl ls cl (D ++ base) (D ++ keep) cvs rows :=
  ⟨h.all.mono fun _ _ x => x.mono fun _ hp => List.mem_append_right _ hp, h.rg, fresh_off (x := (rl, a)) hf (.head _) h.o1, fresh_off (x := (ls, b)) hf (.tail _ (.head _)) h.o2, fresh_off (x := (cl, d)) hf (.tail _ (.tail _ (.head _))) h.o3⟩
theorem fresh_ch {D T K X : List (Addr × Obj)} (hf : FreshCh D X) (hs : ∀ p ∈ K, p ∈ X) (h : FreshOver T K) : FreshOver (D ++ T) K := fun q hq p hp => (List.mem_append.mp hq).elim (fun hq => fresh_lt hf q hq p (hs p hp)) fun hq => h q hq p hp
theorem GB.grow {rl ls cl : Addr} {base keep own : List (Addr × Obj)} {cvs : List Value} {rows : List Row} {D : List (Addr × Obj)} {a b d : Obj} (h : GB rl ls cl base keep cvs rows) (hf : FreshCh D ((rl, a) :: (ls, b) :: (cl, d) :: (keep ++ own))) : GB rl ls cl (D ++ base) (D ++ keep) cvs rows :=
  ⟨h.all.mono fun _ _ x => x.mono fun _ hp => List.mem_append_right _ hp, h.rg, fresh_off (x := (rl, a)) hf (.head _) h.o1, fresh_off (x := (ls, b)) hf (.tail _ (.head _)) h.o2, fresh_off (x := (cl, d)) hf (.tail _ (.tail _ (.head _))) h.o3⟩
theorem gen_pushB {h₀ : Heap} {L : Addr} {J : (PySem.Str → Option Value) → List (Addr × Obj) → Prop} {own : List (Addr × Obj)} {s₁ : Shared} {m' : PySem.Str → Option Value} {h' : Heap} {tk : Nat} {rl ls cl : Addr} {a b d : Obj} {base T K : List (Addr × Obj)} {cvs : List Value} {rows : List Row} (D : List (Addr × Obj))
    (F : Fr h₀ L h' m') (N : News h₀ L h' (D ++ ((rl, a) :: (ls, b) :: (cl, d) :: (T ++ K ++ own)))) (hf : FreshCh D ((rl, a) :: (ls, b) :: (cl, d) :: (T ++ K ++ own))) (ho : OwnOff own (rl :: ls :: cl :: (T ++ K).map (·.1))) (hG : GB rl ls cl base (T ++ K) cvs rows) (hT : FreshOver T K)
    (hj : GB rl ls cl (D ++ base) (D ++ (T ++ K)) cvs rows → FreshOver (D ++ T) K → J m' ((rl, a) :: (ls, b) :: (cl, d) :: (D ++ (T ++ K)))) :
    TurnEnd h₀ L J own s₁ { s₁ with heap := h', toks := tk } := gen_end D F N hf ho (hj (hG.grow hf) (fresh_ch hf (fun p hp => by simp only [List.mem_cons, List.mem_append]; simp only [hp, or_true, true_or]) hT))
end
section
set_option maxRecDepth 100000 in
set_option maxHeartbeats 0 in
theorem puts_ct (c : Cx) {rl ls cl : Addr} {vs cvs : List Value} {ns : List Int} {rows : List Row} {p : Nat} {tp : Tok} {nl n2' nc : Nat} {kb xo : List (Addr × Obj)}
    (hi : IntsOf vs ns) (hlen : vs.length ≤ 1000) (n1 : ls ≠ rl) (n2 : cl ≠ rl) (n3 : cl ≠ ls) (hG : GB rl ls cl kb (kb ++ xo) cvs rows) (hrl : rows.length ≤ 100) :
    Ct c 154 6 100 [.ref rl, .ref cl] ((rl, rollO ls p tp nl) :: (ls, listOf vs.toArray n2') :: (cl, listOf cvs.toArray nc) :: (kb ++ xo))
      (fun _ news' => ∃ p' tp' cvs' nc' T' rows', news' = (rl, rollO ls p' tp' nl) :: (ls, listOf vs.toArray n2') :: (cl, listOf cvs'.toArray nc') :: (T' ++ (kb ++ xo)) ∧ GB rl ls cl (T' ++ kb) (T' ++ (kb ++ xo)) cvs' rows' ∧ FreshOver T' (kb ++ xo) ∧ rows'.length ≤ rows.length + 10 ∧ 1 ≤ rows'.length) := by
  unfold Ct PR
  k_fill
  intro A env outer A₀ base h₀ L m s Q E hh hA hf hke hd hu B F X N T ret
  have hcz : cvs.length ≤ 900 := by have := all2_length hG.all; omega
  k_with_none
  k_with "mem" => (first | with_reducible assumption | with_reducible exact List.mem_cons_self | (with_reducible refine List.mem_cons_of_mem _ ?_; k_extra "mem") | (with_reducible refine List.mem_append_left _ ?_; k_extra "mem") | (with_reducible refine List.mem_append_right _ ?_; k_extra "mem"))
  k_with "my_enter" => ((refine' code_def ?r2zk1 ?r2zk2 ?r2zk3 ?r2zk4 ?r2zk5 ?r2zkA ?r2zkF ?r2zkK ?r2zk6 ?r2zk7 ?r2zk8 ?r2zk9 ?r2zkB ?_ ?r2zc2 ?r2zc3 ?r2zc4 ?r2zc5; (case r2zkA => assumption); (case r2zkF => assumption); (case r2zkK => assumption); (case r2zk1 => k_asm); (case r2zk2 => k_asm); (case r2zk3 => k_asm); (case r2zk4 => k_asm); (case r2zk5 => k_asm); (case r2zk6 => k_is); (case r2zk7 => k_is); (case r2zk8 => omega); (case r2zk9 => exact BindsTo.of_eq rfl); (case r2zc5 => decide); (case r2zkB => exact locs rfl); (case r2zc2 => exact rfl); (case r2zc3 => exact rfl); (case r2zc4 => exact rfl); k_whole; intro zq_g' zq_L' zq_h' zq_FG' zq_F' zq_N' zq_B' zq_X' zq_T'; (try dsimp only); (try k_fold)))
  k_with "mysub" => (((with_reducible show wpAny _ _ (subscriptTail _ _ (Value.ref _) (Value.int _ _)) _ _ _); (with_unfolding_all first | (refine' sub_tup ?r3zN ?r3zm ?r3zi ?r3zj ?r3zx ?_ ?r3zh6; (case r3zN => k_asm); (case r3zm => k_extra "mem"); (case r3zi => exact rfl); (case r3zj => decide); (case r3zx => exact rfl); (case r3zh6 => rfl); k_whole) | (refine' sub_list ?r3zN ?r3zm ?r3zi ?r3zj ?r3zx ?_ ?r3zh6; (case r3zN => k_asm); (case r3zm => k_extra "mem"); (case r3zi => exact rfl); (case r3zj => omega); (case r3zx => assumption); (case r3zh6 => rfl); k_whole) | (refine' sub_list ?r3zN ?r3zm ?r3zi ?r3zj ?r3zx ?_ ?r3zh6; (case r3zN => k_asm); (case r3zm => k_extra "mem"); (case r3zi => exact rfl); (case r3zj => decide); (case r3zx => exact rfl); (case r3zh6 => rfl); k_whole) | (refine' di_item ?r3zN ?r3zm ?r3zd ?r3zv ?_ ?r3zh6; (case r3zN => k_asm); (case r3zm => k_extra "mem"); (case r3zd => with_reducible assumption); (case r3zv => with_reducible assumption); (case r3zh6 => rfl); k_whole; intro _) | (refine' ds_item ?r3zN ?r3zm ?r3zd ?r3zv ?_ ?r3zh6; (case r3zN => k_asm); (case r3zm => k_extra "mem"); (case r3zd => with_reducible assumption); (case r3zv => with_reducible assumption); (case r3zh6 => rfl); k_whole; intro _))))
  k_with "subscriptTail" => (k_extra "mysub")
  k_with "subscriptTail Name Constant ref int" => (k_extra "mysub")
  k_with "subscriptTail Name Name ref int" => (k_extra "mysub")
  k_with "subscriptTail Attribute Name Subscript Name Constant ref int" => (k_extra "mysub")
  k_with "getMethod ref" => (((with_reducible show wpAny _ _ (getMethod (Value.ref _) (PySem.Str.ofString "get") _) _ _ _); k_dflt (first | (refine' di_method ?r8zN ?r8zm ?r8zd ?_; (case r8zN => k_asm); (case r8zm => k_extra "mem"); (case r8zd => with_reducible assumption)) | (refine' ds_method ?r8zN ?r8zm ?r8zd ?_; (case r8zN => k_asm); (case r8zm => k_extra "mem"); (case r8zd => with_reducible assumption)))))
  k_with "call builtin:dict.get" => ((k_dflt (first | (refine' di_get ?r9zN ?r9zm ?r9zd ?r9zlo ?_; (case r9zN => k_asm); (case r9zm => k_extra "mem"); (case r9zd => with_reducible assumption); (case r9zlo => with_reducible assumption)) | (refine' ds_get ?r9zN ?r9zm ?r9zd ?r9zlo ?_; (case r9zN => k_asm); (case r9zm => k_extra "mem"); (case r9zd => with_reducible assumption); (case r9zlo => with_reducible assumption))); intro _))
  k_with "compareOp NotIn int ref" => ((k_dflt (refine' di_notin2 ?r10zN ?r10zm ?r10zd ?r10zlo ?_ ?_; (case r10zN => k_asm); (case r10zm => k_extra "mem"); (case r10zd => with_reducible assumption); (case r10zlo => with_reducible assumption)); intros))
  k_with "ite" => (with_reducible first | refine ite_t ?_ | refine ite_f ?_ | (refine' ite_bt ?r11zh ?_; (case r11zh => assumption)) | (refine' ite_bf ?r11zh ?_; (case r11zh => assumption)))
  k_with "opAt" => (first | with_reducible assumption | (refine' OpAt.mono ?r12zs ?r12zh; (case r12zh => with_reducible assumption); (case r12zs => k_extra "sub")) | (refine' OpAt.t ?r12zq; (case r12zq => k_extra "mem")) | (refine' OpAt.a ?r12zq; (case r12zq => k_extra "mem")) | (refine' OpAt.y ?r12zq; (case r12zq => k_extra "mem")) | (refine' OpAt.x ?r12zq; (case r12zq => k_extra "mem")))
  k_with "units" => (first | exact un1 (by with_reducible assumption) rfl | exact un0 (by with_reducible assumption) rfl | exact un2 (by with_reducible assumption) rfl | (simp only [units_in1, units_deeper, Around.mark_units, units_caller] at *; omega))
  k_with "compareOp Eq ref ref" => ((k_dflt (refine' op_eq ?r14zN ?r14za ?r14zb ?r14zu ?_; (case r14zN => k_asm); (case r14za => k_extra "opAt"); (case r14zb => k_extra "opAt"); (case r14zu => k_extra "units"); k_whole)))
  k_with "compareOp NotEq ref ref" => ((k_dflt (refine' op_ne ?r15zN ?r15za ?r15zb ?r15zu ?_; (case r15zN => k_asm); (case r15za => k_extra "opAt"); (case r15zb => k_extra "opAt"); (case r15zu => k_extra "units"); k_whole)))
  k_with "ne" => (first | with_reducible assumption | with_reducible exact Ne.symm (by with_reducible assumption) | with_reducible exact lt_ne_1 (by with_reducible assumption) | with_reducible exact lt_ne_2 (by with_reducible assumption) | with_reducible exact lt_ne_3 (by with_reducible assumption) | with_reducible exact lt_ne_4 (by with_reducible assumption) | with_reducible exact lt_ne_5 (by with_reducible assumption) | with_reducible exact lt_ne_6 (by with_reducible assumption) | with_reducible exact lt_ne_7 (by with_reducible assumption) | with_reducible exact lt_ne_8 (by with_reducible assumption) | with_reducible exact Ne.symm (lt_ne_1 (by with_reducible assumption)) | with_reducible exact Ne.symm (lt_ne_2 (by with_reducible assumption)) | with_reducible exact Ne.symm (lt_ne_3 (by with_reducible assumption)) | with_reducible exact Ne.symm (lt_ne_4 (by with_reducible assumption)) | with_reducible exact Ne.symm (lt_ne_5 (by with_reducible assumption)) | with_reducible exact Ne.symm (lt_ne_6 (by with_reducible assumption)) | with_reducible exact Ne.symm (lt_ne_7 (by with_reducible assumption)) | with_reducible exact Ne.symm (lt_ne_8 (by with_reducible assumption)) | omega)
  k_with "allne" => (first | with_reducible assumption | (refine' ne_of_lt_all ?r17zz; (case r17zz => with_reducible assumption)) | (refine' ne_of_fresh ?r17zz ?r17zm; (case r17zz => with_reducible assumption); (case r17zm => k_extra "mem")) | exact List.forall_mem_nil _ | (refine' List.forall_mem_cons.mpr ⟨?r17za, ?r17zb⟩; (case r17za => ((try dsimp only); k_extra "ne")); (case r17zb => k_extra "allne")))
  k_with "updF" => (first | (refine' UpdF.head ?r18za; (case r18za => k_extra "allne")) | (refine' UpdF.tail ?r18za ?r18zb; (case r18za => ((try dsimp only); k_extra "ne")); (case r18zb => k_extra "updF")))
  k_with "setItem ref int" => ((k_dflt (first | (refine' di_set ?r19zF ?r19zN ?r19zU ?r19zd ?r19zz ?_; (case r19zF => k_asm); (case r19zN => k_asm); (case r19zU => k_extra "updF"); (case r19zd => with_reducible assumption); (case r19zz => omega)) | (refine' ds_set ?r19zF ?r19zN ?r19zU ?r19zd ?r19zz ?_; (case r19zF => k_asm); (case r19zN => k_asm); (case r19zU => k_extra "updF"); (case r19zd => with_reducible assumption); (case r19zz => omega))); intro zq_h' zq_o' zq_F' zq_N' zq_hd'; (try dsimp only at zq_N'); (try k_sweep)))
  k_with "ifline" => (first | ((with_reducible refine' if_ne ?r20zF ?r20zv ?r20zn ?_ ?r20zk ?r20zl ?r20zd); (case r20zF => k_asm); (case r20zv => with_unfolding_all rfl); (case r20zn => decide +kernel); (case r20zk => rfl); (case r20zl => rfl); (case r20zd => decide); intro _) | ((with_reducible refine' if_eq ?r20zF ?r20zv ?r20zn ?_ ?r20zk ?r20zl ?r20zd); (case r20zF => k_asm); (case r20zv => with_unfolding_all rfl); (case r20zn => decide +kernel); (case r20zk => rfl); (case r20zl => rfl); (case r20zd => decide); intro _; dsimp only) | ((with_reducible refine' ifo_ne ?r20zF ?r20zv ?r20zn ?_ ?r20zk ?r20zl ?r20zd); (case r20zF => k_asm); (case r20zv => with_unfolding_all rfl); (case r20zn => decide +kernel); (case r20zk => rfl); (case r20zl => rfl); (case r20zd => decide); intro _) | ((with_reducible refine' ifo_eq ?r20zF ?r20zv ?r20zn ?_ ?r20zk ?r20zl ?r20zd); (case r20zF => k_asm); (case r20zv => with_unfolding_all rfl); (case r20zn => decide +kernel); (case r20zk => rfl); (case r20zl => rfl); (case r20zd => decide); intro _; dsimp only))
  k_with "execs cons" => (((with_reducible show wpAny _ _ (execs (Stmt.If _ _ _ _ :: _) _) _ _ _); k_dflt (k_extra "ifline")))
  k_with "ltall" => (first | assumption | exact tb_ltOf (by assumption) | (refine' tb_ltOf (And.right ?r22zz); (case r22zz => assumption)) | (refine' tb_ltOf (And.right (And.right ?r22zz)); (case r22zz => assumption)) | (refine' tb_ltOf (And.right (And.right (And.right ?r22zz))); (case r22zz => assumption)))
  k_with "fresh" => (first | exact FreshOver.nil | (refine' FreshOver.cons ?r23za ?r23zb; (case r23za => ((try dsimp only); k_extra "ltall")); (case r23zb => k_extra "fresh")))
  k_with "pairs" => (first | exact All2.nil | (refine' All2.cons ?r24za ?r24zb; (case r24za => (refine' PairAt.mk ?r24zc; (case r24zc => k_extra "mem"))); (case r24zb => k_extra "pairs")))
  k_with "upd" => (first | (refine' upd_app ?r25za ?r25zb; (case r25za => k_extra "allne"); (case r25zb => k_extra "upd")) | (refine' Upd.head ?r25za; (case r25za => k_extra "allne")) | (refine' Upd.tail ?r25za ?r25zb; (case r25za => ((try dsimp only); k_extra "ne")); (case r25zb => k_extra "upd")))
  k_with "setAttr ref" => ((k_dflt (refine' set_dict ?r26zF ?r26zX ?r26zN ?r26zI ?r26zd ?r26zs ?r26zp ?r26zt ?r26zh ?r26zl ?r26ze ?r26zU ?r26zz ?_; (case r26zF => k_asm); (case r26zX => k_asm); (case r26zN => k_asm); (case r26zI => k_inst); (case r26zd => exact rfl); (case r26zs => k_is); (case r26zp => k_is); (case r26zt => k_is); (case r26zh => k_is); (case r26zl => k_get); (case r26ze => k_put); (case r26zU => k_extra "upd"); (case r26zz => exact Nat.le_of_ble_eq_true rfl)); intro zq_h' zq_F' zq_N'; (try k_sweep)))
  k_with "compareOp Eq" => ((k_dflt (refine' pt_eq ?r27zN ?r27za ?r27zb ?r27zu ?_; (case r27zN => k_asm); (case r27za => with_reducible assumption); (case r27zb => with_reducible assumption); (case r27zu => k_extra "units"); k_whole)))
  k_with "compareOp NotEq" => ((k_dflt (refine' pt_ne ?r28zN ?r28za ?r28zb ?r28zu ?_; (case r28zN => k_asm); (case r28za => with_reducible assumption); (case r28zb => with_reducible assumption); (case r28zu => k_extra "units"); k_whole)))
  k_with "exec While Compare cons nil" => (first | ((k_dflt (k_extra "while")); (all_goals ((try ((try k_unmd); k_unfold; clear gG)); (try k_unmd); (try k_fold)))) | (k_here; (try k_fold); k_dflt (refine whl_start 100 ?_)))
  k_with "call builtin:isinstance" => ((k_dflt (first | (refine' isi_tup ?r30zF ?r30zX ?r30zN ?r30zm ?_; (case r30zF => k_asm); (case r30zX => k_asm); (case r30zN => k_asm); (case r30zm => k_extra "mem")) | (refine' isi_int ?r30zF ?r30zX ?r30zN ?_; (case r30zF => k_asm); (case r30zX => k_asm); (case r30zN => k_asm))); intro _))
  k_with "eval Name" => (((with_reducible refine' ldq ?r31zF ?r31zv ?r31zk ?r31zl ?r31zd ?_); (case r31zF => with_reducible assumption); (case r31zl => decide +kernel); (case r31zd => decide +kernel); (case r31zv => k_dflt (first | with_reducible assumption | exact @rfl _ (some _) | assumption)); (case r31zk => exact rfl)))
  k_with "TurnPost" => ((first | (with_reducible refine TurnPost.retI ?_) | (with_reducible refine TurnPost.nextI ?_)))
  k_with "exec For" => (((rename Fr _ _ _ _ => zq_lF'); (with_unfolding_all refine' For_invVF zq_lF' ?r33zk1 ?r33zk2 ?_; (case r33zk1 => exact rfl); (case r33zk2 => exact rfl); k_whole)))
  k_with "exec For Name Attribute cons nil" => (walk_at "exec For")
  k_with "exec For Name Name cons nil" => (walk_at "exec For")
  k_with "exec For Name Call cons nil" => (walk_at "exec For")
  k_with "rowAt" => (with_reducible assumption)
  k_with "depth" => (first | exact dp1 (by with_reducible assumption) rfl | exact dp0 (by with_reducible assumption) rfl | exact dp2 (by with_reducible assumption) rfl | (simp only [depth_under_make, depth_under_kw, depth_in1, depth_deeper, depth_caller] at *; omega))
  k_with "exec If" => (first | k_dflt (k_extra "if") | ((with_reducible refine wpAny_If ?_); (try dsimp only)))
  k_with "exec If Compare cons nil" => (walk_at "exec If")
  k_with "exec If BoolOp cons nil" => (walk_at "exec If")
  k_with "exec If Call cons nil" => (walk_at "exec If")
  k_with "exec If UnaryOp cons nil" => (walk_at "exec If")
  k_with "exec If Compare cons cons" => (walk_at "exec If")
  k_with "exec If BoolOp cons cons" => (walk_at "exec If")
  k_with "eval Call" => (((fail_if_success (with_reducible show wpAny _ _ (eval (Expr.Call (Expr.Name (PySem.Str.ofString "range") _) _ _ _) _) _ _ _)); (with_reducible show wpAny _ _ (eval (Expr.Call (Expr.Name _ _) _ _ _) _) _ _ _); k_dflt (refine Call_ ?_)))
  k_with "eval Call Attribute" => ((k_dflt (refine MethodCall_ ?_)))
  k_with "handled" => (first | assumption | exact rfl)
  k_with "frames" => (first | exact rfl | (refine' frames_deeper ?r49zz; (case r49zz => assumption)))
  k_with "pyIter ref" => (((k_dflt (k_extra "loop")); (all_goals ((try ((try k_unmd); k_unfold; clear gG)); (try dsimp only); (try k_unmd); (try k_fold)))))
  k_with "call ref" => (k_dflt (k_extra "call"))
  k_with "sub" => (first | with_reducible assumption | with_reducible exact sub_refl | (with_reducible refine sub_cons ?_; k_extra "sub") | (with_reducible refine sub_app ?_; k_extra "sub"))
  k_with "call builtin:list.append" => ((k_dflt (refine' app_l ?r53zF ?r53zN ?r53zU ?r53zz ?_; (case r53zF => k_asm); (case r53zN => k_asm); (case r53zU => k_extra "upd"); (case r53zz => exact Nat.le_of_ble_eq_true rfl)); intro zq_h' zq_F' zq_N'; (try dsimp only [List.cons_append, List.nil_append] at zq_N'); (try k_sweep)))
  k_with "compareOp In ref ref" => ((k_dflt (first | (refine' in_ops0 ?r54zN ?r54zl ?r54zo ?r54zu ?_; (case r54zN => k_asm); (case r54zl => k_extra "mem"); (case r54zo => k_extra "opAt"); (case r54zu => k_extra "units")) | (refine' in_ops1 ?r54zN ?r54zl ?r54zv ?r54zo ?r54zu ?_; (case r54zN => k_asm); (case r54zl => k_extra "mem"); (case r54zv => k_extra "opAt"); (case r54zo => k_extra "opAt"); (case r54zu => k_extra "units")))))
  k_with "assign Tuple" => ((k_dflt (refine' unpackN_ ?r55zF ?r55zN ?r55zT ?r55zh ?r55z2 ?r55z3 ?_; (case r55zF => k_asm); (case r55zN => k_asm); (case r55zT => (refine' News.isTup ?r55zy1 ?r55zy2; (case r55zy1 => k_asm); (case r55zy2 => k_extra "mem"))); (case r55zh => k_extra "handled"); (case r55z2 => exact rfl); (case r55z3 => exact rfl)); intro zq_h' zq_F' zq_N'; (try k_sweep)))
  k_with "WPost" => ((first | (with_reducible refine WPost.retI ?_) | (with_reducible refine WPost.nextI ?_)))
  k_with "WhlIf" => (((first | (refine' WhlIf.yes ?r57zz ?_; (case r57zz => (refine decide_eq_true ?_; omega))) | (refine' WhlIf.no ?r57zz ?_; (case r57zz => (refine decide_eq_false ?_; omega)))); (try dsimp only); (try k_unmd); (try k_fold)))
  k_with "call builtin:len" => ((k_dflt (refine' len_l ?r58zN ?r58zm ?r58zz ?_; (case r58zN => k_asm); (case r58zm => k_extra "mem"); (case r58zz => first | exact Nat.le_of_ble_eq_true rfl | omega)); intro _ _))
  k_with "loadName" => (((with_reducible refine' ldnq ?r59zF ?r59zv ?r59zk ?r59zl ?_); (case r59zF => with_reducible assumption); (case r59zl => decide +kernel); (case r59zv => k_dflt (first | with_reducible assumption | exact @rfl _ (some _) | assumption)); (case r59zk => exact rfl)))
  k_with "kv" => (with_reducible first | exact kv_held | exact kv_temps | exact kv_given | exact kv_out | exact kv_count)
  k_with "stitem" => ((k_dflt (refine' st_item ?r61zN ?r61zm ?r61zd ?r61zv ?_ ?r61zh6; (case r61zN => k_asm); (case r61zm => k_extra "mem"); (case r61zd => with_reducible assumption); (case r61zv => k_extra "kv"); (case r61zh6 => with_unfolding_all rfl))))
  k_with "subscriptTail Name Constant ref str" => (k_extra "stitem")
  k_with "call type:range" => ((k_dflt (first | (refine' range1_rows ?r63zF ?r63zN ?_; (case r63zF => k_asm); (case r63zN => k_asm)) | (refine' range2_rows ?r63zF ?r63zN ?_; (case r63zF => k_asm); (case r63zN => k_asm))); intro zq_h' zq_tk' zq_t9 zq_u9 zq_w9 zq_R' zq_F' zq_N' zq_kp'; clear zq_kp'; (try k_sweep)))
  k_with "TurnPost" => ((with_reducible refine TurnPost.contI ?_))
  k_with "unpackItems ref" => ((k_dflt (refine' unpackItemsN_ ?r65zF ?r65zN ?r65zT ?r65zh ?r65z2 ?_; (case r65zF => k_asm); (case r65zN => k_asm); (case r65zT => (refine' News.isTup ?r65zy1 ?r65zy2; (case r65zy1 => k_asm); (case r65zy2 => k_extra "mem"))); (case r65zh => k_extra "handled"); (case r65z2 => exact rfl)); intro zq_h' zq_F' zq_N'; (try k_sweep)))
  k_with "storeName" => (((k_dflt (refine' store_let ?r66zF ?r66zN ?_ ?r66za ?r66zb; (case r66zF => k_asm); (case r66zN => k_asm); (case r66za => rfl); (case r66zb => rfl); k_whole)); (intro zq_mk zq_h' zq_F' zq_N'); (try k_sweep)))
  k_with "callWith" => (((with_reducible show wpAny _ _ (callWith _ (Value.builtin "list.append") _ _ _) _ _ _); (k_dflt (refine callWith_method1 ?_))))
  k_with "ne" => (first | with_reducible assumption | with_reducible exact Ne.symm (by with_reducible assumption) | with_reducible exact lt_ne_1 (by with_reducible assumption) | with_reducible exact lt_ne_2 (by with_reducible assumption) | with_reducible exact lt_ne_3 (by with_reducible assumption) | with_reducible exact lt_ne_4 (by with_reducible assumption) | with_reducible exact lt_ne_5 (by with_reducible assumption) | with_reducible exact lt_ne_6 (by with_reducible assumption) | with_reducible exact lt_ne_7 (by with_reducible assumption) | with_reducible exact lt_ne_8 (by with_reducible assumption) | omega)
  k_with "call builtin:list.append" => ((k_dflt (refine' app_l ?r166zF ?r166zN ?r166zU ?r166zz ?_; (case r166zF => k_asm); (case r166zN => k_asm); (case r166zU => k_extra "upd"); (case r166zz => first | exact app_len0 (by assumption) | exact app_len1 (by assumption) | exact app_len2 (by assumption))); intro zq_h' zq_F' zq_N'; (try dsimp only [List.cons_append, List.nil_append] at zq_N'); (try k_sweep)))
  k_with "call" => ((with_reducible show wpAny _ _ (call (Value.ref 140) _) _ _ _); (k_dflt (refine' ct_use_rd (read_ct c hi ?y1 hlen ?y2 ?y3 ?y4) ?zh ?zA ?zf ?zk ?zd ?zu ?zB ?zF ?zX ?zN ?zT ?_; (case zN => k_asm); (case y1 => decide); (case y2 => k_extra "mem"); (case y3 => k_extra "mem"); (case y4 => k_extra "updF"); (case zh => k_extra "handled"); (case zA => k_extra "frames"); (case zf => exact rfl); (case zk => exact rfl); (case zd => k_extra "depth"); (case zu => k_extra "units"); (case zB => k_asm); (case zF => k_asm); (case zX => k_asm); (case zT => k_asm))); (intro k5 t5 p5 tp5 h' tk' F' N' hk0 hk1); (try dsimp only at N'); (try k_sweep))
  k_with "call" => ((with_reducible show wpAny _ _ (call (Value.ref 140) _) _ _ _); (k_dflt (refine' ct_use_rd (read_ct c hi ?y1 hlen ?y2 ?y3 ?y4) ?zh ?zA ?zf ?zk ?zd ?zu ?zB ?zF ?zX ?zN ?zT ?_; (case zN => k_asm); (case y1 => exact guard3 (by assumption) (by decide)); (case y2 => k_extra "mem"); (case y3 => k_extra "mem"); (case y4 => k_extra "updF"); (case zh => k_extra "handled"); (case zA => k_extra "frames"); (case zf => exact rfl); (case zk => exact rfl); (case zd => k_extra "depth"); (case zu => k_extra "units"); (case zB => k_asm); (case zF => k_asm); (case zX => k_asm); (case zT => k_asm))); (intro k6 t6 p6 tp6 h' tk' F' N' hj0 hj1); (try dsimp only at N'); (try k_sweep))
  k_with "loop" => (
    (rename Fr _ _ _ _ => lF'); (rename News _ _ _ _ => lN'); (rename IsRange _ _ _ _ _ _ _ _ => lR')
    refine ra_iter (n := k5.toNat) (fun i m nx => ∃ p tp cvs' nc T rows', m (PySem.Str.ofString "roll") = some (.ref rl) ∧ m (PySem.Str.ofString "code") = some (.ref cl) ∧ nx = (rl, rollO ls p tp nl) :: (ls, listOf vs.toArray n2') :: (cl, listOf (cvs' : List Value).toArray nc) :: (T ++ (kb ++ xo)) ∧ GB rl ls cl (T ++ kb) (T ++ (kb ++ xo)) cvs' rows' ∧ FreshOver T (kb ++ xo) ∧ rows'.length ≤ rows.length + 3 * i)
      (by assumption) lR' (range_in1 hk0 hk1).1 (range_in1 hk0 hk1).2 lF' lN' ⟨_, _, cvs, nc, [], rows, rfl, rfl, rfl, hG, FreshOver.nil, by omega⟩ (fun i ti m₁ nx h' tk' own hi9 hoff hJ F' N' => ?_) (fun m₁ nx h' tk' hJ F' N' => ?_)
    all_goals (
      clear lF' lN' lR'
      (show (let gG : Prop := _; gG)); intro gG; obtain ⟨p9, tp9, cvs', nc', T9, rows', hm1, hm2, hnx, hG', hT', hrl'⟩ := hJ; k_unfold; clear gG
      subst hnx
      change Fr g' L' h' _ at F'
      change News g' L' h' _ at N'
      (try dsimp only)
      have hcl := all2_length hG'.all
      have hcz : cvs'.length ≤ 900 := by omega)
    rotate_left 1
    have ho3 : Off cl (T9 ++ (kb ++ xo)) := hG'.o3
    rotate_right 1
    dsimp only [List.cons_append] at N'
    have ho3 : Off cl (T9 ++ (kb ++ xo) ++ own) := fun q hq => (List.mem_append.mp hq).elim (hG'.o3 q) fun hq => hoff q hq cl (by simp)
    have ho2 : Off ls (T9 ++ (kb ++ xo) ++ own) := fun q hq => (List.mem_append.mp hq).elim (hG'.o2 q) fun hq => hoff q hq ls (by simp)
    have ho1 : Off rl (T9 ++ (kb ++ xo) ++ own) := fun q hq => (List.mem_append.mp hq).elim (hG'.o1 q) fun hq => hoff q hq rl (by simp))
  have hO1 := hG.o1
  refine wpAny_call ?_
  k_dflt (refine' code_def (binds := [(PySem.Str.ofString "roll", .ref rl), (PySem.Str.ofString "code", .ref cl)]) ?zk1 ?zk2 ?zk3 ?zk4 ?zk5 ?zkA ?zkF ?zkK ?zk6 ?zk7 ?zk8 ?zk9 ?zkB ?_ ?zc2 ?zc3 ?zc4 ?zc5; (case zkA => assumption); (case zkF => assumption); (case zkK => assumption); (case zk1 => k_asm); (case zk2 => k_asm); (case zk3 => k_asm); (case zk4 => k_asm); (case zk5 => k_asm); (case zk6 => k_is); (case zk7 => k_is); (case zk8 => omega); (case zk9 => exact BindsTo.of_eq rfl); (case zc5 => decide); (case zkB => exact locs rfl); (case zc2 => exact rfl); (case zc3 => exact rfl); (case zc4 => exact rfl); k_whole; intro g' L' h' FG' F' N' B' X' T'; (try dsimp only [List.reverse_cons, List.reverse_nil, List.nil_append, List.cons_append] at F'); (try dsimp only); (try k_fold))
  k_steps
  · rename Fr g' _ _ _ => F9
    rename News g' _ _ _ => N9
    refine gen_pushB [_, _, _] F9 N9 ⟨by assumption, by assumption, by assumption, trivial⟩ hoff hG' hT' (fun hG9 hT9 => ?_)
    refine' ⟨_, _, cvs' ++ [_], _, _ :: _ :: _ :: T9, rows' ++ [⟨.putVal, [.op (.t k5), .op (.a (1 + (i : Int)))]⟩], hm1, hm2, rfl, (GB.add hG9 ?r0 ?w0 ?t0), hT9, ?z⟩
    case r0 => exact row2 (k := .putVal) (.head _) rfl (.op (.t (.tail _ (.tail _ (.head _))))) (.op (.a (.tail _ (.head _))))
    case w0 => constructor
    case t0 => (intro k hk; simp at hk; first | done | (subst hk; exact ⟨by assumption, by assumption⟩))
    case z => (try simp only [List.length_append, List.length_cons, List.length_nil]); omega
  · rename Fr g' _ _ _ => F9
    rename News g' _ _ _ => N9
    refine gen_pushB [_, _, _] F9 N9 ⟨by assumption, by assumption, by assumption, trivial⟩ hoff hG' hT' (fun hG9 hT9 => ?_)
    refine' ⟨_, _, cvs' ++ [_], _, _ :: _ :: _ :: T9, rows' ++ [⟨.putVar, [.op (.t k5), .op (.a (1 + (i : Int)))]⟩], hm1, hm2, rfl, (GB.add hG9 ?r0 ?w0 ?t0), hT9, ?z⟩
    case r0 => exact row2 (k := .putVar) (.head _) rfl (.op (.t (.tail _ (.tail _ (.head _))))) (.op (.a (.tail _ (.head _))))
    case w0 => constructor
    case t0 => (intro k hk; simp at hk; first | done | (subst hk; exact ⟨by assumption, by assumption⟩))
    case z => (try simp only [List.length_append, List.length_cons, List.length_nil]); omega
  · rename Fr g' _ _ _ => F9
    rename News g' _ _ _ => N9
    refine gen_pushB [_, _, _, _] F9 N9 ⟨by assumption, by assumption, by assumption, by assumption, trivial⟩ hoff hG' hT' (fun hG9 hT9 => ?_)
    refine' ⟨_, _, cvs' ++ [_], _, _ :: _ :: _ :: _ :: T9, rows' ++ [⟨.putVal, [.op (.y 2), .op (.a (1 + (i : Int)))]⟩], hm1, hm2, rfl, (GB.add hG9 ?r0 ?w0 ?t0), hT9, ?z⟩
    case r0 => exact row2 (k := .putVal) (.head _) rfl (.op (.y (.tail _ (.tail _ (.head _))))) (.op (.a (.tail _ (.head _))))
    case w0 => constructor
    case t0 => (intro k hk; simp at hk; first | done | (subst hk; exact ⟨by assumption, by assumption⟩))
    case z => (try simp only [List.length_append, List.length_cons, List.length_nil]); omega
  · rename Fr g' _ _ _ => F9
    rename News g' _ _ _ => N9
    refine gen_pushB [_, _, _, _, _, _] F9 N9 ⟨by assumption, by assumption, by assumption, by assumption, by assumption, by assumption, trivial⟩ hoff hG' hT' (fun hG9 hT9 => ?_)
    refine' ⟨_, _, cvs' ++ [_] ++ [_] ++ [_], _, _ :: _ :: _ :: _ :: _ :: _ :: T9, rows' ++ [⟨.putList, [.op (.a (1 + (i : Int)))]⟩] ++ [⟨.setLoc, [.op (.t k5)]⟩] ++ [⟨.setVar, [.op (.t k6)]⟩], hm1, hm2, rfl, (GB.add (GB.add (GB.add hG9 ?r0 ?w0 ?t0) ?r1 ?w1 ?t1) ?r2 ?w2 ?t2), hT9, ?z⟩
    case r0 => exact row1 (k := .putList) (.tail _ (.tail _ (.tail _ (.head _)))) rfl (.op (.a (.tail _ (.tail _ (.tail _ (.tail _ (.head _)))))))
    case w0 => constructor
    case t0 => (intro k hk; simp at hk; first | done | (subst hk; exact ⟨by assumption, by assumption⟩))
    case r1 => exact row1 (k := .setLoc) (.tail _ (.tail _ (.head _))) rfl (.op (.t (.tail _ (.tail _ (.tail _ (.tail _ (.tail _ (.head _))))))))
    case w1 => constructor
    case t1 => (intro k hk; simp at hk; first | done | (subst hk; exact ⟨by assumption, by assumption⟩))
    case r2 => exact row1 (k := .setVar) (.head _) rfl (.op (.t (.tail _ (.head _))))
    case w2 => constructor
    case t2 => (intro k hk; simp at hk; first | done | (subst hk; exact ⟨by assumption, by assumption⟩))
    case z => (try simp only [List.length_append, List.length_cons, List.length_nil]); omega
  · rename Fr g' _ _ _ => F9
    rename News g' _ _ _ => N9
    refine gen_pushB [_, _, _, _] F9 N9 ⟨by assumption, by assumption, by assumption, by assumption, trivial⟩ hoff hG' hT' (fun hG9 hT9 => ?_)
    refine' ⟨_, _, cvs' ++ [_] ++ [_], _, _ :: _ :: _ :: _ :: T9, rows' ++ [⟨.putCon, [.int 5, .op (.a (1 + (i : Int)))]⟩] ++ [⟨.putStr, [.int 6, .op (.t k5)]⟩], hm1, hm2, rfl, (GB.add (GB.add hG9 ?r0 ?w0 ?t0) ?r1 ?w1 ?t1), hT9, ?z⟩
    case r0 => exact row2 (k := .putCon) (.tail _ (.head _)) rfl .int (.op (.a (.tail _ (.tail _ (.head _)))))
    case w0 => constructor
    case t0 => (intro k hk; simp at hk; first | done | (subst hk; exact ⟨by assumption, by assumption⟩))
    case r1 => exact row2 (k := .putStr) (.head _) rfl .int (.op (.t (.tail _ (.tail _ (.tail _ (.head _))))))
    case w1 => constructor
    case t1 => (intro k hk; simp at hk; first | done | (subst hk; exact ⟨by assumption, by assumption⟩))
    case z => (try simp only [List.length_append, List.length_cons, List.length_nil]); omega
  · rename Fr g' _ _ _ => F9
    rename News g' _ _ _ => N9
    refine gen_pushB [_, _, _] F9 N9 ⟨by assumption, by assumption, by assumption, trivial⟩ hoff hG' hT' (fun hG9 hT9 => ?_)
    refine' ⟨_, _, cvs' ++ [_], _, _ :: _ :: _ :: T9, rows' ++ [⟨.putVoid, [.op (.a (1 + (i : Int)))]⟩], hm1, hm2, rfl, (GB.add hG9 ?r0 ?w0 ?t0), hT9, ?z⟩
    case r0 => exact row1 (k := .putVoid) (.head _) rfl (.op (.a (.tail _ (.head _))))
    case w0 => constructor
    case t0 => (intro k hk; simp at hk; first | done | (subst hk; exact ⟨by assumption, by assumption⟩))
    case z => (try simp only [List.length_append, List.length_cons, List.length_nil]); omega
  · rename Fr h₀ _ _ _ => F9
    rename News h₀ _ _ _ => N9
    refine' ret _ _ _ _ F9 (News.sub N9 rot3) ⟨_, _, cvs' ++ [_], _, _ :: T9, rows' ++ [⟨.call, [.int 2, .int 0]⟩], rfl, GB.add (GB.grow0 (D := [_]) (a := rollO ls p9 tp9 nl) (b := rollO ls p9 tp9 nl) (d := rollO ls p9 tp9 nl) hG' ⟨by assumption, trivial⟩) ?qr ?qw ?qt, fresh_ch (D := [_]) (X := (rl, rollO ls p9 tp9 nl) :: (ls, rollO ls p9 tp9 nl) :: (cl, rollO ls p9 tp9 nl) :: (T9 ++ (kb ++ xo))) ⟨by assumption, trivial⟩ (fun p hp => .tail _ (.tail _ (.tail _ (List.mem_append_right _ hp)))) hT', ?z, ?z2⟩
    case qr => exact row2 (k := .call) (.head _) rfl .int .int
    case qw => constructor
    case qt => (intro k hk; simp at hk)
    case z => simp only [List.length_append, List.length_cons, List.length_nil]; omega
    case z2 => simp
end
section
theorem ints_of {vs : List Value} {ns : List Int} (h : IntsAre vs ns) : IntsOf vs ns := by
  induction h with
  | nil => exact .nil
  | cons n t _ ih => exact .cons ⟨t, rfl⟩ ih
theorem roll_start {h₀ h : Heap} {L l D : Addr} {ws : List Value} {ns : List Int} {n n' : Nat} {t : Tok} {ce : Addr} {oc : Obj} (N : News h₀ L h ((l, listOf #[.ref D, .int 0 t] n) :: (D, listOf ws.toArray n') :: [(ce, oc)])) (hi : IntsAre ws (ns.take 70)) (h1 : D < l ∧ ce < l) (h2 : ce < D) :
    ∃ rl ls vs, rl = l ∧ ls = D ∧ vs = ws ∧ News h₀ L h ((rl, rollO ls 0 t n) :: (ls, listOf vs.toArray n') :: [(ce, oc)]) ∧ IntsOf vs (ns.take 70) ∧ vs.length ≤ 1000 ∧ ls ≠ rl ∧ ce ≠ rl ∧ ce ≠ ls := by
  refine ⟨l, D, ws, rfl, rfl, rfl, N, ints_of hi, ?_, Nat.ne_of_lt h1.1, Nat.ne_of_lt h1.2, Nat.ne_of_lt h2⟩
  rw [all2_length (ints_of hi), List.length_take]; omega
theorem code_start {h₀ h : Heap} {L l rl ls ce : Addr} {r v oc : Obj} {n : Nat} (N : News h₀ L h ((l, listOf ([] : List Value).toArray n) :: (rl, r) :: (ls, v) :: [(ce, oc)])) (h1 : rl < l ∧ ls < l ∧ ce < l) (n1 : ce ≠ rl) (n2 : ce ≠ ls) :
    ∃ cl, cl = l ∧ News h₀ L h ((rl, r) :: (ls, v) :: (cl, listOf ([] : List Value).toArray n) :: [(ce, oc)]) ∧ cl ≠ rl ∧ cl ≠ ls ∧ GOk rl ls cl [(ce, oc)] [] [] := by
  refine ⟨l, rfl, News.sub N ?_, Nat.ne_of_gt h1.1, Nat.ne_of_gt h1.2.1, ⟨.nil, (fun _ h => nomatch h), ?_, ?_, ?_⟩⟩
  · intro p hp
    simp only [List.mem_cons] at hp ⊢
    rcases hp with h | h | h | h <;> simp only [h, true_or, or_true]
  · intro q hq; rw [List.mem_singleton.mp hq]; exact n1
  · intro q hq; rw [List.mem_singleton.mp hq]; exact n2
  · intro q hq; rw [List.mem_singleton.mp hq]; exact Nat.ne_of_lt h1.2.2
theorem range_in2 {k : Int} (h0 : 0 ≤ k) (h3 : k < 2) : Builtin.Range.small 0 (1 + k) 1 = true ∧ Builtin.Range.rangeSize 0 (1 + k) 1 = ((1 + k).toNat : Int) := by
  obtain rfl | rfl : k = 0 ∨ k = 1 := by omega
  all_goals exact ⟨by decide, by decide⟩
theorem GOk.toB {rl ls cl : Addr} {kp own : List (Addr × Obj)} {cvs : List Value} {rows : List Row} (h : GOk rl ls cl kp cvs rows) (ho : OwnOff own (rl :: ls :: cl :: kp.map (·.1))) : GB rl ls cl kp (kp ++ own) cvs rows :=
  ⟨h.all, h.rg, fun q hq => (List.mem_append.mp hq).elim (h.o1 q) fun hq => ho q hq rl (by simp), fun q hq => (List.mem_append.mp hq).elim (h.o2 q) fun hq => ho q hq ls (by simp), fun q hq => (List.mem_append.mp hq).elim (h.o3 q) fun hq => ho q hq cl (by simp)⟩
theorem GB.toOk {rl ls cl : Addr} {T kp own : List (Addr × Obj)} {cvs : List Value} {rows : List Row} (h : GB rl ls cl (T ++ kp) (T ++ (kp ++ own)) cvs rows) : GOk rl ls cl (T ++ kp) cvs rows :=
  have go : ∀ {d}, Off d (T ++ (kp ++ own)) → Off d (T ++ kp) := fun h q hq => h q (sub_l q hq)
  ⟨h.all, h.rg, go h.o1, go h.o2, go h.o3⟩
theorem law_end {h₀ : Heap} {L : Addr} {J : (PySem.Str → Option Value) → List (Addr × Obj) → Prop} {own : List (Addr × Obj)} {s₁ : Shared} {m' : PySem.Str → Option Value} {h' : Heap} {tk : Nat} {x1 x2 x3 : Addr × Obj} {T kp : List (Addr × Obj)}
    (F : Fr h₀ L h' m') (N : News h₀ L h' (x1 :: x2 :: x3 :: (T ++ (kp ++ own)))) (hf : FreshOver T (kp ++ own)) (ho : OwnOff own (x1.1 :: x2.1 :: x3.1 :: kp.map (·.1))) (hj : J m' (x1 :: x2 :: x3 :: (T ++ kp))) :
    TurnEnd h₀ L J own s₁ { s₁ with heap := h', toks := tk } := by
  refine TurnEnd.intro (nx := x1 :: x2 :: x3 :: (T ++ kp)) F N (sub_cons2 (sub_cons2 (sub_cons2 sub_l))) (sub_cons (sub_cons (sub_cons sub_o))) ?_ hj
  intro p hp b hb
  simp only [List.map_cons, List.map_append, List.mem_cons, List.mem_append] at hb
  rcases hb with h | h | h | h | h
  · exact ho p hp b (by simp [h])
  · exact ho p hp b (by simp [h])
  · exact ho p hp b (by simp [h])
  · obtain ⟨q, hq, rfl⟩ := List.mem_map.mp h
    exact Nat.ne_of_lt (hf q hq p (List.mem_append_right _ hp))
  · exact ho p hp b (by simp only [List.mem_cons]; simp only [h, or_true])
end
section
/-- the comprehension over a range whose element reads the roll -/
noncomputable def HmEl (rl ls : Addr) (rest : List (Addr × Obj)) (y : Value) (news' : List (Addr × Obj)) : Prop := ∃ k t p tp, y = .int k t ∧ news' = (rl, rollO ls p tp 0) :: rest
section
variable {prog : Program} {w : World} {A : Around} {h₀ : Heap} {L : Addr} {m : PySem.Str → Option Value} {env : Env} {elt : PySem.Expr} {x : PySem.Str} {scope : Scope} {cl : List (PySem.Str × Addr)} {s : Shared} {P : Nat → Value → Prop} {Fin : List Value → List (Addr × Obj) → Prop} {rl ls : Addr} {rest : List (Addr × Obj)} {p0 : Nat} {tp0 : Tok}
theorem hm_rest {n : Nat}
    (turn : ∀ v I oI C oC D m₂ ys h tk (E' : Value → Shared → Prop) p tp, LCg.NsObj oC m₂ → m₂ x = some v → Fr h₀ L h m → News h₀ L h ((I, oI) :: (C, oC) :: (D, LCg.lst ys) :: (rl, rollO ls p tp 0) :: rest) → LCg.Off3 I C D ((rl, rollO ls p tp 0) :: rest) → ((@Ne Nat I C) ∧ (@Ne Nat I D) ∧ (@Ne Nat C D)) →
      wpAny (model prog w) A (eval elt (compEnvC scope cl C env)) (LCg.CompEnd h₀ L m { s with heap := h, toks := tk } I oI C oC D (LCg.lst ys) (fun _ => True) (HmEl rl ls rest)) E' { s with heap := h, toks := tk })
    (fin : ∀ ys ns p tp, IntsOf ys ns → ns.length = n → Fin ys ((rl, rollO ls p tp 0) :: rest)) : LCg.CompRest prog w A h₀ L m env elt x scope cl s (fun _ => True) P Fin n 0 [] ((rl, rollO ls p0 tp0 0) :: rest) := by
  have key : ∀ (j i : Nat) (ys : List Value) (ns : List Int) (p : Nat) (tp : Tok), i + j = n → IntsOf ys ns → ns.length = i → LCg.CompRest prog w A h₀ L m env elt x scope cl s (fun _ => True) P Fin j i ys ((rl, rollO ls p tp 0) :: rest) := by
    intro j
    induction j with
    | zero =>
      intro i ys ns p tp hi hy hl
      exact LCg.CompRest.zero (fin ys ns p tp hy (by omega))
    | succ j ih =>
      intro i ys ns p tp hi hy hl
      refine LCg.CompRest.succ ?_
      intro v I oI C oC D m₂ h tk E' hv hC hx F N off ne
      refine wpAny_mono (turn v I oI C oC D m₂ ys h tk E' p tp hC hx F N off ne) (fun y s₂ hq => ?_) fun _ _ e => e
      obtain ⟨h', tk', nw, e, F', N', off', hS, k, t, p', tp', hy', hn⟩ := hq
      subst hn
      refine ⟨h', tk', _, e, F', N', off', trivial, ?_⟩
      rw [hy']
      exact ih (i + 1) _ (ns ++ [k]) p' tp' (by omega) (all2_append hy ⟨t, rfl⟩) (by rw [List.length_append, List.length_singleton, hl])
  exact key n 0 [] [] p0 tp0 (by omega) .nil rfl
theorem off3_off {I C D : Addr} {x : Addr × Obj} {o : Obj} {l : List (Addr × Obj)} (h : LCg.Off3 I C D (x :: l)) : LCg.Off3 I C D ((x.1, o) :: l) := ⟨h.1, h.2⟩
theorem off3_all {I C D : Addr} {x : Addr × Obj} {l : List (Addr × Obj)} (h : LCg.Off3 I C D (x :: l)) : I ≠ x.1 ∧ C ≠ x.1 ∧ D ≠ x.1 := ⟨Ne.symm h.1.1, Ne.symm h.1.2.1, Ne.symm h.1.2.2⟩
end
/-- the code and the homes stand -/
theorem homes_start {h₀ h : Heap} {L hl rl ls cl : Addr} {hvs cvs vs : List Value} {rows : List Row} {nh nc n2' p : Nat} {tp : Tok} {kp : List (Addr × Obj)}
    (N : News h₀ L h ((hl, listOf hvs.toArray nh) :: (rl, rollO ls p tp 0) :: (ls, listOf vs.toArray n2') :: (cl, listOf cvs.toArray nc) :: kp)) (h1 : hl ≠ rl) (h2 : cl ≠ rl) (hG : GOk rl ls cl kp cvs rows) :
    ∃ kH, News h₀ L h ((rl, rollO ls p tp 0) :: (ls, listOf vs.toArray n2') :: kH) ∧ Off rl kH ∧ All2 (RowAt kH) cvs rows ∧ (cl, listOf cvs.toArray nc) ∈ kH ∧ (hl, listOf hvs.toArray nh) ∈ kH ∧ (∀ q ∈ kp, q ∈ kH) := by
  refine ⟨(hl, listOf hvs.toArray nh) :: (cl, listOf cvs.toArray nc) :: kp, News.sub N ?_, ?_, hG.all.mono fun _ _ x => x.mono fun _ h => .tail _ (.tail _ h), .tail _ (.head _), .head _, fun _ h => .tail _ (.tail _ h)⟩
  · intro q hq
    simp only [List.mem_cons] at hq ⊢
    rcases hq with h | h | h | h | h <;> simp only [h, true_or, or_true]
  · intro q hq
    rcases List.mem_cons.mp hq with rfl | hq
    · exact h1
    · rcases List.mem_cons.mp hq with rfl | hq
      · exact h2
      · exact hG.o1 q hq
/-- tuples are not among lists -/
noncomputable def TupSub (A B : List (Addr × Obj)) : Prop := ∀ q ∈ A, q.2.cls = .type "tuple" → q ∈ B
theorem OpAt.tup {A B : List (Addr × Obj)} (hs : TupSub A B) {v : Value} {o : Op} (h : OpAt A v o) : OpAt B v o := by
  cases h with
  | t h => exact .t (hs _ h rfl)
  | a h => exact .a (hs _ h rfl)
  | y h => exact .y (hs _ h rfl)
  | x h => exact .x (hs _ h rfl)
theorem PtAt.tup {A B : List (Addr × Obj)} (hs : TupSub A B) {v : Value} {o : Pt} (h : PtAt A v o) : PtAt B v o := by
  cases h with
  | int => exact .int
  | op h => exact .op (h.tup hs)
theorem RowAt.tup {A B : List (Addr × Obj)} (hs : TupSub A B) {v : Value} {o : Row} (h : RowAt A v o) : RowAt B v o := by
  cases h with
  | mk h r => exact .mk (hs _ h rfl) (r.mono fun _ _ x => x.tup hs)
/-- both codes stand in the ledger -/
structure Ready (K : List (Addr × Obj)) (cl l : Addr) (cvs ws : List Value) (n1 n2 : Nat) (rs ss : List Row) : Prop where
  a : (cl, listOf cvs.toArray n1) ∈ K
  b : (l, listOf ws.toArray n2) ∈ K
  r : All2 (RowAt K) cvs rs
  s : All2 (RowAt K) ws ss
  wa : ∀ r ∈ rs, WA r
  wr : ∀ s ∈ ss, WR s
  len : rs.length = ss.length
  z : rs.length ≤ 50
  k : ∀ (i : Nat) (r s : Row), rs[i]? = some r → ss[i]? = some s → r.k = s.k
theorem Ready.le {K : List (Addr × Obj)} {cl l : Addr} {cvs ws : List Value} {n1 n2 : Nat} {rs ss : List Row} (R : Ready K cl l cvs ws n1 n2 rs ss) {K' : List (Addr × Obj)} (h : ∀ q ∈ K, q ∈ K') : Ready K' cl l cvs ws n1 n2 rs ss :=
  ⟨h _ R.a, h _ R.b, R.r.mono fun _ _ x => x.mono h, R.s.mono fun _ _ x => x.mono h, R.wa, R.wr, R.len, R.z, R.k⟩
theorem list_tup : ¬ (Value.type "list" = Value.type "tuple") := by decide +kernel
theorem real_start {h₀ h : Heap} {L rl ls cl lR : Addr} {cvs vs wsR : List Value} {rows : List Row} {home : List Int} {nc nR n2' p : Nat} {tp : Tok} {kH TR : List (Addr × Obj)}
    (N : News h₀ L h (TR ++ ((rl, rollO ls p tp 0) :: (ls, listOf vs.toArray n2') :: kH))) (hO : Off rl kH) (hall : All2 (RowAt kH) cvs rows) (hc : (cl, listOf cvs.toArray nc) ∈ kH)
    (hf : FreshOver TR ((rl, rollO ls p tp 0) :: (ls, listOf vs.toArray n2') :: kH)) (hm : (lR, listOf wsR.toArray nR) ∈ TR) (hr : All2 (RowAt (TR ++ ((rl, rollO ls p tp 0) :: (ls, listOf vs.toArray n2') :: kH))) wsR (rows.map (rRow home)))
    (hrg : ∀ r ∈ rows, WA r ∧ Tok4 r) (hz : rows.length ≤ 50) :
    ∃ kR ss, News h₀ L h ((rl, rollO ls p tp 0) :: (ls, listOf vs.toArray n2') :: kR) ∧ Off rl kR ∧ Ready kR cl lR cvs wsR nc nR rows ss ∧ Ready ((rl, rollO ls p tp 0) :: (ls, listOf vs.toArray n2') :: kR) cl lR cvs wsR nc nR rows ss ∧ (∀ q ∈ kH, q ∈ kR) := by
  suffices ∃ kR ss, News h₀ L h ((rl, rollO ls p tp 0) :: (ls, listOf vs.toArray n2') :: kR) ∧ Off rl kR ∧ Ready kR cl lR cvs wsR nc nR rows ss ∧ (∀ q ∈ kH, q ∈ kR) by
    obtain ⟨kR, ss, a, b, c, d⟩ := this
    exact ⟨kR, ss, a, b, c, c.le fun _ h => .tail _ (.tail _ h), d⟩
  refine ⟨TR ++ kH, rows.map (rRow home), News.sub N ?_, ?_, ⟨List.mem_append_right _ hc, List.mem_append_left _ hm, hall.mono fun _ _ x => x.mono fun _ h => List.mem_append_right _ h, hr.mono fun _ _ x => x.tup ?_, fun r h => (hrg r h).1, ?_, (List.length_map _).symm, hz, ?_⟩, fun _ h => List.mem_append_right _ h⟩
  · intro q hq
    simp only [List.mem_cons, List.mem_append] at hq ⊢
    rcases hq with h | h | h | h <;> simp only [h, true_or, or_true]
  · intro q hq
    rcases List.mem_append.mp hq with hq | hq
    · exact Nat.ne_of_gt (hf q hq _ (.head _))
    · exact hO q hq
  · intro s hs
    obtain ⟨r, hr, rfl⟩ := List.mem_map.mp hs
    exact wr_of (hrg r hr).1
  · intro i r s h1 h2
    rw [List.getElem?_map, h1] at h2
    cases h2; rfl
  · intro q hq hc
    rcases List.mem_append.mp hq with hq | hq
    · exact List.mem_append_left _ hq
    · rcases List.mem_cons.mp hq with rfl | hq
      · exact absurd hc list_tup
      · rcases List.mem_cons.mp hq with rfl | hq
        · exact absurd hc list_tup
        · exact List.mem_append_right _ hq
theorem altered_start {kR K : List (Addr × Obj)} {cl lR l' : Addr} {cvs wsR ws' : List Value} {nc nR n' : Nat} {rs ss ss' : List Row} (R : Ready kR cl lR cvs wsR nc nR rs ss)
    (hm : (l', listOf ws'.toArray n') ∈ K) (hs : ∀ q ∈ kR, q ∈ K) (ha : All2 (RowAt K) ws' ss') (hw : ∀ s ∈ ss', WR s) (hl : ss'.length = ss.length) (hk : ∀ (i : Nat) (r s : Row), ss[i]? = some r → ss'[i]? = some s → r.k = s.k) :
    Ready K cl l' cvs ws' nc n' rs ss' := by
  refine ⟨hs _ R.a, hm, R.r.mono fun _ _ x => x.mono hs, ha, R.wa, hw, R.len.trans hl.symm, R.z, fun i r s h1 h2 => ?_⟩
  have hi : i < ss.length := by
    obtain ⟨h, _⟩ := List.getElem?_eq_some_iff.mp h2
    omega
  exact (R.k i r _ h1 (List.getElem?_eq_getElem hi)).trans (hk i _ s (List.getElem?_eq_getElem hi) h2)
theorem ready_pos {K : List (Addr × Obj)} {cl l : Addr} {cvs ws : List Value} {n1 n2 : Nat} {rs ss : List Row} (R : Ready K cl l cvs ws n1 n2 rs ss) (h : 1 ≤ rs.length) : 1 ≤ ss.length ∧ ss.length ≤ 100 := by
  have := R.len
  have := R.z
  omega
theorem hm_end {h₀ h' : Heap} {L I C D rl ls : Addr} {m : PySem.Str → Option Value} {s₁ : Shared} {oI oC o : Obj} {ys : List Value} {rest : List (Addr × Obj)} {k : Int} {t tp : Tok} {tk p : Nat}
    (F : Fr h₀ L h' m) (N : News h₀ L h' ((I, oI) :: (C, oC) :: (D, LCg.lst ys) :: (rl, rollO ls p tp 0) :: rest)) (off : LCg.Off3 I C D ((rl, o) :: rest)) :
    LCg.CompEnd h₀ L m s₁ I oI C oC D (LCg.lst ys) (fun _ => True) (HmEl rl ls rest) (.int k t) { s₁ with heap := h', toks := tk } :=
  ⟨h', tk, _, rfl, F, N, ⟨off.1, off.2⟩, trivial, k, t, p, tp, rfl, rfl⟩
theorem hz_of {n : Nat} {k : Int} (h : n ≤ 6 + 10 * (1 + k).toNat) (h1 : k < 2) : n ≤ 26 := by omega
theorem hp_of {k : Int} (h0 : 0 ≤ k) : 1 ≤ (1 + k).toNat := by omega
theorem turn_le {a b i : Nat} (h : a ≤ b + 10) (h' : b ≤ 6 + 10 * i) : a ≤ 6 + 10 * (i + 1) := by omega
theorem same_runs {K : List (Addr × Obj)} {cl l : Addr} {cvs ws : List Value} {n1 n2 : Nat} {rs ss : List Row} {ar : Int} (R : Ready K cl l cvs ws n1 n2 rs ss) (h : ar < 4) : (cRun (iniS ar.toNat) rs ss == lRun (iniL ar.toNat) rs ss) = true := by
  rw [plain_law (by omega) R.z R.wa R.wr R.len R.k]; exact beq_self_eq_true _
end
section
set_option maxRecDepth 100000 in
set_option maxHeartbeats 0 in
theorem lawT : PySem.Challenge.rw_ok0014_01.Holds := hd (by
  k_go0
  all_goals try k_fold
  k_with_none
  k_with "mem" => (first | with_reducible assumption | with_reducible exact List.mem_cons_self | (with_reducible refine List.mem_cons_of_mem _ ?_; k_extra "mem") | (with_reducible refine List.mem_append_left _ ?_; k_extra "mem") | (with_reducible refine List.mem_append_right _ ?_; k_extra "mem"))
  k_with "my_enter" => ((refine' code_def ?r2zk1 ?r2zk2 ?r2zk3 ?r2zk4 ?r2zk5 ?r2zkA ?r2zkF ?r2zkK ?r2zk6 ?r2zk7 ?r2zk8 ?r2zk9 ?r2zkB ?_ ?r2zc2 ?r2zc3 ?r2zc4 ?r2zc5; (case r2zkA => assumption); (case r2zkF => assumption); (case r2zkK => assumption); (case r2zk1 => k_asm); (case r2zk2 => k_asm); (case r2zk3 => k_asm); (case r2zk4 => k_asm); (case r2zk5 => k_asm); (case r2zk6 => k_is); (case r2zk7 => k_is); (case r2zk8 => omega); (case r2zk9 => exact BindsTo.of_eq rfl); (case r2zc5 => decide); (case r2zkB => exact locs rfl); (case r2zc2 => exact rfl); (case r2zc3 => exact rfl); (case r2zc4 => exact rfl); k_whole; intro zq_g' zq_L' zq_h' zq_FG' zq_F' zq_N' zq_B' zq_X' zq_T'; (try dsimp only); (try k_fold)))
  k_with "mysub" => (((with_reducible show wpAny _ _ (subscriptTail _ _ (Value.ref _) (Value.int _ _)) _ _ _); (with_unfolding_all first | (refine' sub_tup ?r3zN ?r3zm ?r3zi ?r3zj ?r3zx ?_ ?r3zh6; (case r3zN => k_asm); (case r3zm => k_extra "mem"); (case r3zi => exact rfl); (case r3zj => decide); (case r3zx => exact rfl); (case r3zh6 => rfl); k_whole) | (refine' sub_list ?r3zN ?r3zm ?r3zi ?r3zj ?r3zx ?_ ?r3zh6; (case r3zN => k_asm); (case r3zm => k_extra "mem"); (case r3zi => exact rfl); (case r3zj => omega); (case r3zx => assumption); (case r3zh6 => rfl); k_whole) | (refine' sub_list ?r3zN ?r3zm ?r3zi ?r3zj ?r3zx ?_ ?r3zh6; (case r3zN => k_asm); (case r3zm => k_extra "mem"); (case r3zi => exact rfl); (case r3zj => decide); (case r3zx => exact rfl); (case r3zh6 => rfl); k_whole) | (refine' di_item ?r3zN ?r3zm ?r3zd ?r3zv ?_ ?r3zh6; (case r3zN => k_asm); (case r3zm => k_extra "mem"); (case r3zd => with_reducible assumption); (case r3zv => with_reducible assumption); (case r3zh6 => rfl); k_whole; intro _) | (refine' ds_item ?r3zN ?r3zm ?r3zd ?r3zv ?_ ?r3zh6; (case r3zN => k_asm); (case r3zm => k_extra "mem"); (case r3zd => with_reducible assumption); (case r3zv => with_reducible assumption); (case r3zh6 => rfl); k_whole; intro _))))
  k_with "subscriptTail" => (k_extra "mysub")
  k_with "subscriptTail Name Constant ref int" => (k_extra "mysub")
  k_with "subscriptTail Name Name ref int" => (k_extra "mysub")
  k_with "subscriptTail Attribute Name Subscript Name Constant ref int" => (k_extra "mysub")
  k_with "getMethod ref" => (((with_reducible show wpAny _ _ (getMethod (Value.ref _) (PySem.Str.ofString "get") _) _ _ _); k_dflt (first | (refine' di_method ?r8zN ?r8zm ?r8zd ?_; (case r8zN => k_asm); (case r8zm => k_extra "mem"); (case r8zd => with_reducible assumption)) | (refine' ds_method ?r8zN ?r8zm ?r8zd ?_; (case r8zN => k_asm); (case r8zm => k_extra "mem"); (case r8zd => with_reducible assumption)))))
  k_with "call builtin:dict.get" => ((k_dflt (first | (refine' di_get ?r9zN ?r9zm ?r9zd ?r9zlo ?_; (case r9zN => k_asm); (case r9zm => k_extra "mem"); (case r9zd => with_reducible assumption); (case r9zlo => with_reducible assumption)) | (refine' ds_get ?r9zN ?r9zm ?r9zd ?r9zlo ?_; (case r9zN => k_asm); (case r9zm => k_extra "mem"); (case r9zd => with_reducible assumption); (case r9zlo => with_reducible assumption))); intro _))
  k_with "compareOp NotIn int ref" => ((k_dflt (refine' di_notin2 ?r10zN ?r10zm ?r10zd ?r10zlo ?_ ?_; (case r10zN => k_asm); (case r10zm => k_extra "mem"); (case r10zd => with_reducible assumption); (case r10zlo => with_reducible assumption)); intros))
  k_with "ite" => (with_reducible first | refine ite_t ?_ | refine ite_f ?_ | (refine' ite_bt ?r11zh ?_; (case r11zh => assumption)) | (refine' ite_bf ?r11zh ?_; (case r11zh => assumption)))
  k_with "opAt" => (first | with_reducible assumption | (refine' OpAt.mono ?r12zs ?r12zh; (case r12zh => with_reducible assumption); (case r12zs => k_extra "sub")) | (refine' OpAt.t ?r12zq; (case r12zq => k_extra "mem")) | (refine' OpAt.a ?r12zq; (case r12zq => k_extra "mem")) | (refine' OpAt.y ?r12zq; (case r12zq => k_extra "mem")) | (refine' OpAt.x ?r12zq; (case r12zq => k_extra "mem")))
  k_with "units" => (first | exact un1 (by with_reducible assumption) rfl | exact un0 (by with_reducible assumption) rfl | exact un2 (by with_reducible assumption) rfl | (simp only [units_in1, units_deeper, Around.mark_units, units_caller] at *; omega))
  k_with "compareOp Eq ref ref" => ((k_dflt (refine' op_eq ?r14zN ?r14za ?r14zb ?r14zu ?_; (case r14zN => k_asm); (case r14za => k_extra "opAt"); (case r14zb => k_extra "opAt"); (case r14zu => k_extra "units"); k_whole)))
  k_with "compareOp NotEq ref ref" => ((k_dflt (refine' op_ne ?r15zN ?r15za ?r15zb ?r15zu ?_; (case r15zN => k_asm); (case r15za => k_extra "opAt"); (case r15zb => k_extra "opAt"); (case r15zu => k_extra "units"); k_whole)))
  k_with "ne" => (first | with_reducible assumption | with_reducible exact Ne.symm (by with_reducible assumption) | with_reducible exact lt_ne_1 (by with_reducible assumption) | with_reducible exact lt_ne_2 (by with_reducible assumption) | with_reducible exact lt_ne_3 (by with_reducible assumption) | with_reducible exact lt_ne_4 (by with_reducible assumption) | with_reducible exact lt_ne_5 (by with_reducible assumption) | with_reducible exact lt_ne_6 (by with_reducible assumption) | with_reducible exact lt_ne_7 (by with_reducible assumption) | with_reducible exact lt_ne_8 (by with_reducible assumption) | with_reducible exact Ne.symm (lt_ne_1 (by with_reducible assumption)) | with_reducible exact Ne.symm (lt_ne_2 (by with_reducible assumption)) | with_reducible exact Ne.symm (lt_ne_3 (by with_reducible assumption)) | with_reducible exact Ne.symm (lt_ne_4 (by with_reducible assumption)) | with_reducible exact Ne.symm (lt_ne_5 (by with_reducible assumption)) | with_reducible exact Ne.symm (lt_ne_6 (by with_reducible assumption)) | with_reducible exact Ne.symm (lt_ne_7 (by with_reducible assumption)) | with_reducible exact Ne.symm (lt_ne_8 (by with_reducible assumption)) | omega)
  k_with "allne" => (first | with_reducible assumption | (refine' ne_of_lt_all ?r17zz; (case r17zz => with_reducible assumption)) | (refine' ne_of_fresh ?r17zz ?r17zm; (case r17zz => with_reducible assumption); (case r17zm => k_extra "mem")) | exact List.forall_mem_nil _ | (refine' List.forall_mem_cons.mpr ⟨?r17za, ?r17zb⟩; (case r17za => ((try dsimp only); k_extra "ne")); (case r17zb => k_extra "allne")))
  k_with "updF" => (first | (refine' UpdF.head ?r18za; (case r18za => k_extra "allne")) | (refine' UpdF.tail ?r18za ?r18zb; (case r18za => ((try dsimp only); k_extra "ne")); (case r18zb => k_extra "updF")))
  k_with "setItem ref int" => ((k_dflt (first | (refine' di_set ?r19zF ?r19zN ?r19zU ?r19zd ?r19zz ?_; (case r19zF => k_asm); (case r19zN => k_asm); (case r19zU => k_extra "updF"); (case r19zd => with_reducible assumption); (case r19zz => omega)) | (refine' ds_set ?r19zF ?r19zN ?r19zU ?r19zd ?r19zz ?_; (case r19zF => k_asm); (case r19zN => k_asm); (case r19zU => k_extra "updF"); (case r19zd => with_reducible assumption); (case r19zz => omega))); intro zq_h' zq_o' zq_F' zq_N' zq_hd'; (try dsimp only at zq_N'); (try k_sweep)))
  k_with "ifline" => (first | ((with_reducible refine' if_ne ?r20zF ?r20zv ?r20zn ?_ ?r20zk ?r20zl ?r20zd); (case r20zF => k_asm); (case r20zv => with_unfolding_all rfl); (case r20zn => decide +kernel); (case r20zk => rfl); (case r20zl => rfl); (case r20zd => decide); intro _) | ((with_reducible refine' if_eq ?r20zF ?r20zv ?r20zn ?_ ?r20zk ?r20zl ?r20zd); (case r20zF => k_asm); (case r20zv => with_unfolding_all rfl); (case r20zn => decide +kernel); (case r20zk => rfl); (case r20zl => rfl); (case r20zd => decide); intro _; dsimp only) | ((with_reducible refine' ifo_ne ?r20zF ?r20zv ?r20zn ?_ ?r20zk ?r20zl ?r20zd); (case r20zF => k_asm); (case r20zv => with_unfolding_all rfl); (case r20zn => decide +kernel); (case r20zk => rfl); (case r20zl => rfl); (case r20zd => decide); intro _) | ((with_reducible refine' ifo_eq ?r20zF ?r20zv ?r20zn ?_ ?r20zk ?r20zl ?r20zd); (case r20zF => k_asm); (case r20zv => with_unfolding_all rfl); (case r20zn => decide +kernel); (case r20zk => rfl); (case r20zl => rfl); (case r20zd => decide); intro _; dsimp only))
  k_with "execs cons" => (((with_reducible show wpAny _ _ (execs (Stmt.If _ _ _ _ :: _) _) _ _ _); k_dflt (k_extra "ifline")))
  k_with "ltall" => (first | assumption | exact tb_ltOf (by assumption) | (refine' tb_ltOf (And.right ?r22zz); (case r22zz => assumption)) | (refine' tb_ltOf (And.right (And.right ?r22zz)); (case r22zz => assumption)) | (refine' tb_ltOf (And.right (And.right (And.right ?r22zz))); (case r22zz => assumption)))
  k_with "fresh" => (first | exact FreshOver.nil | (refine' FreshOver.cons ?r23za ?r23zb; (case r23za => ((try dsimp only); k_extra "ltall")); (case r23zb => k_extra "fresh")))
  k_with "pairs" => (first | exact All2.nil | (refine' All2.cons ?r24za ?r24zb; (case r24za => (refine' PairAt.mk ?r24zc; (case r24zc => k_extra "mem"))); (case r24zb => k_extra "pairs")))
  k_with "upd" => (first | (refine' upd_app ?r25za ?r25zb; (case r25za => k_extra "allne"); (case r25zb => k_extra "upd")) | (refine' Upd.head ?r25za; (case r25za => k_extra "allne")) | (refine' Upd.tail ?r25za ?r25zb; (case r25za => ((try dsimp only); k_extra "ne")); (case r25zb => k_extra "upd")))
  k_with "setAttr ref" => ((k_dflt (refine' set_dict ?r26zF ?r26zX ?r26zN ?r26zI ?r26zd ?r26zs ?r26zp ?r26zt ?r26zh ?r26zl ?r26ze ?r26zU ?r26zz ?_; (case r26zF => k_asm); (case r26zX => k_asm); (case r26zN => k_asm); (case r26zI => k_inst); (case r26zd => exact rfl); (case r26zs => k_is); (case r26zp => k_is); (case r26zt => k_is); (case r26zh => k_is); (case r26zl => k_get); (case r26ze => k_put); (case r26zU => k_extra "upd"); (case r26zz => exact Nat.le_of_ble_eq_true rfl)); intro zq_h' zq_F' zq_N'; (try k_sweep)))
  k_with "compareOp Eq" => ((k_dflt (refine' pt_eq ?r27zN ?r27za ?r27zb ?r27zu ?_; (case r27zN => k_asm); (case r27za => with_reducible assumption); (case r27zb => with_reducible assumption); (case r27zu => k_extra "units"); k_whole)))
  k_with "compareOp NotEq" => ((k_dflt (refine' pt_ne ?r28zN ?r28za ?r28zb ?r28zu ?_; (case r28zN => k_asm); (case r28za => with_reducible assumption); (case r28zb => with_reducible assumption); (case r28zu => k_extra "units"); k_whole)))
  k_with "exec While Compare cons nil" => (first | ((k_dflt (k_extra "while")); (all_goals ((try ((try k_unmd); k_unfold; clear gG)); (try k_unmd); (try k_fold)))) | (k_here; (try k_fold); k_dflt (refine whl_start 100 ?_)))
  k_with "call builtin:isinstance" => ((k_dflt (first | (refine' isi_tup ?r30zF ?r30zX ?r30zN ?r30zm ?_; (case r30zF => k_asm); (case r30zX => k_asm); (case r30zN => k_asm); (case r30zm => k_extra "mem")) | (refine' isi_int ?r30zF ?r30zX ?r30zN ?_; (case r30zF => k_asm); (case r30zX => k_asm); (case r30zN => k_asm))); intro _))
  k_with "eval Name" => (((with_reducible refine' ldq ?r31zF ?r31zv ?r31zk ?r31zl ?r31zd ?_); (case r31zF => with_reducible assumption); (case r31zl => decide +kernel); (case r31zd => decide +kernel); (case r31zv => k_dflt (first | with_reducible assumption | exact @rfl _ (some _) | assumption)); (case r31zk => exact rfl)))
  k_with "TurnPost" => ((first | (with_reducible refine TurnPost.retI ?_) | (with_reducible refine TurnPost.nextI ?_)))
  k_with "exec For" => (((rename Fr _ _ _ _ => zq_lF'); (with_unfolding_all refine' For_invVF zq_lF' ?r33zk1 ?r33zk2 ?_; (case r33zk1 => exact rfl); (case r33zk2 => exact rfl); k_whole)))
  k_with "exec For Name Attribute cons nil" => (walk_at "exec For")
  k_with "exec For Name Name cons nil" => (walk_at "exec For")
  k_with "exec For Name Call cons nil" => (walk_at "exec For")
  k_with "rowAt" => (with_reducible assumption)
  k_with "depth" => (first | exact dp1 (by with_reducible assumption) rfl | exact dp0 (by with_reducible assumption) rfl | exact dp2 (by with_reducible assumption) rfl | (simp only [depth_under_make, depth_under_kw, depth_in1, depth_deeper, depth_caller] at *; omega))
  k_with "exec If" => (first | k_dflt (k_extra "if") | ((with_reducible refine wpAny_If ?_); (try dsimp only)))
  k_with "exec If Compare cons nil" => (walk_at "exec If")
  k_with "exec If BoolOp cons nil" => (walk_at "exec If")
  k_with "exec If Call cons nil" => (walk_at "exec If")
  k_with "exec If UnaryOp cons nil" => (walk_at "exec If")
  k_with "exec If Compare cons cons" => (walk_at "exec If")
  k_with "exec If BoolOp cons cons" => (walk_at "exec If")
  k_with "eval Call" => (((fail_if_success (with_reducible show wpAny _ _ (eval (Expr.Call (Expr.Name (PySem.Str.ofString "range") _) _ _ _) _) _ _ _)); (with_reducible show wpAny _ _ (eval (Expr.Call (Expr.Name _ _) _ _ _) _) _ _ _); k_dflt (refine Call_ ?_)))
  k_with "eval Call Attribute" => ((k_dflt (refine MethodCall_ ?_)))
  k_with "handled" => (first | assumption | exact rfl)
  k_with "frames" => (first | exact rfl | (refine' frames_deeper ?r49zz; (case r49zz => assumption)))
  k_with "pyIter ref" => (((k_dflt (k_extra "loop")); (all_goals ((try ((try k_unmd); k_unfold; clear gG)); (try dsimp only); (try k_unmd); (try k_fold)))))
  k_with "call ref" => (k_dflt (k_extra "call"))
  k_with "sub" => (first | with_reducible assumption | with_reducible exact sub_refl | (with_reducible refine sub_cons ?_; k_extra "sub") | (with_reducible refine sub_app ?_; k_extra "sub"))
  k_with "call builtin:list.append" => ((k_dflt (refine' app_l ?r53zF ?r53zN ?r53zU ?r53zz ?_; (case r53zF => k_asm); (case r53zN => k_asm); (case r53zU => k_extra "upd"); (case r53zz => exact Nat.le_of_ble_eq_true rfl)); intro zq_h' zq_F' zq_N'; (try dsimp only [List.cons_append, List.nil_append] at zq_N'); (try k_sweep)))
  k_with "compareOp In ref ref" => ((k_dflt (first | (refine' in_ops0 ?r54zN ?r54zl ?r54zo ?r54zu ?_; (case r54zN => k_asm); (case r54zl => k_extra "mem"); (case r54zo => k_extra "opAt"); (case r54zu => k_extra "units")) | (refine' in_ops1 ?r54zN ?r54zl ?r54zv ?r54zo ?r54zu ?_; (case r54zN => k_asm); (case r54zl => k_extra "mem"); (case r54zv => k_extra "opAt"); (case r54zo => k_extra "opAt"); (case r54zu => k_extra "units")))))
  k_with "assign Tuple" => ((k_dflt (refine' unpackN_ ?r55zF ?r55zN ?r55zT ?r55zh ?r55z2 ?r55z3 ?_; (case r55zF => k_asm); (case r55zN => k_asm); (case r55zT => (refine' News.isTup ?r55zy1 ?r55zy2; (case r55zy1 => k_asm); (case r55zy2 => k_extra "mem"))); (case r55zh => k_extra "handled"); (case r55z2 => exact rfl); (case r55z3 => exact rfl)); intro zq_h' zq_F' zq_N'; (try k_sweep)))
  k_with "WPost" => ((first | (with_reducible refine WPost.retI ?_) | (with_reducible refine WPost.nextI ?_)))
  k_with "WhlIf" => (((first | (refine' WhlIf.yes ?r57zz ?_; (case r57zz => (refine decide_eq_true ?_; omega))) | (refine' WhlIf.no ?r57zz ?_; (case r57zz => (refine decide_eq_false ?_; omega)))); (try dsimp only); (try k_unmd); (try k_fold)))
  k_with "call builtin:len" => ((k_dflt (refine' len_l ?r58zN ?r58zm ?r58zz ?_; (case r58zN => k_asm); (case r58zm => k_extra "mem"); (case r58zz => first | exact Nat.le_of_ble_eq_true rfl | omega)); intro _ _))
  k_with "loadName" => (((with_reducible refine' ldnq ?r59zF ?r59zv ?r59zk ?r59zl ?_); (case r59zF => with_reducible assumption); (case r59zl => decide +kernel); (case r59zv => k_dflt (first | with_reducible assumption | exact @rfl _ (some _) | assumption)); (case r59zk => exact rfl)))
  k_with "kv" => (with_reducible first | exact kv_held | exact kv_temps | exact kv_given | exact kv_out | exact kv_count)
  k_with "stitem" => ((k_dflt (refine' st_item ?r61zN ?r61zm ?r61zd ?r61zv ?_ ?r61zh6; (case r61zN => k_asm); (case r61zm => k_extra "mem"); (case r61zd => with_reducible assumption); (case r61zv => k_extra "kv"); (case r61zh6 => with_unfolding_all rfl))))
  k_with "subscriptTail Name Constant ref str" => (k_extra "stitem")
  k_with "call type:range" => ((k_dflt (first | (refine' range1_rows ?r63zF ?r63zN ?_; (case r63zF => k_asm); (case r63zN => k_asm)) | (refine' range2_rows ?r63zF ?r63zN ?_; (case r63zF => k_asm); (case r63zN => k_asm))); intro zq_h' zq_tk' zq_t9 zq_u9 zq_w9 zq_R' zq_F' zq_N' zq_kp'; clear zq_kp'; (try k_sweep)))
  k_with "TurnPost" => ((with_reducible refine TurnPost.contI ?_))
  k_with "unpackItems ref" => ((k_dflt (refine' unpackItemsN_ ?r65zF ?r65zN ?r65zT ?r65zh ?r65z2 ?_; (case r65zF => k_asm); (case r65zN => k_asm); (case r65zT => (refine' News.isTup ?r65zy1 ?r65zy2; (case r65zy1 => k_asm); (case r65zy2 => k_extra "mem"))); (case r65zh => k_extra "handled"); (case r65z2 => exact rfl)); intro zq_h' zq_F' zq_N'; (try k_sweep)))
  k_with "storeName" => (((k_dflt (refine' store_let ?r66zF ?r66zN ?_ ?r66za ?r66zb; (case r66zF => k_asm); (case r66zN => k_asm); (case r66za => rfl); (case r66zb => rfl); k_whole)); (intro zq_mk zq_h' zq_F' zq_N'); (try k_sweep)))
  k_with "callWith" => (((with_reducible show wpAny _ _ (callWith _ (Value.builtin "list.append") _ _ _) _ _ _); (k_dflt (refine callWith_method1 ?_))))
  k_with "eval Name" => (((with_reducible refine inCells ?_); name_kind "local"; (k_dflt (refine' ldLoc ?r167zF ?r167zv ?_ ?r167x1 ?r167x2 ?r167x3; (case r167zF => k_asm); (case r167x1 => exact rfl); (case r167x2 => exact rfl); (case r167x3 => decide); (case r167zv => first | exact rfl | assumption)))))
  k_with "eval Name" => (((with_reducible refine inCells ?_); (k_dflt (refine' ldCN ?r168zN ?r168zh ?r168zm ?r168zd ?_ ?r168x1 ?r168x2 ?r168x3; (case r168x1 => exact rfl); (case r168x2 => exact rfl); (case r168x3 => decide); (case r168zN => k_asm); (case r168zh => exact rfl); (case r168zm => k_extra "mem"); (case r168zd => assumption)))))
  k_with "depth" => (exact Nat.le_of_ble_eq_true rfl)
  k_with "units" => (exact Nat.le_of_ble_eq_true rfl)
  k_with "CompSrc" => ((k_dflt ((refine' LCg.CompSrc.range ?r171a1 ?r171a2 ?r171a3 ?r171a4 ?r171a5 ?r171a6 ?r171a7 ?_; (case r171a1 => rfl); (case r171a2 => k_asm); (case r171a3 => k_asm); (case r171a4 => assumption); (case r171a5 => decide); (case r171a6 => rfl); (case r171a7 => exact Nat.le_of_ble_eq_true rfl)); (intro zq_g'); (refine' hm_rest (n := 4) (fun v7 I7 oI7 C7 oC7 D7 m7 ys7 h' tk' E7 p7 tp7 hC7 hx7 F' N' off7 ne7 => ?_) (fun ys7 ns7 p7 tp7 hys7 hns7 => ?_)); (all_goals try (obtain ⟨zq_ho71, zq_ho72, zq_ho73⟩ := off3_all off7; dsimp only at zq_ho71 zq_ho72 zq_ho73)))))
  k_with "CompEnd" => ((k_dflt (refine' hm_end ?r172zF ?r172zN ?r172zo; (case r172zF => k_asm); (case r172zN => k_asm); (case r172zo => assumption))))
  k_with "FinE" => ((k_dflt ((unfold LCg.FinE); (intro zq_D' zq_h' zq_tk' zq_F' zq_N' zq_o7); (have zq_ho74 := zq_o7.1); (dsimp only at zq_ho74); (try dsimp only))))
  k_with "call" => ((with_reducible show wpAny _ _ (call (Value.ref 140) _) _ _ _); (k_dflt (refine' ct_use_rd (read_ct ⟨_, _, _, _, _, _⟩ hi9 ?y1 hlen9 ?y2 ?y3 ?y4) ?zh ?zA ?zf ?zk ?zd ?zu ?zB ?zF ?zX ?zN ?zT ?_; (case zN => k_asm); (case y1 => decide); (case y2 => k_extra "mem"); (case y3 => k_extra "mem"); (case y4 => k_extra "updF"); (case zh => k_extra "handled"); (case zA => k_extra "frames"); (case zf => exact rfl); (case zk => exact rfl); (case zd => k_extra "depth"); (case zu => k_extra "units"); (case zB => k_asm); (case zF => k_asm); (case zX => k_asm); (case zT => k_asm))); (intro k5 t5 p5 tp5 h' tk' F' N' hk0 hk1); (try dsimp only at N'); (try k_sweep))
  k_with "call" => ((with_reducible show wpAny _ _ (call (Value.ref 140) [Value.ref _, Value.int 4 _]) _ _ _); (show (let gG : Prop := _; gG)); intro gG; (rename News _ _ _ _ => lN'); (rename IntsAre _ (List.take _ _) => hI9); (obtain ⟨rl, ls, vs, e1, e2, e3, N', hi9, hlen9, n1, n2, n3⟩ := roll_start lN' hI9 (by assumption) (by assumption)); subst e1; subst e2; subst e3; clear lN'; (try k_unmd); k_unfold; clear gG; (k_dflt (refine' ct_use_rd (read_ct ⟨_, _, _, _, _, _⟩ hi9 ?y1 hlen9 ?y2 ?y3 ?y4) ?zh ?zA ?zf ?zk ?zd ?zu ?zB ?zF ?zX ?zN ?zT ?_; (case zN => k_asm); (case y1 => decide); (case y2 => k_extra "mem"); (case y3 => k_extra "mem"); (case y4 => k_extra "updF"); (case zh => k_extra "handled"); (case zA => k_extra "frames"); (case zf => exact rfl); (case zk => exact rfl); (case zd => k_extra "depth"); (case zu => k_extra "units"); (case zB => k_asm); (case zF => k_asm); (case zX => k_asm); (case zT => k_asm))); (intro ar ta p5 tp5 h' tk' F' N' ha0 ha1); (try dsimp only at N'); (try k_sweep))
  k_with "call" => ((with_reducible show wpAny _ _ (call (Value.ref 147) _) _ _ _); (show (let gG : Prop := _; gG)); intro gG; (rename News _ _ _ _ => lN'); (obtain ⟨cl, e1, N', n4, n5, hG⟩ := code_start lN' (by assumption) (by assumption) (by assumption)); subst e1; clear lN'; (try k_unmd); k_unfold; clear gG; (k_dflt (refine' ct_use (gets_ct ⟨_, _, _, _, _, _⟩ hi9 hlen9 ha0 (Int.le_of_lt_add_one ha1) n1 n4 n5 hG (by decide)) ?zh ?zA ?zf ?zk ?zd ?zu ?zB ?zF ?zX ?zN ?zT ?_; (case zN => k_asm);  (case zh => k_extra "handled"); (case zA => k_extra "frames"); (case zf => exact rfl); (case zk => exact rfl); (case zd => k_extra "depth"); (case zu => k_extra "units"); (case zB => k_asm); (case zF => k_asm); (case zX => k_asm); (case zT => k_asm))); (intro r' news' h' tk' F' N' p'); (show (let gG : Prop := _; gG)); intro gG; obtain ⟨pA, tpA, cvA, ncA, kpA, rowsA, e2, hGA, hsA, hrA⟩ := p'; (try k_unmd); k_unfold; clear gG; subst e2; have hce := hsA _ (.head _); have hOA := hGA.o1; (try k_sweep))
  k_with "call" => ((with_reducible show wpAny _ _ (call (Value.ref 140) [Value.ref _, Value.int 3 _]) _ _ _); (k_dflt (refine' ct_use_rd (read_ct ⟨_, _, _, _, _, _⟩ hi9 ?y1 hlen9 ?y2 ?y3 ?y4) ?zh ?zA ?zf ?zk ?zd ?zu ?zB ?zF ?zX ?zN ?zT ?_; (case zN => k_asm); (case y1 => decide); (case y2 => k_extra "mem"); (case y3 => k_extra "mem"); (case y4 => k_extra "updF"); (case zh => k_extra "handled"); (case zA => k_extra "frames"); (case zf => exact rfl); (case zk => exact rfl); (case zd => k_extra "depth"); (case zu => k_extra "units"); (case zB => k_asm); (case zF => k_asm); (case zX => k_asm); (case zT => k_asm))); (intro ka tka p5 tp5 h' tk' F' N' hka0 hka1); (try dsimp only at N'); (try k_sweep))
  k_with "call" => ((with_reducible show wpAny _ _ (call (Value.ref 154) _) _ _ _); (k_dflt (refine' ct_use (puts_ct ⟨_, _, _, _, _, _⟩ hi9 hlen9 n1 n4 n5 hGb hrl') ?zh ?zA ?zf ?zk ?zd ?zu ?zB ?zF ?zX ?zN ?zT ?_; (case zN => k_asm);  (case zh => k_extra "handled"); (case zA => k_extra "frames"); (case zf => exact rfl); (case zk => exact rfl); (case zd => k_extra "depth"); (case zu => k_extra "units"); (case zB => k_asm); (case zF => k_asm); (case zX => k_asm); (case zT => k_asm))); (intro r' news' h' tk' F' N' p'); (show (let gG : Prop := _; gG)); intro gG; obtain ⟨pB, tpB, cvB, ncB, TB, rowsB, e2, hGB, hsB, hrB, hrB1⟩ := p'; (try k_unmd); k_unfold; clear gG; subst e2; have hce2 := List.mem_append_right TB hce1; (try k_sweep))
  k_with "call" => ((with_reducible show wpAny _ _ (call (Value.ref 161) _) _ _ _); (show (let gG : Prop := _; gG)); intro gG; (rename News _ _ _ _ => lN'); (obtain ⟨kH, N', hOH, hAH, hcH, hlH, hsH⟩ := homes_start lN' (by first | assumption | exact Ne.symm (by assumption) | exact Nat.ne_of_gt (And.left (by assumption))) n4 hG'); clear lN'; (try k_unmd); k_unfold; clear gG; (k_dflt (refine' ct_use_ro (real_ct ⟨_, _, _, _, _, _⟩ (.tail _ (.tail _ hcH)) (.tail _ (.tail _ hlH)) ?y1 ?y2 (hAH.mono fun _ _ x => x.mono fun _ h => .tail _ (.tail _ h)) hG'.rg (Nat.le_trans hz9 (by decide))) ?zh ?zA ?zf ?zk ?zd ?zu ?zB ?zF ?zX ?zN ?zT ?_; (case zN => k_asm); (case y1 => first | assumption | exact .cons ⟨_, rfl⟩ (.cons ⟨_, rfl⟩ (.cons ⟨_, rfl⟩ (.cons ⟨_, rfl⟩ .nil)))); (case y2 => first | assumption | rfl); (case zh => k_extra "handled"); (case zA => k_extra "frames"); (case zf => exact rfl); (case zk => exact rfl); (case zd => k_extra "depth"); (case zu => k_extra "units"); (case zB => k_asm); (case zF => k_asm); (case zX => k_asm); (case zT => k_asm))); (intro lR nR wsR TR h' tk' F' N' hP9; (try dsimp only at hP9); (show (let gG : Prop := _; gG)); intro gG; obtain ⟨hfR, hmR, hrR⟩ := hP9); obtain ⟨kR, ssR, N2', hOR, hRd, hRF, hsR⟩ := real_start N' hOH hAH hcH hfR hmR hrR hG'.rg (Nat.le_trans hz9 (by decide)); clear N'; have hce3 := hsR _ (hsH _ hce1); have hrp := ready_pos hRd hp9; (all_goals ((try k_unmd); k_unfold; clear gG)); (try k_sweep))
  k_with "call" => ((with_reducible show wpAny _ _ (call (Value.ref 203) _) _ _ _); (k_dflt (refine' ct_use (altered_ct ⟨_, _, _, _, _, _⟩ hi9 hlen9 n1 hOR hRd.b hRd.s hRd.wr hrp.1 hrp.2) ?zh ?zA ?zf ?zk ?zd ?zu ?zB ?zF ?zX ?zN ?zT ?_; (case zN => k_asm);  (case zh => k_extra "handled"); (case zA => k_extra "frames"); (case zf => exact rfl); (case zk => exact rfl); (case zd => k_extra "depth"); (case zu => k_extra "units"); (case zB => k_asm); (case zF => k_asm); (case zX => k_asm); (case zT => k_asm))); (intro r' news' h' tk' F' N' p'); (show (let gG : Prop := _; gG)); intro gG; obtain ⟨l2, n2', ws2, ss2, e1, hm2', hs2, ha2, hw2, hl2, hk2⟩ := p'; (try k_unmd); k_unfold; clear gG; subst e1; clear hRF; have hRF := altered_start hRd hm2' hs2 ha2 hw2 hl2 hk2; (try k_sweep))
  k_with "call" => ((with_reducible show wpAny _ _ (call (Value.ref 133) _) _ _ _); (k_dflt (refine' ct_use_eq (check_ct ⟨_, _, _, _, _, _⟩ hRF.a hRF.b hRF.r hRF.s hRF.wa hRF.wr hRF.len hRF.z ha0 (Int.le_of_lt_add_one ha1)) ?zh ?zA ?zf ?zk ?zd ?zu ?zB ?zF ?zX ?zN ?zT ?_; (case zN => k_asm);  (case zh => k_extra "handled"); (case zA => k_extra "frames"); (case zf => exact rfl); (case zk => exact rfl); (case zd => k_extra "depth"); (case zu => k_extra "units"); (case zB => k_asm); (case zF => k_asm); (case zX => k_asm); (case zT => k_asm))); (intro h' tk' F' N'); (try k_sweep))
  k_with "call" => ((with_reducible show wpAny _ _ (call (Value.ref 196) _) _ _ _); (k_dflt (refine' ct_use_eq (keeps_ct ⟨_, _, _, _, _, _⟩ hRF.a hRF.b hRF.k hRF.r hRF.s hRF.wa hRF.wr hRF.len hRF.z ha0 (Int.le_of_lt_add_one ha1)) ?zh ?zA ?zf ?zk ?zd ?zu ?zB ?zF ?zX ?zN ?zT ?_; (case zN => k_asm);  (case zh => k_extra "handled"); (case zA => k_extra "frames"); (case zf => exact rfl); (case zk => exact rfl); (case zd => k_extra "depth"); (case zu => k_extra "units"); (case zB => k_asm); (case zF => k_asm); (case zX => k_asm); (case zT => k_asm))); (intro h' tk' F' N'); (try k_sweep))
  k_with "loop" => (
    (rename Fr _ _ _ _ => lF'); (rename News _ _ _ _ => lN'); (rename IsRange _ _ _ _ _ _ _ _ => lR')
    refine ra_iter (n := (1 + k5).toNat) (fun i m nx => ∃ b p tp cvs nc kp rows, m (PySem.Str.ofString "arity") = some (.int ar ta) ∧ m (PySem.Str.ofString "clean") = some (.bool b) ∧ m (PySem.Str.ofString "alter") = some (.int ka tka) ∧ m (PySem.Str.ofString "code") = some (.ref cl) ∧ nx = (rl, rollO ls p tp 0) :: (ls, listOf vs.toArray 0) :: (cl, listOf (cvs : List Value).toArray nc) :: kp ∧ GOk rl ls cl kp cvs rows ∧ (∀ q ∈ kpA, q ∈ kp) ∧ rows.length ≤ 6 + 10 * i ∧ (1 ≤ i → 1 ≤ rows.length))
      (by first | assumption | exact rfl) lR' (range_in2 hk0 hk1).1 (range_in2 hk0 hk1).2 lF' lN' ⟨_, _, _, cvA, _, kpA, rowsA, rfl, rfl, rfl, rfl, rfl, hGA, fun _ h => h, by simpa using hrA, fun h => absurd h (by decide)⟩ (fun i ti m₁ nx h' tk' own hi99 hoff hJ F' N' => ?_) (fun m₁ nx h' tk' hJ F' N' => ?_)
    all_goals (
      clear lF' lN' lR'
      (show (let gG : Prop := _; gG)); intro gG; obtain ⟨b9, p9, tp9, cvs', nc', kp, rows', hm1, hm2, hm3, hm4, hnx, hG', hsk, hrl9, hr19⟩ := hJ
      subst hnx
      (try dsimp only)
      have hOA9 := hG'.o1)
    rotate_left 1
    have hce1 := hsk _ hce
    have hz9 : rows'.length ≤ 26 := hz_of hrl9 hk1
    have hp9 : 1 ≤ rows'.length := hr19 (hp_of hk0)
    rotate_right 1
    dsimp only [List.cons_append] at N'
    have hGb := hG'.toB hoff
    have hrl' : rows'.length ≤ 100 := by omega
    have hce1 : _ ∈ kp ++ own := List.mem_append_left _ (hsk _ hce))
  repeat' ((fail_if_success (goal_has Mine.lRun)); first | (k_unfold; (try dsimp only)) | (k_end; wrow_close) | walk1 | (dsimp only; walk1) | (leave1; try dsimp only))
  · rename Fr _ _ _ _ => F9
    rename News _ _ _ _ => N9
    refine law_end F9 N9 hsB hoff ⟨_, _, _, _, _, _, rowsB, hm1, hm2, hm3, hm4, rfl, hGB.toOk, fun q hq => List.mem_append_right _ (hsk q hq), ?_, fun _ => hrB1⟩
    exact turn_le hrB hrl9
  all_goals (walk1; (try dsimp only); rw [same_runs hRF ha1]; k_unfold; (try dsimp only); k_end; refine goodW_bool (by with_reducible assumption) (by with_reducible assumption) (raisesW_false ?_) ?_)
  all_goals first | wrow_none_raised | (refine postW_of (by wrow_shape) (w_eq_bool (w_res rfl) w_lit) ?_; rfl))
end
end
end Mine
theorem PySem.Challenge.cw_ok0014_01_holds : PySem.Challenge.rw_ok0014_01.Holds :=
  Mine.lawT
