import PyProof.Rows.All
import Wide.All
import OpenK.AllK
import Wide.FinOn
import PySem.Challenge.RW_xw0113_01
open PySem PySem.W PySem.Calls PyProof.Rows PySem.Spec
set_option Elab.async false
set_option maxRecDepth 100000
set_option maxHeartbeats 8000000
namespace Mine
abbrev Led := List (Addr × Obj)
def SeqAt (h : Heap) (as : List Addr) : Prop := ∀ b ∈ as, ∀ o, h.get? b = some o → ∀ es n, o.data ≠ .dict es n
theorem ns_hide {h : Heap} {as : List Addr} (S : SeqAt h as) {a : Addr} {m : Str → Option Value} (N : h.Ns a m) : (hideAll h as).Ns a m := by
  obtain ⟨o, es, ep, ho, hd, r⟩ := N
  exact ⟨o, es, ep, hideAll_get _ ho (fun hm => S a hm o ho _ _ hd), hd, r⟩
theorem topRead_hide {p : Program} {loose : List Str} {mg mb : Str → Option Value} {h : Heap} {as : List Addr} (S : SeqAt h as) (T : TopRead p loose mg mb h) : TopRead p loose mg mb (hideAll h as) :=
  ⟨ns_hide S T.g, ns_hide S T.b, (let ⟨mc, h1, h2⟩ := T.nolimit; ⟨mc, ns_hide S h1, h2⟩), T.builtins, T.free⟩

abbrev tupO (vs : List Value) : Obj := { cls := .type "tuple", data := .seq vs.toArray }
abbrev lisO (vs : List Value) (n : Nat) : Obj := { cls := .type "list", data := .seq vs.toArray n }
section
variable {prog : Program} {w : World} {A : Around} {E : Value → Shared → Prop} {s : Shared} {h₀ : Heap} {L : Addr} {m : Str → Option Value} {news : Led}
theorem newTuple_M {M : Model} {vs : List Value} {Q : Value → Shared → Prop} (F : Fr h₀ L s.heap m) (N : News h₀ L s.heap news)
    (h : ∀ x h', Fr h₀ L h' m → News h₀ L h' ((x, tupO vs) :: news) → AllLt x ((L, lisO [] 0) :: news) → Q (.ref x) { s with heap := h' }) (hsz : vs.length ≤ sizeLine) :
    wpAny M A (newTuple vs) Q E s := newTuple_N F N (fun h' F' N' => h _ h' F' N' (allLt_of fun p hp => by
      rcases List.mem_cons.mp hp with rfl | hp
      · exact F.ns.lt
      · exact Heap.lt_size (N p hp).1)) hsz
theorem newList_M {M : Model} {vs : List Value} {Q : Value → Shared → Prop} (F : Fr h₀ L s.heap m) (N : News h₀ L s.heap news)
    (h : ∀ x h', Fr h₀ L h' m → News h₀ L h' ((x, lisO vs 0) :: news) → AllLt x ((L, lisO [] 0) :: news) → Q (.ref x) { s with heap := h' }) (hsz : vs.length ≤ sizeLine) :
    wpAny M A (newList vs) Q E s := newList_N F N (fun h' F' N' => h _ h' F' N' (allLt_of fun p hp => by
      rcases List.mem_cons.mp hp with rfl | hp
      · exact F.ns.lt
      · exact Heap.lt_size (N p hp).1)) hsz
end
structure Wd (k B : Int) : Prop where
  lo : 7 ≤ k
  hi : k ≤ 11
  is : B = 2 ^ k.toNat
theorem Wd.cases {k B : Int} (h : Wd k B) : B = 128 ∨ B = 256 ∨ B = 512 ∨ B = 1024 ∨ B = 2048 := by
  obtain ⟨h1, h2, h3⟩ := h
  have : k = 7 ∨ k = 8 ∨ k = 9 ∨ k = 10 ∨ k = 11 := by omega
  rcases this with rfl | rfl | rfl | rfl | rfl <;> simp_all
theorem Wd.ge {k B : Int} (h : Wd k B) : 128 ≤ B := by have := h.cases; omega
theorem Wd.le {k B : Int} (h : Wd k B) : B ≤ 2048 := by have := h.cases; omega
section
variable {prog : Program} {w : World} {A : Around} {E : Value → Shared → Prop} {s : Shared} {env : Env} {test : Expr} {body : List Stmt} {Q : Flow → Shared → Prop}
def WRest (prog : Program) (w : World) (A : Around) (env : Env) (test : Expr) (body : List Stmt) (Q : Flow → Shared → Prop) : Nat → Shared → Prop
  | 0, _ => False
  | n + 1, s => wpAny (model prog w) A (isTrue test env (eval test env)) (fun b s₂ => if b = true
      then wpAny (model prog w) A (execs body env) (fun f s₃ => match f with
            | .next => WRest prog w A env test body Q n s₃
            | .cont => WRest prog w A env test body Q n s₃
            | .brk => Q .next s₃
            | .ret v => Q (.ret v) s₃) (fun _ _ => False) s₂
      else Q .next s₂) (fun _ _ => False) s
theorem WRest.succ {n : Nat} (h : wpAny (model prog w) A (isTrue test env (eval test env)) (fun b s₂ => if b = true
      then wpAny (model prog w) A (execs body env) (fun f s₃ => match f with
            | .next => WRest prog w A env test body Q n s₃
            | .cont => WRest prog w A env test body Q n s₃
            | .brk => Q .next s₃
            | .ret v => Q (.ret v) s₃) (fun _ _ => False) s₂
      else Q .next s₂) (fun _ _ => False) s) : WRest prog w A env test body Q (n + 1) s := h
theorem while_M {pos : Pos} (n : Nat) (h : WRest prog w A env test body Q n s) : wpAny (model prog w) A (exec (.While test body [] pos) env) Q E s := by
  refine wpAny_While (codeAny_whileLoop (fun n s => WRest prog w A env test body Q n s) (fun n s hI => ?_) n h)
  cases n with
  | zero => exact hI.elim
  | succ n =>
    refine wpAny_mono hI (fun b s₂ h₂ => ?_) fun _ _ x => x.elim
    cases b with
    | false => exact wpAny_pure h₂
    | true =>
      refine wpAny_mono h₂ (fun f s₃ h₃ => ?_) fun _ _ x => x.elim
      cases f with
      | next => exact ⟨n, Nat.lt_succ_self _, h₃⟩
      | cont => exact ⟨n, Nat.lt_succ_self _, h₃⟩
      | brk => exact h₃
      | ret v => exact h₃
end
theorem slice_M {prog : Program} {w : World} {A : Around} {E : Value → Shared → Prop} {s : Shared} {h₀ : Heap} {L l : Addr} {m : Str → Option Value} {news : Led} {value slice : PySem.Expr} {its : Array Value} {zs : List Value} {vl vu : Value} {lo hi : Option Int} {Q : Value → Shared → Prop}
    (F : Fr h₀ L s.heap m) (N : News h₀ L s.heap news) (hl : s.heap.IsList l its) (pl : IsPart vl lo) (pu : IsPart vu hi) (e : kms_pick its.toList lo hi = zs)
    (h : ∀ D h', Fr h₀ L h' m → News h₀ L h' ((D, lisO zs 0) :: news) → AllLt D ((L, lisO [] 0) :: news) → Q (.ref D) { s with heap := h' })
    (hs : subscripted slice false (.ref l) (.ref s.heap.objs.size) = operate [.ref s.heap.objs.size, .ref l] (getItem (.ref l) (.ref s.heap.objs.size))) (ht : ∀ r, letTemporaryGo value (.ref l) r = pure ()) (hz : its.size ≤ sizeLine) :
    wpAny (model prog w) A (subscriptTail value slice (.ref l) (.ref s.heap.objs.size)) Q E { s with heap := s.heap.push { cls := .type "slice", data := .fields #[vl, vu, .none] } } := by
  refine slice_list F N hl pl pu (fun h' F' N' => h _ h' F' ?_ (allLt_of fun p hp => ?_)) hs ht hz
  · rw [kms_pick_eq] at N'
    subst e
    exact N'
  · refine Nat.lt_succ_of_lt ?_
    rcases List.mem_cons.mp hp with rfl | hp
    · exact F.ns.lt
    · exact Heap.lt_size (N p hp).1

theorem mul_M {prog : Program} {w : World} {A : Around} {E : Value → Shared → Prop} {s : Shared} {a b : Int} {t u : Tok} {Q : Value → Shared → Prop} (h1 : -100000 ≤ a ∧ a ≤ 100000) (h : Q (.int (a * b) s.toks) { s with toks := s.toks + 1 }) :
    wpAny (model prog w) A (binaryOp .Mult (.int a t) (.int b u)) Q E s := mul_int h (IntMulOk.of_left (intBits_le_64 (by omega) (by omega)))

section
variable {prog : Program} {w : World} {A : Around} {E : Value → Shared → Prop} {s : Shared} {h₀ : Heap} {L : Addr} {m : Str → Option Value} {env : Env}
theorem newEnv_one {M : Model} {A : Around} {E : Value → Shared → Prop} {s : Shared} {scope : Scope} {globals : Addr} {cl : List (Str × Addr)} {qual : Str} {outer : Env} {x : Str} {Q : Env → Shared → Prop}
    (hp : ∀ h, pushCells h scope.names = h.push { cls := .type "cell", data := .cell none }) (hc : ∀ n, cellsFrom n scope.names cl = (x, n) :: cl)
    (hQ : Q { scope := scope, locals := s.heap.objs.size, globals := globals, cells := (x, s.heap.objs.size + 1) :: cl, qual := qual, func := none, code := outer.code, frame := outer.frame, builtins := outer.builtins }
      { s with heap := (s.heap.push { cls := .type "dict", data := .dict #[] }).push { cls := .type "cell", data := .cell none } }) :
    wpAny M A (newFunctionEnv scope globals cl [] qual none .none (some outer)) Q E s := by
  simp only [newFunctionEnv, Option.isSome_some, if_true]
  refine wpAny_bind (wpAny_alloc ?_)
  refine wpAny_bind (wpAny_layCells _ (fun name kind cells => by cases hkc : kind == NameKind.cell <;> simp [hkc]) _ _ _ _ ?_)
  rw [hp, hc, Heap.size_push]
  refine wpAny_bind ?_
  rw [List.forIn_nil]
  exact wpAny_pure (wpAny_pure hQ)

end
section
variable {prog : Program} {w : World} {A : Around} {E : Value → Shared → Prop} {s : Shared} {a b : Int} {t u : Tok} {Q : Value → Shared → Prop}
theorem mod_pos_M (hb : 0 < b) (h : Q (.int (a % b) s.toks) { s with toks := s.toks + 1 }) : wpAny (model prog w) A (binaryOp .Mod (.int a t) (.int b u)) Q E s := by
  refine mod_int' (by omega) ?_
  rw [Int.fmod_eq_emod_of_nonneg _ (by omega)]; exact h
theorem fdiv_pos_M (hb : 0 < b) (hb2 : b ≤ 4096) (h : Q (.int (a / b) s.toks) { s with toks := s.toks + 1 }) : wpAny (model prog w) A (binaryOp .FloorDiv (.int a t) (.int b u)) Q E s := by
  refine floordiv_int (by omega) ?_ (.inl (PyProof.noPylong_small (by omega)))
  rw [Int.fdiv_eq_ediv_of_nonneg _ (by omega)]; exact h
end
/-- a plain value: ints without tokens; frozen tuples and lists by what they hold; an own list by its number -/
inductive PV where
  | int (i : Int)
  | raw (v : Value)
  | tup (vs : List PV)
  | lis (vs : List PV)
  | own (k : Nat)
  | rng (a b s : Int)
abbrev rngO (a b s : Int) (t u v : Tok) : Obj := { cls := .type "range", dict := none, data := .fields #[.int a t, .int b u, .int s v], slots := #[] }
mutual
inductive VR (H : Led) : List Addr → PV → Value → Prop
  | int {As : List Addr} (i : Int) (t : Tok) : VR H As (.int i) (.int i t)
  | raw {As : List Addr} (v : Value) : VR H As (.raw v) v
  | tup {As : List Addr} {vs : List PV} {rs : List Value} {a : Addr} (m : (a, tupO rs) ∈ H) (x : VRs H As vs rs) : VR H As (.tup vs) (.ref a)
  | lis {As : List Addr} {vs : List PV} {rs : List Value} {n : Nat} {a : Addr} (m : (a, lisO rs n) ∈ H) (x : VRs H [] vs rs) : VR H As (.lis vs) (.ref a)
  | own {As : List Addr} {k : Nat} {a : Addr} (m : As[k]? = some a) : VR H As (.own k) (.ref a)
  | rng {As : List Addr} {x y s : Int} {t u v : Tok} {a : Addr} (m : (a, rngO x y s t u v) ∈ H) : VR H As (.rng x y s) (.ref a)
inductive VRs (H : Led) : List Addr → List PV → List Value → Prop
  | nil {As : List Addr} : VRs H As [] []
  | cons {As : List Addr} {v : PV} {r : Value} {vs : List PV} {rs : List Value} (x : VR H As v r) (y : VRs H As vs rs) : VRs H As (v :: vs) (r :: rs)
end
/-- the frame, the frozen things, the own lists, the cells, the heap -/
structure Cf where
  H : Led
  O : Led
  Z : Led
  m : Str → Option Value
  h : Heap
abbrev Cf.As (k : Cf) : List Addr := k.O.map (·.1)
structure Grow (k k' : Cf) : Prop where
  h : ∀ p ∈ k.H, p ∈ k'.H
  a : ∀ (i : Nat) (a : Addr), k.As[i]? = some a → k'.As[i]? = some a
theorem Grow.rfl' {k : Cf} : Grow k k := ⟨fun _ h => h, fun _ _ h => h⟩
theorem Grow.trans {k k' k₂ : Cf} (x : Grow k k') (y : Grow k' k₂) : Grow k k₂ := ⟨fun p h => y.h p (x.h p h), fun i a h => y.a i a (x.a i a h)⟩
mutual
theorem VR.mono {H H' : Led} (hH : ∀ p ∈ H, p ∈ H') : ∀ {As As' : List Addr} {v : PV} {r : Value}, (∀ (k : Nat) (a : Addr), As[k]? = some a → As'[k]? = some a) → VR H As v r → VR H' As' v r
  | _, _, _, _, _, .int i t => .int i t
  | _, _, _, _, _, .raw v => .raw v
  | _, _, _, _, hA, .tup m x => .tup (hH _ m) (VRs.mono hH hA x)
  | _, _, _, _, _, .lis m x => .lis (hH _ m) (VRs.mono hH (fun _ _ h => h) x)
  | _, _, _, _, hA, .own m => .own (hA _ _ m)
  | _, _, _, _, _, .rng m => .rng (hH _ m)
theorem VRs.mono {H H' : Led} (hH : ∀ p ∈ H, p ∈ H') : ∀ {As As' : List Addr} {vs : List PV} {rs : List Value}, (∀ (k : Nat) (a : Addr), As[k]? = some a → As'[k]? = some a) → VRs H As vs rs → VRs H' As' vs rs
  | _, _, _, _, _, .nil => .nil
  | _, _, _, _, hA, .cons x y => .cons (VR.mono hH hA x) (VRs.mono hH hA y)
end
theorem VR.grow {k k' : Cf} {v : PV} {r : Value} (x : VR k.H k.As v r) (g : Grow k k') : VR k'.H k'.As v r := x.mono g.h g.a
theorem VRs.grow {k k' : Cf} {v : List PV} {r : List Value} (x : VRs k.H k.As v r) (g : Grow k k') : VRs k'.H k'.As v r := x.mono g.h g.a
theorem VRs.len {H : Led} {As : List Addr} : ∀ {vs : List PV} {rs : List Value}, VRs H As vs rs → vs.length = rs.length
  | _, _, .nil => rfl
  | _, _, .cons _ y => by rw [List.length_cons, List.length_cons, VRs.len y]
theorem VRs.at {H : Led} {As : List Addr} : ∀ {vs : List PV} {rs : List Value} {i : Nat} {v : PV}, VRs H As vs rs → vs[i]? = some v → ∃ r, rs[i]? = some r ∧ VR H As v r
  | _, _, _, _, .nil, h => by simp at h
  | _, _, 0, _, .cons x _, h => by
    simp only [List.getElem?_cons_zero, Option.some.injEq] at h ⊢
    exact ⟨_, rfl, h ▸ x⟩
  | _, _, _ + 1, _, .cons _ y, h => by
    simp only [List.getElem?_cons_succ] at h ⊢
    exact VRs.at y h
theorem VRs.append {H : Led} {As : List Addr} : ∀ {vs : List PV} {rs : List Value} {us : List PV} {ss : List Value}, VRs H As vs rs → VRs H As us ss → VRs H As (vs ++ us) (rs ++ ss)
  | _, _, _, _, .nil, h => h
  | _, _, _, _, .cons x y, h => .cons x (VRs.append y h)
theorem VRs.set {H : Led} {As : List Addr} : ∀ {vs : List PV} {rs : List Value} {i : Nat} {v : PV} {r : Value}, VRs H As vs rs → VR H As v r → VRs H As (vs.set i v) (rs.set i r)
  | _, _, _, _, _, .nil, _ => .nil
  | _, _, 0, _, _, .cons _ y, h => .cons h y
  | _, _, _ + 1, _, _, .cons x y, h => .cons x (VRs.set y h)
theorem VRs.take {H : Led} {As : List Addr} : ∀ {vs : List PV} {rs : List Value} (n : Nat), VRs H As vs rs → VRs H As (vs.take n) (rs.take n)
  | _, _, 0, _ => .nil
  | _, _, _ + 1, .nil => .nil
  | _, _, n + 1, .cons x y => .cons x (VRs.take n y)
theorem VRs.nils {H : Led} {As : List Addr} {rs : List Value} (h : VRs H As [] rs) : rs = [] := by cases h; rfl

/-- where a name stands -/
inductive Place where
  | frame
  | dict (a : Addr)
  | cell (a : Addr)
def Holds (k : Cf) (x : Str) (r : Value) : Place → Prop
  | .frame => k.m x = some r
  | .dict a => ∃ o m', (a, o) ∈ k.Z ∧ LCg.NsObj o m' ∧ m' x = some r
  | .cell a => ∃ o, (a, o) ∈ k.Z ∧ o.data = .cell (some r)

structure St where
  loc : List (Option PV)
  obs : List (List PV)
  live : Bool
/-! lists made at once: each hands the finished thing on -/
def setC {α : Type} : List α → Nat → α → (List α → Prop) → Prop
  | [], _, _, K => K []
  | _ :: xs, 0, v, K => K (v :: xs)
  | x :: xs, i + 1, v, K => setC xs i v fun l => K (x :: l)
theorem setC_eq {α : Type} {v : α} : ∀ {l : List α} {i : Nat} {K : List α → Prop}, setC l i v K = K (l.set i v)
  | [], _, _ => rfl
  | _ :: _, 0, _ => rfl
  | _ :: xs, i + 1, _ => setC_eq (l := xs)
def appC {α : Type} : List α → List α → (List α → Prop) → Prop
  | [], l, K => K l
  | x :: xs, l, K => appC xs l fun r => K (x :: r)
theorem appC_eq {α : Type} {m : List α} : ∀ {l : List α} {K : List α → Prop}, appC l m K = K (l ++ m)
  | [], _ => rfl
  | _ :: xs, _ => appC_eq (l := xs)
def takeC {α : Type} : List α → Nat → (List α → Prop) → Prop
  | _, 0, K => K []
  | [], _ + 1, K => K []
  | x :: xs, n + 1, K => takeC xs n fun r => K (x :: r)
theorem takeC_eq {α : Type} : ∀ {l : List α} {n : Nat} {K : List α → Prop}, takeC l n K = K (l.take n)
  | _, 0, _ => by cases ‹List α› <;> rfl
  | [], _ + 1, _ => rfl
  | _ :: xs, n + 1, _ => takeC_eq (l := xs)
def repC {α : Type} (v : α) : Nat → (List α → Prop) → Prop
  | 0, K => K []
  | n + 1, K => repC v n fun r => K (v :: r)
theorem repC_eq {α : Type} {v : α} : ∀ {n : Nat} {K : List α → Prop}, repC v n K = K (List.replicate n v)
  | 0, _ => rfl
  | n + 1, _ => repC_eq (n := n)
/-- small written numbers -/
def litC (n : Int) (K : Int → Prop) : Prop := match n with
  | .ofNat 0 => K 0
  | .ofNat 1 => K 1
  | .ofNat 2 => K 2
  | .ofNat 3 => K 3
  | .ofNat 4 => K 4
  | .negSucc 0 => K (-1)
  | m => K m
theorem litC_eq {n : Int} {K : Int → Prop} : litC n K = K n := by
  unfold litC
  split <;> rfl
def lenC {α : Type} (l : List α) (K : Int → Prop) : Prop := match l with
  | [] => K 0
  | [_] => K 1
  | [_, _] => K 2
  | [_, _, _] => K 3
  | [_, _, _, _] => K 4
  | l => K l.length
theorem lenC_eq {α : Type} {l : List α} {K : Int → Prop} : lenC l K = K l.length := by
  unfold lenC
  split <;> rfl
def startC (vs : List PV) (n : Nat) (K : List (Option PV) → Prop) : Prop := match vs with
  | [] => repC none n K
  | v :: vs => startC vs n fun l => K (some v :: l)
theorem startC_eq {n : Nat} : ∀ {vs : List PV} {K : List (Option PV) → Prop}, startC vs n K = K (vs.map some ++ List.replicate n none)
  | [], _ => by unfold startC; exact repC_eq
  | v :: vs, K => by
    unfold startC
    exact startC_eq (vs := vs)
/-- the run -/
structure Rn where
  prog : Program
  w : World
  K : Frag
  p : Program
  loose : List Str
  mg : Str → Option Value
  mb : Str → Option Value
  fx : Led
/-- the surroundings of one call -/
structure Cx where
  D : Rn
  dp : Nat
  un : Nat
  gd : Option (List Code)
  cn : Str
  cs : Scope
  L : Addr
  a : Addr
  ccd : Value
  cl : List (Str × Addr)
  outer : List Env
  g : Heap
  base : Heap
  A₀ : Around
  s0 : Shared
  d : Nat
  env : Env
  sl : List (Str × Place)
  zs : List Addr
abbrev Cx.A (c : Cx) : Around := ktrTop c.dp c.un c.gd c.cn c.cs c.L c.a c.ccd c.cl c.outer
abbrev Cx.M (c : Cx) : Model := model c.D.prog c.D.w
abbrev Cx.at (c : Cx) (k : Cf) (tk : Nat) : Shared := { c.s0 with heap := k.h, toks := tk }
structure Cx.Ok (c : Cx) : Prop where
  B : Below c.A₀ c.base c.outer c.g
  K : c.D.K.In c.g
  T : TopRead c.D.p c.D.loose c.D.mg c.D.mb c.g
  k : c.cs.kind = .function
  hd : c.dp + c.d < recursionLimit
  hu : c.un + 8 * c.d < cLine
  ek : c.env.scope.kind = .function
  eg : c.env.globals = mainGlobals
  eb : c.env.builtins = builtinsNs
  sd : c.sl.Nodup
  zd : c.zs.Nodup
  cz : ∀ x y a, (x, Place.cell a) ∈ c.sl → (y, Place.cell a) ∈ c.sl → x = y
  dz : ∀ x y a, (x, Place.cell a) ∈ c.sl → (y, Place.dict a) ∉ c.sl
  sz : ∀ x a, (x, Place.cell a) ∈ c.sl ∨ (x, Place.dict a) ∈ c.sl → a ∈ c.zs
def Dis (l l' : Led) : Prop := ∀ p ∈ l, ∀ q ∈ l', p.1 ≠ q.1
structure Rel (c : Cx) (X : Led) (k : Cf) (σ : St) : Prop where
  F : Fr c.g c.L k.h k.m
  N : News c.g c.L k.h (k.Z ++ (k.O ++ (k.H ++ X)))
  fx : ∀ p ∈ c.D.fx, p ∈ k.H
  za : k.Z.map (·.1) = c.zs
  ll : σ.loc.length = c.sl.length
  ol : k.O.length = σ.obs.length
  ob : ∀ (i : Nat) (vs : List PV), σ.obs[i]? = some vs → ∃ a rs n, k.O[i]? = some (a, lisO rs n) ∧ VRs k.H k.As vs rs
  lo : ∀ (i : Nat) (x : Str) (pl : Place) (v : PV), c.sl[i]? = some (x, pl) → σ.loc[i]? = some (some v) → ∃ r, Holds k x r pl ∧ VR k.H k.As v r
  ce : ∀ (x : Str) (a : Addr), (x, Place.cell a) ∈ c.sl → ∃ o v₀, (a, o) ∈ k.Z ∧ o.data = .cell v₀
  nd : k.As.Nodup
  zo : Dis k.Z (k.O ++ (k.H ++ X))
  xo : Dis X (k.O ++ k.H)
  oh : σ.live = true → Dis k.O k.H
/-- t, where it is run, does what the transformer f says -/
def Post (c : Cx) (X : Led) (k : Cf) {α β : Type} (V : Cf → β → α → Prop) (Φ : β → St → Prop) (Q : α → Shared → Prop) : Prop :=
  ∀ v σ' k' tk' r, Φ v σ' → Rel c X k' σ' → Grow k k' → V k' v r → Q r (c.at k' tk')
theorem Post.up {c : Cx} {X : Led} {k k' : Cf} {α β : Type} {V : Cf → β → α → Prop} {Φ : β → St → Prop} {Q : α → Shared → Prop} (p : Post c X k V Φ Q) (G : Grow k k') : Post c X k' V Φ Q :=
  fun v σ' k₂ tk' r q R G' V' => p v σ' k₂ tk' r q R (G.trans G') V'
def S1 (c : Cx) {α β : Type} (V : Cf → β → α → Prop) (t : Sem α) (f : St → (β → St → Prop) → Prop) : Prop :=
  ∀ (X : Led) (k : Cf) (σ : St) (tk : Nat) (Φ : β → St → Prop) (Q : α → Shared → Prop) (E : Value → Shared → Prop),
    f σ Φ → Rel c X k σ → Post c X k V Φ Q → wpAny c.M c.A t Q E (c.at k tk)
theorem S1.run {c : Cx} {α β : Type} {V : Cf → β → α → Prop} {t : Sem α} {f : St → (β → St → Prop) → Prop} (x : S1 c V t f) {X : Led} {k : Cf} {σ : St} {tk : Nat} {Φ : β → St → Prop} {Q : α → Shared → Prop} {E : Value → Shared → Prop}
    (hf : f σ Φ) (R : Rel c X k σ) (post : Post c X k V Φ Q) : wpAny c.M c.A t Q E (c.at k tk) := x X k σ tk Φ Q E hf R post
abbrev VV (k : Cf) : PV → Value → Prop := VR k.H k.As
abbrev VVs (k : Cf) : List PV → List Value → Prop := VRs k.H k.As
abbrev VT (α : Type) (_ : Cf) : α → α → Prop := Eq
abbrev VU (_ : Cf) : Unit → Unit → Prop := fun _ _ => True
abbrev ET := St → (PV → St → Prop) → Prop
abbrev LT := St → (List PV → St → Prop) → Prop
abbrev BT' := St → (Bool → St → Prop) → Prop
abbrev UT := St → (Unit → St → Prop) → Prop
abbrev SE (c : Cx) (t : Sem Value) (f : ET) : Prop := S1 c VV t f
abbrev SL (c : Cx) (t : Sem (List Value)) (f : LT) : Prop := S1 c VVs t f
abbrev SB (c : Cx) (t : Sem Bool) (f : BT') : Prop := S1 c (VT Bool) t f
abbrev SU (c : Cx) (t : Sem Unit) (f : UT) : Prop := S1 c VU t f
/-- how a statement ends -/
inductive Fl where
  | next | brk | cont
  | ret (v : PV)
inductive FlR (k : Cf) : Fl → Flow → Prop
  | next : FlR k .next .next
  | brk : FlR k .brk .brk
  | cont : FlR k .cont .cont
  | ret {v : PV} {r : Value} (x : VV k v r) : FlR k (.ret v) (.ret r)
abbrev ST := St → (Fl → St → Prop) → Prop
abbrev SS (c : Cx) (t : Sem Flow) (f : ST) : Prop := S1 c FlR t f

section
variable {c : Cx}
/-! expressions -/
def locW (i : Nat) : ET := fun σ Φ => match σ.loc[i]? with
  | some (some v) => Φ v σ
  | _ => False
theorem se_frame {x : Str} {pos : Pos} {i : Nat} (ok : c.Ok) (hi : c.sl[i]? = some (x, .frame)) (hL : c.env.locals = c.L) (hk : c.env.kindOf x = some .local) (hd : (x == Str.ofString "__debug__") = false) : SE c (eval (.Name x pos) c.env) (locW i) := by
  intro X k σ tk Φ Q E hf R post
  unfold locW at hf
  split at hf
  · rename_i v hv
    obtain ⟨r, hm, hr⟩ := R.lo i x .frame v hi hv
    exact wpAny_Name (wpAny_loadName_local ok.ek hk (hL ▸ R.F.ns) hm (post v σ k tk r hf R .rfl' hr)) hd
  · exact hf.elim
theorem se_dict {x : Str} {pos : Pos} {i : Nat} {a : Addr} (ok : c.Ok) (hi : c.sl[i]? = some (x, .dict a)) (hL : c.env.locals = a) (hk : c.env.kindOf x = some .local) (hd : (x == Str.ofString "__debug__") = false) : SE c (eval (.Name x pos) c.env) (locW i) := by
  intro X k σ tk Φ Q E hf R post
  unfold locW at hf
  split at hf
  · rename_i v hv
    obtain ⟨r, ⟨o, m', hm, ho, hx⟩, hr⟩ := R.lo i x (.dict a) v hi hv
    exact wpAny_Name (wpAny_loadName_local ok.ek hk (hL ▸ ho.ns (R.N _ (List.mem_append_left _ hm)).1) hx (post v σ k tk r hf R .rfl' hr)) hd
  · exact hf.elim
theorem se_cell {x : Str} {pos : Pos} {i : Nat} {a : Addr} (ok : c.Ok) (hi : c.sl[i]? = some (x, .cell a)) (hc : c.env.cells.lookup x = some a) (hk : c.env.kindOf x = some .cell) (hd : (x == Str.ofString "__debug__") = false) : SE c (eval (.Name x pos) c.env) (locW i) := by
  intro X k σ tk Φ Q E hf R post
  unfold locW at hf
  split at hf
  · rename_i v hv
    obtain ⟨r, ⟨o, hm, ho⟩, hr⟩ := R.lo i x (.cell a) v hi hv
    exact wpAny_Name (wpAny_loadName_cell ok.ek hk hc ⟨o, (R.N _ (List.mem_append_left _ hm)).1, ho⟩ (post v σ k tk r hf R .rfl' hr)) hd
  · exact hf.elim
def rawW (v : Value) : ET := fun σ Φ => Φ (.raw v) σ
/-- a global name whose object is the def or class at v -/
theorem se_glob {x : Str} {pos : Pos} {v : Value} (ok : c.Ok) (he : nsIn c.D.K mainGlobals x = some (some v)) (hk : c.env.kindOf x = some .globalImplicit) (hd : (x == Str.ofString "__debug__") = false) : SE c (eval (.Name x pos) c.env) (rawW v) := by
  intro X k σ tk Φ Q E hf R post
  exact Name_function_global ok.ek hk (loadGlobal_global (mg := c.D.mg) (ok.eg ▸ ok.T.g.keeps R.F.keep) (mg_of ok.K ok.T.g he) (post _ σ k tk _ hf R .rfl' (.raw v))) hd
/-- a global name whose object stands among the frozen -/
def fixW (v : PV) : ET := fun σ Φ => Φ v σ
theorem se_fix {x : Str} {pos : Pos} {v : PV} {r : Value} (ok : c.Ok) (he : nsIn c.D.K mainGlobals x = some (some r)) (hv : VR c.D.fx [] v r) (hk : c.env.kindOf x = some .globalImplicit) (hd : (x == Str.ofString "__debug__") = false) : SE c (eval (.Name x pos) c.env) (fixW v) := by
  intro X k σ tk Φ Q E hf R post
  exact Name_function_global ok.ek hk (loadGlobal_global (mg := c.D.mg) (ok.eg ▸ ok.T.g.keeps R.F.keep) (mg_of ok.K ok.T.g he) (post v σ k tk _ hf R .rfl' (hv.mono R.fx fun _ _ h => by simp at h))) hd
theorem se_boot {x : Str} {pos : Pos} {v : Value} (ok : c.Ok) (he : nsIn c.D.K mainGlobals x = some none) (hv : bootBuiltins x = some v) (hn : x ≠ Str.ofString "__name__") (hk : c.env.kindOf x = some .globalImplicit) (hd : (x == Str.ofString "__debug__") = false) :
    SE c (eval (.Name x pos) c.env) (rawW v) := by
  intro X k σ tk Φ Q E hf R post
  exact Name_function_global ok.ek hk (loadGlobal_builtin (mg := c.D.mg) (ok.eg ▸ ok.T.g.keeps R.F.keep) (mg_none_of ok.K ok.T.g he) (ok.eb ▸ ok.T.b.keeps R.F.keep) ((ok.T.builtins x hn).trans hv) (post _ σ k tk _ hf R .rfl' (.raw v))) hd
def intW (i : Int) : ET := fun σ Φ => Φ (.int i) σ
theorem se_int {i : Int} {n : Nat} {pos : Pos} : SE c (eval (.Constant (.int i) n pos) c.env) (intW i) := by
  intro X k σ tk Φ Q E hf R post
  exact wpAny_Constant_int (post _ σ k _ _ hf R .rfl' (.int i _))
theorem se_bool {b : Bool} {n : Nat} {pos : Pos} : SE c (eval (.Constant (.bool b) n pos) c.env) (rawW (.bool b)) := by
  intro X k σ tk Φ Q E hf R post
  exact Constant_bool (post _ σ k _ _ hf R .rfl' (.raw _))

/-- an operator on two values -/
def SO (c : Cx) (t : Value → Value → Sem Value) (f : PV → PV → ET) : Prop :=
  ∀ (X : Led) (k : Cf) (σ : St) (tk : Nat) (a b : PV) (ra rb : Value) (Φ : PV → St → Prop) (Q : Value → Shared → Prop) (E : Value → Shared → Prop),
    f a b σ Φ → Rel c X k σ → VV k a ra → VV k b rb → Post c X k VV Φ Q → wpAny c.M c.A (t ra rb) Q E (c.at k tk)
def twoW (fa fb : ET) (op : PV → PV → ET) : ET := fun σ Φ => fa σ fun a σ₁ => fb σ₁ fun b σ₂ => op a b σ₂ Φ
theorem se_bin {l r : Expr} {op : Operator} {pos : Pos} {fa fb : ET} {g : PV → PV → ET} (ha : SE c (eval l c.env) fa) (hb : SE c (eval r c.env) fb) (ho : SO c (binaryOp op) g) : SE c (eval (.BinOp l op r pos) c.env) (twoW fa fb g) := by
  intro X k σ tk Φ Q E hf R post
  refine wpAny_BinOp (ha.run hf R fun a σ₁ k₁ tk₁ ra hf₁ R₁ G₁ V₁ => hb.run hf₁ R₁ fun b σ₂ k₂ tk₂ rb hf₂ R₂ G₂ V₂ => ?_)
  exact ho X k₂ σ₂ tk₂ a b ra rb Φ Q E hf₂ R₂ (V₁.grow G₂) V₂ (post.up (G₁.trans G₂))
theorem se_cmp {l r : Expr} {op : CmpOp} {pos : Pos} {fa fb : ET} {g : PV → PV → ET} (ha : SE c (eval l c.env) fa) (hb : SE c (eval r c.env) fb) (ho : SO c (compareOp op) g) (hm : behindInMarks op r = false) : SE c (eval (.Compare l [op] [r] pos) c.env) (twoW fa fb g) := by
  intro X k σ tk Φ Q E hf R post
  refine wpAny_Compare1 (ha.run hf R fun a σ₁ k₁ tk₁ ra hf₁ R₁ G₁ V₁ => hb.run hf₁ R₁ fun b σ₂ k₂ tk₂ rb hf₂ R₂ G₂ V₂ => ?_) hm
  exact ho X k₂ σ₂ tk₂ a b ra rb Φ Q E hf₂ R₂ (V₁.grow G₂) V₂ (post.up (G₁.trans G₂))

/-- ints: op a b -/
@[irreducible] def i2W (P : Int → Int → Prop) (op : Int → Int → Int) (a b : PV) : ET := fun σ Φ => match a, b with
  | .int x, .int y => P x y ∧ Φ (.int (op x y)) σ
  | _, _ => False
theorem so_i2 {t : Value → Value → Sem Value} {P : Int → Int → Prop} {op : Int → Int → Int}
    (h : ∀ {s : Shared} {x y : Int} {u v : Tok} {Q : Value → Shared → Prop} {E : Value → Shared → Prop}, P x y → Q (.int (op x y) s.toks) { s with toks := s.toks + 1 } → wpAny c.M c.A (t (.int x u) (.int y v)) Q E s) : SO c t (i2W P op) := by
  intro X k σ tk a b ra rb Φ Q E hf R Va Vb post
  unfold i2W at hf
  split at hf
  · cases Va; cases Vb
    exact h hf.1 (post _ σ k _ _ hf.2 R .rfl' (.int _ _))
  · exact hf.elim
/-- the same, seen through: of places -/
def i2I (P : Int → Int → Prop) (op : Int → Int → Int) (a b : PV) : ET := fun σ Φ => match a, b with
  | .int x, .int y => P x y ∧ litC (op x y) fun z => Φ (.int z) σ
  | _, _ => False
theorem i2I_eq {P : Int → Int → Prop} {op : Int → Int → Int} : i2I P op = i2W P op := by
  unfold i2I i2W
  simp only [litC_eq]
theorem so_I {t : Value → Value → Sem Value} {P : Int → Int → Prop} {op : Int → Int → Int} (h : SO c t (i2W P op)) : SO c t (i2I P op) := by rw [i2I_eq]; exact h
abbrev Any2 : Int → Int → Prop := fun _ _ => True
abbrev Small1 : Int → Int → Prop := fun x _ => -100000 ≤ x ∧ x ≤ 100000
abbrev Shift : Int → Int → Prop := fun x k => (0 ≤ k ∧ k ≤ 1000) ∧ -100000 ≤ x ∧ x ≤ 100000
theorem so_add : SO c (binaryOp .Add) (i2W Any2 (· + ·)) := so_i2 fun _ h => add_int h
theorem so_sub : SO c (binaryOp .Sub) (i2W Any2 (· - ·)) := so_i2 fun _ h => sub_int h
theorem so_mul : SO c (binaryOp .Mult) (i2W Small1 (· * ·)) := so_i2 fun p h => mul_M p h
theorem so_shl : SO c (binaryOp .LShift) (i2W Shift (fun x k => x * 2 ^ k.toNat)) := so_i2 fun p h => lshift_int_small p.1.1 (by have := p.1.2; omega) (by have := p.2; omega) h
theorem so_and : SO c (binaryOp .BitAnd) (i2W Any2 Builtin.bitAnd) := so_i2 fun _ h => and_int h
theorem so_or : SO c (binaryOp .BitOr) (i2W Any2 Builtin.bitOr) := so_i2 fun _ h => or_int h
theorem so_mod : SO c (binaryOp .Mod) (i2W (fun _ y => 0 < y) (· % ·)) := so_i2 fun p h => mod_pos_M p h
theorem so_fdiv : SO c (binaryOp .FloorDiv) (i2W (fun _ y => 0 < y ∧ y ≤ 4096) (· / ·)) := so_i2 fun p h => fdiv_pos_M p.1 p.2 h
theorem so_iadd : SO c (inplaceOp .Add) (i2W Any2 (· + ·)) := so_i2 fun _ h => iadd_int h
theorem so_isub : SO c (inplaceOp .Sub) (i2W Any2 (· - ·)) := so_i2 fun _ h => isub_int h
theorem so_ishr : SO c (inplaceOp .RShift) (i2W (fun _ k => 0 ≤ k) (fun x k => x / (2 ^ k.toNat))) := so_i2 fun p h => irshift_int p (by rw [Int.fdiv_eq_ediv_of_nonneg _ (Int.le_of_lt (Int.pow_pos (by decide)))]; exact h)
theorem so_imod : SO c (inplaceOp .Mod) (i2W (fun _ y => 0 < y) (· % ·)) := so_i2 fun p h => imod_int (Int.ne_of_gt p) (by rw [Int.fmod_eq_emod_of_nonneg _ (Int.le_of_lt p)]; exact h)
theorem so_pow : SO c (binaryOp .Pow) (i2W (fun x k => x = 2 ∧ 0 ≤ k ∧ k ≤ 1000) (fun x k => x ^ k.toNat)) := so_i2 fun p h => pow_int_small p.2.1 (by have := p.2.2; omega) (by rw [p.1]; decide) h
/-- a comparison -/
def c2W (op : Int → Int → Bool) (a b : PV) : ET := fun σ Φ => match a, b with
  | .int x, .int y => Φ (.raw (.bool (op x y))) σ
  | _, _ => False
theorem so_c2 {t : Value → Value → Sem Value} {op : Int → Int → Bool}
    (h : ∀ {s : Shared} {x y : Int} {u v : Tok} {Q : Value → Shared → Prop} {E : Value → Shared → Prop}, Q (.bool (op x y)) s → wpAny c.M c.A (t (.int x u) (.int y v)) Q E s) : SO c t (c2W op) := by
  intro X k σ tk a b ra rb Φ Q E hf R Va Vb post
  unfold c2W at hf
  split at hf
  · cases Va; cases Vb
    exact h (post _ σ k _ _ hf R .rfl' (.raw _))
  · exact hf.elim
theorem so_lt : SO c (compareOp .Lt) (c2W fun x y => decide (x < y)) := so_c2 fun h => lt_int h
theorem so_gt : SO c (compareOp .Gt) (c2W fun x y => decide (y < x)) := so_c2 fun h => gt_int h
theorem so_ge : SO c (compareOp .GtE) (c2W fun x y => decide (y ≤ x)) := so_c2 fun h => ge_int h
theorem so_le : SO c (compareOp .LtE) (c2W fun x y => decide (x ≤ y)) := so_c2 fun h => le_int h
/-- ==, != of ints or bools -/
def e2W (n : Bool) (a b : PV) : ET := fun σ Φ => match a, b with
  | .int x, .int y => Φ (.raw (.bool (if n then decide (x ≠ y) else decide (x = y)))) σ
  | .raw (.bool x), .raw (.bool y) => Φ (.raw (.bool (if n then decide (x ≠ y) else decide (x = y)))) σ
  | _, _ => False
theorem beq_dec {α : Type} [DecidableEq α] (x y : α) : (x == y) = decide (x = y) := by
  by_cases h : x = y <;> simp [h]
theorem bne_dec {α : Type} [DecidableEq α] (x y : α) : (x != y) = decide (x ≠ y) := by
  by_cases h : x = y <;> simp [h]
theorem so_eq : SO c (compareOp .Eq) (e2W false) := by
  intro X k σ tk a b ra rb Φ Q E hf R Va Vb post
  unfold e2W at hf
  split at hf
  · cases Va; cases Vb
    exact eq_int (by rw [beq_dec]; exact post _ σ k _ _ hf R .rfl' (.raw _))
  · cases Va; cases Vb
    exact eq_bool (by rw [beq_dec]; exact post _ σ k _ _ hf R .rfl' (.raw _))
  · exact hf.elim
theorem so_ne : SO c (compareOp .NotEq) (e2W true) := by
  intro X k σ tk a b ra rb Φ Q E hf R Va Vb post
  unfold e2W at hf
  split at hf
  · cases Va; cases Vb
    exact ne_int (by rw [bne_dec]; exact post _ σ k _ _ hf R .rfl' (.raw _))
  · cases Va; cases Vb
    exact ne_bool (by rw [bne_dec]; exact post _ σ k _ _ hf R .rfl' (.raw _))
  · exact hf.elim
end
section
variable {c : Cx}
/-! tests -/
def trW (v : PV) : BT' := fun σ Φ => match v with
  | .raw (.bool b) => Φ b σ
  | .int x => Φ (decide (x ≠ 0)) σ
  | _ => False
theorem truthy_run {X : Led} {k : Cf} {σ : St} {tk : Nat} {v : PV} {r : Value} {Φ : Bool → St → Prop} {Q : Bool → Shared → Prop} {E : Value → Shared → Prop}
    (hf : trW v σ Φ) (R : Rel c X k σ) (V : VV k v r) (post : Post c X k (VT Bool) Φ Q) : wpAny c.M c.A (truthy r) Q E (c.at k tk) := by
  unfold trW at hf
  split at hf
  · cases V
    exact wpAny_truthy_bool (post _ σ k tk _ hf R .rfl' rfl)
  · cases V
    exact truthy_int (by rw [bne_dec]; exact post _ σ k tk _ hf R .rfl' rfl)
  · exact hf.elim
def tstW (f : ET) : BT' := fun σ Φ => f σ fun v σ' => trW v σ' Φ
theorem sb_cmp {l r : Expr} {op : CmpOp} {pos : Pos} {whole : Sem Value} {fa fb : ET} {g : PV → PV → ET} (ha : SE c (eval l c.env) fa) (hb : SE c (eval r c.env) fb) (ho : SO c (compareOp op) g) (hm : behindInMarks op r = false) :
    SB c (PySem.isTrue (.Compare l [op] [r] pos) c.env whole) (tstW (twoW fa fb g)) := by
  intro X k σ tk Φ Q E hf R post
  refine wpAny_isTrue_Compare1 (ha.run hf R fun a σ₁ k₁ tk₁ ra hf₁ R₁ G₁ V₁ => hb.run hf₁ R₁ fun b σ₂ k₂ tk₂ rb hf₂ R₂ G₂ V₂ => ?_) hm
  refine ho X k₂ σ₂ tk₂ a b ra rb _ _ E hf₂ R₂ (V₁.grow G₂) V₂ fun v σ' k' tk' r q R' G' V' => ?_
  exact truthy_run q R' V' (post.up ((G₁.trans G₂).trans G'))
theorem sb_plain {e : Expr} {f : ET} (hp : PySem.isTrue e c.env (eval e c.env) = (do let v ← eval e c.env; standAt e.pos; holding [v] (truthy v))) (ha : SE c (eval e c.env) f) : SB c (PySem.isTrue e c.env (eval e c.env)) (tstW f) := by
  intro X k σ tk Φ Q E hf R post
  exact isTrue_plain (ha.run hf R fun a σ₁ k₁ tk₁ ra hf₁ R₁ G₁ V₁ => truthy_run hf₁ R₁ V₁ (post.up G₁)) hp
@[irreducible] def brW {β : Type} (b : Bool) (x y : St → (β → St → Prop) → Prop) : St → (β → St → Prop) → Prop := fun σ Φ => match b with
  | true => x σ Φ
  | false => y σ Φ
theorem brW_true {β : Type} {x y : St → (β → St → Prop) → Prop} {σ : St} {Φ : β → St → Prop} : brW true x y σ Φ = x σ Φ := by unfold brW; rfl
theorem brW_false {β : Type} {x y : St → (β → St → Prop) → Prop} {σ : St} {Φ : β → St → Prop} : brW false x y σ Φ = y σ Φ := by unfold brW; rfl
theorem brW_t {β : Type} {x y : St → (β → St → Prop) → Prop} {σ : St} {Φ : β → St → Prop} (h : brW true x y σ Φ) : x σ Φ := by rw [brW_true] at h; exact h
theorem brW_f {β : Type} {x y : St → (β → St → Prop) → Prop} {σ : St} {Φ : β → St → Prop} (h : brW false x y σ Φ) : y σ Φ := by rw [brW_false] at h; exact h
def yesW {β : Type} (v : β) : St → (β → St → Prop) → Prop := fun σ Φ => Φ v σ
def ifW {β : Type} (t : BT') (x y : St → (β → St → Prop) → Prop) : St → (β → St → Prop) → Prop := fun σ Φ => t σ fun b σ' => brW b x y σ' Φ
theorem sb_and_nil {pos : Pos} {whole : Sem Value} : SB c (PySem.isTrue (.BoolOp .And [] pos) c.env whole) (yesW true) := by
  intro X k σ tk Φ Q E hf R post
  exact isTrue_and_nil (post _ σ k tk _ hf R .rfl' rfl)
theorem sb_and {x : Expr} {rest : List Expr} {pos : Pos} {whole : Sem Value} {f g : BT'} (hx : SB c (PySem.isTrue x c.env (eval x c.env)) f) (hr : SB c (PySem.isTrue (.BoolOp .And rest pos) c.env whole) g) :
    SB c (PySem.isTrue (.BoolOp .And (x :: rest) pos) c.env whole) (ifW f g (yesW false)) := by
  intro X k σ tk Φ Q E hf R post
  refine isTrue_and (hx.run hf R fun b σ₁ k₁ tk₁ r hf₁ R₁ G₁ V₁ => ?_)
  cases V₁
  cases b with
  | true =>
    rw [if_pos rfl]
    exact hr.run (brW_t hf₁) R₁ (post.up G₁)
  | false =>
    rw [if_neg (by decide)]
    exact post _ _ _ _ _ (brW_f hf₁) R₁ G₁ rfl
theorem sb_or_nil {pos : Pos} {whole : Sem Value} : SB c (PySem.isTrue (.BoolOp .Or [] pos) c.env whole) (yesW false) := by
  intro X k σ tk Φ Q E hf R post
  exact isTrue_or_nil (post _ σ k tk _ hf R .rfl' rfl)
theorem sb_or {x : Expr} {rest : List Expr} {pos : Pos} {whole : Sem Value} {f g : BT'} (hx : SB c (PySem.isTrue x c.env (eval x c.env)) f) (hr : SB c (PySem.isTrue (.BoolOp .Or rest pos) c.env whole) g) :
    SB c (PySem.isTrue (.BoolOp .Or (x :: rest) pos) c.env whole) (ifW f (yesW true) g) := by
  intro X k σ tk Φ Q E hf R post
  refine isTrue_or (hx.run hf R fun b σ₁ k₁ tk₁ r hf₁ R₁ G₁ V₁ => ?_)
  cases V₁
  cases b with
  | true =>
    rw [if_pos rfl]
    exact post _ _ _ _ _ (brW_t hf₁) R₁ G₁ rfl
  | false =>
    rw [if_neg (by decide)]
    exact hr.run (brW_f hf₁) R₁ (post.up G₁)
def notW (f : BT') : BT' := fun σ Φ => f σ fun b σ' => Φ (!b) σ'

/-! statements -/
def seqW (f g : ST) : ST := fun σ Φ => f σ fun fl σ' => match fl with
  | .next => g σ' Φ
  | fl => Φ fl σ'
theorem ss_nil : SS c (execs [] c.env) (yesW .next) := by
  intro X k σ tk Φ Q E hf R post
  exact wpAny_execs_nil (post _ σ k tk _ hf R .rfl' .next)
theorem ss_cons {st : Stmt} {rest : List Stmt} {f g : ST} (hs : SS c (exec st c.env) f) (hr : SS c (execs rest c.env) g) : SS c (execs (st :: rest) c.env) (seqW f g) := by
  intro X k σ tk Φ Q E hf R post
  refine wpAny_execs_cons (hs.run hf R fun fl σ₁ k₁ tk₁ r hf₁ R₁ G₁ V₁ => ?_)
  cases V₁ with
  | next => exact hr.run hf₁ R₁ (post.up G₁)
  | brk => exact post _ _ _ _ _ hf₁ R₁ G₁ .brk
  | cont => exact post _ _ _ _ _ hf₁ R₁ G₁ .cont
  | ret x => exact post _ _ _ _ _ hf₁ R₁ G₁ (.ret x)
theorem ss_if {test : Expr} {body orelse : List Stmt} {pos : Pos} {t : BT'} {f g : ST} (ht : SB c (PySem.isTrue test c.env (eval test c.env)) t) (hb : SS c (execs body c.env) f) (ho : SS c (execs orelse c.env) g) :
    SS c (exec (.If test body orelse pos) c.env) (ifW t f g) := by
  intro X k σ tk Φ Q E hf R post
  refine wpAny_If (ht.run hf R fun b σ₁ k₁ tk₁ r hf₁ R₁ G₁ V₁ => ?_)
  cases V₁
  cases b with
  | true =>
    rw [if_pos rfl]
    exact hb.run (brW_t hf₁) R₁ (post.up G₁)
  | false =>
    rw [if_neg (by decide)]
    exact ho.run (brW_f hf₁) R₁ (post.up G₁)
def noW {β : Type} : St → (β → St → Prop) → Prop := fun _ _ => False
theorem sss_never {st : List Stmt} : SS c (execs st c.env) noW := fun _ _ _ _ _ _ _ hf => hf.elim
def retW (f : ET) : ST := fun σ Φ => f σ fun v σ' => Φ (.ret v) σ'
theorem ss_ret {e : Expr} {pos : Pos} {f : ET} (he : SE c (eval e c.env) f) : SS c (exec (.Return (some e) pos) c.env) (retW f) := by
  intro X k σ tk Φ Q E hf R post
  exact wpAny_Return_some (he.run hf R fun v σ₁ k₁ tk₁ r hf₁ R₁ G₁ V₁ => post _ _ _ _ _ hf₁ R₁ G₁ (.ret V₁))
theorem se_ifexp {test body orelse : Expr} {pos : Pos} {t : BT'} {f g : ET} (ht : SB c (PySem.isTrue test c.env (eval test c.env)) t) (hb : SE c (eval body c.env) f) (ho : SE c (eval orelse c.env) g) :
    SE c (eval (.IfExp test body orelse pos) c.env) (ifW t f g) := by
  intro X k σ tk Φ Q E hf R post
  refine IfExp_ (ht.run hf R fun b σ₁ k₁ tk₁ r hf₁ R₁ G₁ V₁ => ?_)
  cases V₁
  cases b with
  | true =>
    rw [if_pos rfl]
    exact hb.run (brW_t hf₁) R₁ (post.up G₁)
  | false =>
    rw [if_neg (by decide)]
    exact ho.run (brW_f hf₁) R₁ (post.up G₁)
def and2W (f g : ET) : ET := fun σ Φ => f σ fun v σ₁ => trW v σ₁ fun b σ₂ => brW b g (yesW v) σ₂ Φ
theorem se_and {e₁ e₂ : Expr} {pos : Pos} {f g : ET} (h₁ : SE c (eval e₁ c.env) f) (h₂ : SE c (eval e₂ c.env) g) : SE c (eval (.BoolOp .And [e₁, e₂] pos) c.env) (and2W f g) := by
  intro X k σ tk Φ Q E hf R post
  refine BoolOp_and (h₁.run hf R fun v σ₁ k₁ tk₁ r hf₁ R₁ G₁ V₁ => truthy_run hf₁ R₁ V₁ fun b σ₂ k₂ tk₂ r₂ hf₂ R₂ G₂ V₂ => ?_)
  cases V₂
  cases b with
  | true =>
    rw [if_pos rfl]
    exact BoolOp_one (h₂.run (brW_t hf₂) R₂ (post.up (G₁.trans G₂)))
  | false =>
    rw [if_neg (by decide)]
    exact post _ _ _ _ _ (brW_f hf₂) R₂ (G₁.trans G₂) (V₁.grow G₂)
def negW (f : ET) : ET := fun σ Φ => f σ fun v σ' => match v with
  | .int x => Φ (.int (-x)) σ'
  | _ => False
theorem se_neg {e : Expr} {pos : Pos} {f : ET} (he : SE c (eval e c.env) f) : SE c (eval (.UnaryOp .USub e pos) c.env) (negW f) := by
  intro X k σ tk Φ Q E hf R post
  refine UnaryOp_ (he.run hf R fun v σ₁ k₁ tk₁ r hf₁ R₁ G₁ V₁ => ?_)
  split at hf₁
  · cases V₁
    exact neg_int (post _ _ _ _ _ hf₁ R₁ G₁ (.int _ _))
  · exact hf₁.elim
def notvW (f : ET) : ET := fun σ Φ => f σ fun v σ₁ => trW v σ₁ fun b σ₂ => Φ (.raw (.bool (!b))) σ₂
theorem se_not {e : Expr} {pos : Pos} {f : ET} (he : SE c (eval e c.env) f) : SE c (eval (.UnaryOp .Not e pos) c.env) (notvW f) := by
  intro X k σ tk Φ Q E hf R post
  refine UnaryOp_ (he.run hf R fun v σ₁ k₁ tk₁ r hf₁ R₁ G₁ V₁ => not_of (truthy_run hf₁ R₁ V₁ fun b σ₂ k₂ tk₂ r₂ hf₂ R₂ G₂ V₂ => ?_))
  cases V₂
  exact post _ _ _ _ _ hf₂ R₂ (G₁.trans G₂) (.raw _)

/-! stores -/
theorem Rel.store {X : Led} {k : Cf} {σ : St} {h' : Heap} {i : Nat} {x : Str} {v : PV} {r : Value} (ok : c.Ok) (R : Rel c X k σ) (hi : c.sl[i]? = some (x, .frame)) (V : VV k v r)
    (F' : Fr c.g c.L h' (fun y => if y = x then some r else k.m y)) (N' : News c.g c.L h' (k.Z ++ (k.O ++ (k.H ++ X)))) : Rel c X { k with m := fun y => if y = x then some r else k.m y, h := h' } { σ with loc := σ.loc.set i (some v) } :=
  { R with
    F := F', N := N'
    ll := by rw [List.length_set]; exact R.ll
    lo := fun j y pl u hj hu => by
      by_cases e : j = i
      · subst e
        rw [hi] at hj; cases hj
        rw [List.getElem?_set] at hu
        simp only [if_true] at hu
        split at hu
        · cases hu
          exact ⟨r, if_pos rfl, V⟩
        · cases hu
      · rw [List.getElem?_set] at hu
        rw [if_neg (fun q => e q.symm)] at hu
        obtain ⟨q, hq, hv⟩ := R.lo j y pl u hj hu
        refine ⟨q, ?_, hv⟩
        cases pl with
        | dict a => exact hq
        | cell a => exact hq
        | frame =>
          show (if y = x then some r else k.m y) = some q
          rw [if_neg ?_]
          · exact hq
          · rintro rfl
            obtain ⟨hi1, hi2⟩ := List.getElem?_eq_some_iff.mp hi
            obtain ⟨hj1, hj2⟩ := List.getElem?_eq_some_iff.mp hj
            exact e ((List.getElem?_inj hj1 ok.sd).mp (hj.trans hi.symm)) }
/-- a target -/
def STt (c : Cx) (t : Value → Sem Unit) (f : PV → UT) : Prop :=
  ∀ (X : Led) (k : Cf) (σ : St) (tk : Nat) (a : PV) (ra : Value) (Φ : Unit → St → Prop) (Q : Unit → Shared → Prop) (E : Value → Shared → Prop),
    f a σ Φ → Rel c X k σ → VV k a ra → Post c X k VU Φ Q → wpAny c.M c.A (t ra) Q E (c.at k tk)
def stW (i : Nat) (v : PV) : UT := fun ⟨l, o, b⟩ Φ => setC l i (some v) fun l' => Φ () ⟨l', o, b⟩
theorem stW_eq {i : Nat} {v : PV} {σ : St} {Φ : Unit → St → Prop} : stW i v σ Φ = Φ () { σ with loc := σ.loc.set i (some v) } := by
  cases σ
  exact setC_eq
theorem st_frame {x : Str} {i : Nat} (ok : c.Ok) (hi : c.sl[i]? = some (x, .frame)) (hL : c.env.locals = c.L) (hk : c.env.kindOf x = some .local) : STt c (storeName c.env x) (stW i) := by
  intro X k σ tk a ra Φ Q E hf R V post
  rw [stW_eq] at hf
  refine wpAny_storeName_local (m := k.m) hk (hL ▸ R.F.ns) (fun h' hn hs => ?_) (by rw [ok.ek]; rfl)
  rw [hL] at hn hs
  exact post () _ { k with m := fun y => if y = x then some ra else k.m y, h := h' } _ () hf (R.store ok hi V (R.F.set hn hs) (R.N.set hs)) ⟨fun _ h => h, fun _ _ h => h⟩ trivial
/-- the ledger with another thing at one place -/
def swp (a : Addr) (o : Obj) : Led → Led
  | [] => []
  | p :: r => (if p.1 = a then (a, o) else p) :: swp a o r
theorem swp_map {a : Addr} {o : Obj} : ∀ {l : Led}, (swp a o l).map (·.1) = l.map (·.1)
  | [] => rfl
  | p :: r => by
    show (if p.1 = a then (a, o) else p).1 :: (swp a o r).map (·.1) = p.1 :: r.map (·.1)
    rw [swp_map]
    split
    · rename_i h; rw [h]
    · rfl
theorem swp_mem {a : Addr} {o : Obj} {q : Addr × Obj} : ∀ {l : Led}, q ∈ swp a o l → (q = (a, o) ∧ ∃ o', (a, o') ∈ l) ∨ (q ∈ l ∧ q.1 ≠ a)
  | [], h => nomatch h
  | p :: r, h => by
    rcases List.mem_cons.mp h with e | h
    · split at e
      · rename_i hp
        exact .inl ⟨e, p.2, by rw [← hp]; exact .head _⟩
      · rename_i hp
        exact .inr ⟨e ▸ .head _, e ▸ hp⟩
    · rcases swp_mem h with ⟨e, o', m⟩ | ⟨m, n⟩
      · exact .inl ⟨e, o', .tail _ m⟩
      · exact .inr ⟨.tail _ m, n⟩
theorem swp_of {a : Addr} {o : Obj} {q : Addr × Obj} : ∀ {l : Led}, q ∈ l → q.1 ≠ a → q ∈ swp a o l
  | p :: r, h, n => by
    rcases List.mem_cons.mp h with rfl | h
    · show q ∈ (if q.1 = a then (a, o) else q) :: _
      rw [if_neg n]; exact .head _
    · exact .tail _ (swp_of h n)
theorem swp_self {a : Addr} {o o' : Obj} : ∀ {l : Led}, (a, o') ∈ l → (a, o) ∈ swp a o l
  | p :: r, h => by
    rcases List.mem_cons.mp h with rfl | h
    · show _ ∈ (if a = a then (a, o) else (a, o')) :: _
      rw [if_pos rfl]; exact .head _
    · exact .tail _ (swp_self h)
theorem dis_swp {a : Addr} {o : Obj} {l l' : Led} (h : Dis l l') : Dis (swp a o l) l' := fun p hp q hq => by
  have : p.1 ∈ (swp a o l).map (·.1) := List.mem_map_of_mem hp
  rw [swp_map] at this
  obtain ⟨p', hp', e⟩ := List.mem_map.mp this
  exact e ▸ h p' hp' q hq
theorem Rel.storeC {X : Led} {k : Cf} {σ : St} {h' : Heap} {i : Nat} {x : Str} {a : Addr} {o : Obj} {v : PV} {r : Value} (ok : c.Ok) (R : Rel c X k σ) (hi : c.sl[i]? = some (x, .cell a)) (V : VV k v r)
    (hs : Heap.SameBut a k.h h') (ho : h'.get? a = some o) (hd : o.data = .cell (some r)) : Rel c X { k with Z := swp a o k.Z, h := h' } { σ with loc := σ.loc.set i (some v) } := by
  obtain ⟨o₁, v₀, hm, _⟩ := R.ce x a (List.mem_of_getElem? hi)
  have ha := R.N (a, o₁) (List.mem_append_left _ hm)
  refine { R with F := R.F.change hs ha.2.1 ha.2.2, N := fun p hp => ?_, za := swp_map.trans R.za, ll := by rw [List.length_set]; exact R.ll, lo := fun j y pl u hj hu => ?_, ce := fun y b hb => ?_, zo := dis_swp R.zo }
  · rcases List.mem_append.mp hp with hp | hp
    · rcases swp_mem hp with ⟨rfl, _⟩ | ⟨hp, hn⟩
      · exact ⟨ho, ha.2⟩
      · have z := R.N p (List.mem_append_left _ hp)
        exact ⟨(hs.2 _ hn).trans z.1, z.2⟩
    · have z := R.N p (List.mem_append_right _ hp)
      exact ⟨(hs.2 _ (Ne.symm (R.zo _ hm _ hp))).trans z.1, z.2⟩
  · by_cases e : j = i
    · subst e
      rw [hi] at hj; cases hj
      rw [List.getElem?_set] at hu
      simp only [if_true] at hu
      split at hu
      · cases hu
        exact ⟨r, ⟨o, swp_self hm, hd⟩, V⟩
      · cases hu
    · rw [List.getElem?_set] at hu
      rw [if_neg (fun q => e q.symm)] at hu
      obtain ⟨q, hq, hv⟩ := R.lo j y pl u hj hu
      refine ⟨q, ?_, hv⟩
      cases pl with
      | frame => exact hq
      | dict b =>
        obtain ⟨ob, m', hb, h1, h2⟩ := hq
        exact ⟨ob, m', swp_of hb (fun q => ok.dz x y a (List.mem_of_getElem? hi) (by subst q; exact List.mem_of_getElem? hj)), h1, h2⟩
      | cell b =>
        obtain ⟨ob, hb, h1⟩ := hq
        refine ⟨ob, swp_of hb fun q => ?_, h1⟩
        have q' : b = a := q
        subst q'
        have := ok.cz x y b (List.mem_of_getElem? hi) (List.mem_of_getElem? hj)
        subst this
        obtain ⟨hj1, hj2⟩ := List.getElem?_eq_some_iff.mp hj
        exact e ((List.getElem?_inj hj1 ok.sd).mp (hj.trans hi.symm))
  · by_cases e : b = a
    · subst e
      exact ⟨o, some r, swp_self hm, hd⟩
    · obtain ⟨ob, v₁, h1, h2⟩ := R.ce y b hb
      exact ⟨ob, v₁, swp_of h1 e, h2⟩
theorem st_cell {x : Str} {i : Nat} {a : Addr} (ok : c.Ok) (hi : c.sl[i]? = some (x, .cell a)) (hc : c.env.cells.lookup x = some a) (hk : c.env.kindOf x = some .cell) : STt c (storeName c.env x) (stW i) := by
  intro X k σ tk v ra Φ Q E hf R V post
  rw [stW_eq] at hf
  obtain ⟨o₁, v₀, hm, hd⟩ := R.ce x a (List.mem_of_getElem? hi)
  refine wpAny_storeName_cell ok.ek hk hc ⟨o₁, (R.N _ (List.mem_append_left _ hm)).1, hd⟩ fun h' hv hs => ?_
  obtain ⟨o, ho, hd'⟩ := hv
  exact post () _ { k with Z := swp a o k.Z, h := h' } _ () hf (R.storeC ok hi V hs ho hd') ⟨fun _ h => h, fun _ _ h => h⟩ trivial
theorem st_bind {x : Str} {f : PV → UT} (h : STt c (storeName c.env x) f) : STt c (bindName c.env x) f := by
  intro X k σ tk a ra Φ Q E hf R V post
  exact bindName_ (h X k σ tk a ra Φ Q E hf R V post)
theorem st_name {x : Str} {pos : Pos} {f : PV → UT} (h : STt c (storeName c.env x) f) : STt c (assign (.Name x pos) c.env) f := by
  intro X k σ tk a ra Φ Q E hf R V post
  exact PyProof.Rows.assign_Name (h X k σ tk a ra Φ Q E hf R V post)
def asgW (f : ET) (g : PV → UT) : ST := fun σ Φ => f σ fun v σ₁ => g v σ₁ fun _ σ₂ => Φ .next σ₂
theorem ss_name {x : Str} {pos' pos : Pos} {value : Expr} {f : ET} {g : PV → UT} (hv : SE c (eval value c.env) f) (ht : STt c (storeName c.env x) g) (hs : swapsWith value (some (.Name x pos')) pos.line c.env = pure false) :
    SS c (exec (.Assign [.Name x pos'] value pos) c.env) (asgW f g) := by
  intro X k σ tk Φ Q E hf R post
  refine wpAny_Assign_Name (hv.run hf R fun v σ₁ k₁ tk₁ r hf₁ R₁ G₁ V₁ => ?_) hs
  exact ht X k₁ σ₁ tk₁ v r _ _ E hf₁ R₁ V₁ fun _ σ₂ k₂ tk₂ _ hf₂ R₂ G₂ _ => post _ _ _ _ _ hf₂ R₂ (G₁.trans G₂) .next
def augW (i : Nat) (f : ET) (op : PV → PV → ET) : ST := fun σ Φ => locW i σ fun a σ₁ => f σ₁ fun b σ₂ => op a b σ₂ fun v σ₃ => stW i v σ₃ fun _ σ₄ => Φ .next σ₄
theorem ss_aug {x : Str} {i : Nat} {pos' pos : Pos} {op : Operator} {value : Expr} {f : ET} {g : PV → PV → ET} (ok : c.Ok) (hi : c.sl[i]? = some (x, .frame)) (hL : c.env.locals = c.L) (hk : c.env.kindOf x = some .local) (hv : SE c (eval value c.env) f) (ho : SO c (inplaceOp op) g) :
    SS c (exec (.AugAssign (.Name x pos') op value pos) c.env) (augW i f g) := by
  intro X k σ tk Φ Q E hf R post
  refine wpAny_AugAssign_Name ?_
  unfold augW locW at hf
  split at hf
  · rename_i a ha
    obtain ⟨r, hm, hr⟩ := R.lo i x _ a hi ha
    refine wpAny_loadName_local (m := k.m) ok.ek hk (hL ▸ R.F.ns) hm ?_
    refine hv.run hf R fun b σ₂ k₂ tk₂ rb hf₂ R₂ G₂ V₂ => ?_
    refine ho X k₂ σ₂ tk₂ a b r rb _ _ E hf₂ R₂ (hr.grow G₂) V₂ fun v σ' k' tk' r q R' G' V' => ?_
    exact st_frame ok hi hL hk X k' σ' tk' v r _ _ E q R' V' fun _ σ₂ k₃ tk₃ _ hf₃ R₃ G₃ _ => post _ _ _ _ _ hf₃ R₃ ((G₂.trans G').trans G₃) .next
  · exact hf.elim

/-! lists of expressions -/
def nilW : LT := fun σ Φ => Φ [] σ
def consW (f : ET) (g : LT) : LT := fun σ Φ => f σ fun v σ₁ => g σ₁ fun vs σ₂ => Φ (v :: vs) σ₂
theorem sl_nil {pos : Pos} : SL c (spliced (backTo pos (starEach [] c.env))) nilW := by
  intro X k σ tk Φ Q E hf R post
  exact spliced_none (post _ _ _ _ _ hf R .rfl' .nil)
theorem sl_cons {pos : Pos} {e : Expr} {rest : List Expr} {f : ET} {g : LT} (hst : starEach (e :: rest) c.env = (false, eval e c.env) :: starEach rest c.env) (he : SE c (eval e c.env) f) (hr : SL c (spliced (backTo pos (starEach rest c.env))) g) :
    SL c (spliced (backTo pos (starEach (e :: rest) c.env))) (consW f g) := by
  intro X k σ tk Φ Q E hf R post
  refine spliced_more (he.run hf R fun v σ₁ k₁ tk₁ r hf₁ R₁ G₁ V₁ => hr.run hf₁ R₁ fun vs σ₂ k₂ tk₂ rs hf₂ R₂ G₂ V₂ => ?_) hst
  exact post _ _ _ _ _ hf₂ R₂ (G₁.trans G₂) (.cons (V₁.grow G₂) V₂)

/-! new objects -/
theorem allLt_at {d : Addr} : ∀ {l : Led}, AllLt d l → ∀ p ∈ l, @LT.lt Nat _ p.1 d
  | [], _, _, h => nomatch h
  | _ :: _, x, p, h => by
    rcases List.mem_cons.mp h with rfl | h
    · exact x.1
    · exact allLt_at x.2 p h
theorem Holds.same {k k' : Cf} {x : Str} {r : Value} {pl : Place} (h : Holds k x r pl) (hZ : k'.Z = k.Z) (hm : k'.m = k.m) : Holds k' x r pl := by
  cases pl with
  | frame => exact (congrFun hm x).trans h
  | dict a => obtain ⟨o, m', h1, h2⟩ := h; exact ⟨o, m', hZ ▸ h1, h2⟩
  | cell a => obtain ⟨o, h1, h2⟩ := h; exact ⟨o, hZ ▸ h1, h2⟩
/-- a new thing at x among the frozen -/
theorem Rel.newH {X : Led} {k : Cf} {σ : St} {h' : Heap} {x : Addr} {o : Obj} (R : Rel c X k σ) (F' : Fr c.g c.L h' k.m) (N' : News c.g c.L h' ((x, o) :: (k.Z ++ (k.O ++ (k.H ++ X))))) (l : AllLt x ((c.L, lisO [] 0) :: (k.Z ++ (k.O ++ (k.H ++ X))))) :
    Rel c X { k with H := (x, o) :: k.H, h := h' } σ :=
  have lt : ∀ q ∈ k.Z ++ (k.O ++ (k.H ++ X)), @LT.lt Nat _ q.1 x := fun q hq => allLt_at l q (.tail _ hq)
  { F := F'
    N := fun p hp => N' p (by
      rcases List.mem_append.mp hp with h | h
      · exact .tail _ (List.mem_append_left _ h)
      · rcases List.mem_append.mp h with h | h
        · exact .tail _ (List.mem_append_right _ (List.mem_append_left _ h))
        · rcases List.mem_cons.mp h with rfl | h
          · exact .head _
          · exact .tail _ (List.mem_append_right _ (List.mem_append_right _ h)))
    fx := fun p hp => .tail _ (R.fx p hp), za := R.za, ll := R.ll, ol := R.ol
    ob := fun i vs hv => let ⟨a, rs, n, h1, h2⟩ := R.ob i vs hv; ⟨a, rs, n, h1, h2.mono (fun p hp => .tail _ hp) fun _ _ h => h⟩
    lo := fun i y pl v hy hv => let ⟨r, h1, h2⟩ := R.lo i y pl v hy hv; ⟨r, h1.same rfl rfl, h2.mono (fun p hp => .tail _ hp) fun _ _ h => h⟩
    ce := R.ce, nd := R.nd
    zo := fun p hp q hq => by
      rcases List.mem_append.mp hq with h | h
      · exact R.zo p hp q (List.mem_append_left _ h)
      · rcases List.mem_cons.mp h with rfl | h
        · exact Nat.ne_of_lt (lt p (List.mem_append_left _ hp))
        · exact R.zo p hp q (List.mem_append_right _ h)
    xo := fun p hp q hq => by
      rcases List.mem_append.mp hq with h | h
      · exact R.xo p hp q (List.mem_append_left _ h)
      · rcases List.mem_cons.mp h with rfl | h
        · exact Nat.ne_of_lt (lt p (List.mem_append_right _ (List.mem_append_right _ (List.mem_append_right _ hp))))
        · exact R.xo p hp q (List.mem_append_right _ h)
    oh := fun hl p hp q hq => by
      rcases List.mem_cons.mp hq with rfl | h
      · exact Nat.ne_of_lt (lt p (List.mem_append_right _ (List.mem_append_left _ hp)))
      · exact R.oh hl p hp q h }
theorem getElem?_grow {α : Type} {l : List α} {a b : α} {k : Nat} (h : l[k]? = some a) : (l ++ [b])[k]? = some a := by
  obtain ⟨h1, h2⟩ := List.getElem?_eq_some_iff.mp h
  rw [List.getElem?_append_left h1]; exact h
theorem Rel.newO {X : Led} {k : Cf} {σ : St} {h' : Heap} {x : Addr} {vs : List PV} {rs : List Value} {n : Nat} (R : Rel c X k σ) (V : VVs k vs rs) (F' : Fr c.g c.L h' k.m) (N' : News c.g c.L h' ((x, lisO rs n) :: (k.Z ++ (k.O ++ (k.H ++ X))))) (l : AllLt x ((c.L, lisO [] 0) :: (k.Z ++ (k.O ++ (k.H ++ X))))) :
    Rel c X { k with O := k.O ++ [(x, lisO rs n)], h := h' } { σ with obs := σ.obs ++ [vs] } :=
  have lt : ∀ q ∈ k.Z ++ (k.O ++ (k.H ++ X)), @LT.lt Nat _ q.1 x := fun q hq => allLt_at l q (.tail _ hq)
  have gA : ∀ (i : Nat) (a : Addr), k.As[i]? = some a → ((k.O ++ [(x, lisO rs n)]).map (·.1))[i]? = some a := fun i a h => by
    rw [List.map_append]; exact getElem?_grow h
  { F := F'
    N := fun p hp => N' p (by
      rcases List.mem_append.mp hp with h | h
      · exact .tail _ (List.mem_append_left _ h)
      · rcases List.mem_append.mp h with h | h
        · rcases List.mem_append.mp h with h | h
          · exact .tail _ (List.mem_append_right _ (List.mem_append_left _ h))
          · rw [List.mem_singleton.mp h]; exact .head _
        · exact .tail _ (List.mem_append_right _ (List.mem_append_right _ h)))
    fx := R.fx, za := R.za, ll := R.ll, ol := by simp [R.ol]
    ob := fun i us hu => by
      rw [List.getElem?_append] at hu
      split at hu
      · obtain ⟨a, ss, n', h1, h2⟩ := R.ob i us hu
        exact ⟨a, ss, n', getElem?_grow h1, h2.mono (fun _ h => h) gA⟩
      · rename_i hk
        have hk' : i = σ.obs.length := by
          have : i - σ.obs.length < 1 := by
            have := (List.getElem?_eq_some_iff.mp hu).1
            simpa using this
          omega
        subst hk'
        simp only [Nat.sub_self, List.getElem?_cons_zero, Option.some.injEq] at hu
        subst hu
        refine ⟨x, rs, n, ?_, V.mono (fun _ h => h) gA⟩
        rw [List.getElem?_append_right (by have := R.ol; omega), R.ol, Nat.sub_self]; rfl
    lo := fun i y pl v hy hv => let ⟨r, h1, h2⟩ := R.lo i y pl v hy hv; ⟨r, h1.same rfl rfl, h2.mono (fun _ h => h) gA⟩
    ce := R.ce
    nd := by
      show ((k.O ++ [(x, lisO rs n)]).map (·.1)).Nodup
      rw [List.map_append, List.nodup_append]
      refine ⟨R.nd, by simp, ?_⟩
      intro a ha b hb
      simp only [List.map_cons, List.map_nil, List.mem_singleton] at hb
      subst hb
      obtain ⟨p, hp, rfl⟩ := List.mem_map.mp ha
      exact Nat.ne_of_lt (lt p (List.mem_append_right _ (List.mem_append_left _ hp)))
    zo := fun p hp q hq => by
      rcases List.mem_append.mp hq with h | h
      · rcases List.mem_append.mp h with h | h
        · exact R.zo p hp q (List.mem_append_left _ h)
        · rw [List.mem_singleton.mp h]
          exact Nat.ne_of_lt (lt p (List.mem_append_left _ hp))
      · exact R.zo p hp q (List.mem_append_right _ h)
    xo := fun p hp q hq => by
      rcases List.mem_append.mp hq with h | h
      · rcases List.mem_append.mp h with h | h
        · exact R.xo p hp q (List.mem_append_left _ h)
        · rw [List.mem_singleton.mp h]
          exact Nat.ne_of_lt (lt p (List.mem_append_right _ (List.mem_append_right _ (List.mem_append_right _ hp))))
      · exact R.xo p hp q (List.mem_append_right _ h)
    oh := fun hl p hp q hq => by
      rcases List.mem_append.mp hp with h | h
      · exact R.oh hl p h q hq
      · rw [List.mem_singleton.mp h]
        exact Nat.ne_of_gt (lt q (List.mem_append_right _ (List.mem_append_right _ (List.mem_append_left _ hq)))) }
/-- only the heap grew or changed elsewhere -/
theorem Rel.heap {X : Led} {k : Cf} {σ : St} {h' : Heap} (R : Rel c X k σ) (F' : Fr c.g c.L h' k.m) (N' : News c.g c.L h' (k.Z ++ (k.O ++ (k.H ++ X)))) : Rel c X { k with h := h' } σ :=
  { R with F := F', N := N', lo := fun i y pl v hy hv => let ⟨r, h1, h2⟩ := R.lo i y pl v hy hv; ⟨r, h1.same rfl rfl, h2⟩ }
theorem Grow.heap {k : Cf} {h' : Heap} : Grow k { k with h := h' } := ⟨fun _ h => h, fun _ _ h => h⟩
theorem Grow.newH {k : Cf} {p : Addr × Obj} {h' : Heap} : Grow k { k with H := p :: k.H, h := h' } := ⟨fun _ h => .tail _ h, fun _ _ h => h⟩
theorem Grow.newO {k : Cf} {p : Addr × Obj} {h' : Heap} : Grow k { k with O := k.O ++ [p], h := h' } := ⟨fun _ h => h, fun i a h => by
  show ((k.O ++ [p]).map (·.1))[i]? = some a
  rw [List.map_append]; exact getElem?_grow h⟩
def newTW (vs : List PV) : ET := fun σ Φ => vs.length ≤ 100 ∧ Φ (.tup vs) σ
theorem se_tuple {elts : List Expr} {n : Nat} {pos : Pos} {f : LT} (hl : SL c (spliced (backTo pos (starEach elts c.env))) f) : SE c (eval (.Tuple elts n pos) c.env) (fun σ Φ => f σ fun vs σ' => newTW vs σ' Φ) := by
  intro X k σ tk Φ Q E hf R post
  refine Tuple_ (hl.run hf R fun vs σ₁ k₁ tk₁ rs hf₁ R₁ G₁ V₁ => ?_)
  refine newTuple_M R₁.F R₁.N (fun x h' F' N' l => ?_) (by rw [← V₁.len]; exact Nat.le_trans hf₁.1 (by decide))
  exact post _ _ _ _ _ hf₁.2 (R₁.newH F' N' l) (G₁.trans .newH) (.tup (.head _) (V₁.mono (fun p hp => .tail _ hp) fun _ _ h => h))
def ownN (n : Nat) (K : PV → Prop) : Prop := match n with
  | 0 => K (.own 0)
  | 1 => K (.own 1)
  | 2 => K (.own 2)
  | n => K (.own n)
theorem ownN_eq {n : Nat} {K : PV → Prop} : ownN n K = K (.own n) := by
  unfold ownN
  split <;> rfl
def newLW (vs : List PV) : ET := fun ⟨l, o, b⟩ Φ => vs.length ≤ 100 ∧ ownN o.length fun v => appC o [vs] fun o' => Φ v ⟨l, o', b⟩
theorem newLW_eq {vs : List PV} {σ : St} {Φ : PV → St → Prop} : newLW vs σ Φ = (vs.length ≤ 100 ∧ Φ (.own σ.obs.length) { σ with obs := σ.obs ++ [vs] }) := by
  cases σ
  show (_ ∧ ownN _ _) = _
  rw [ownN_eq, appC_eq]
theorem own_at {O : Led} {x : Addr} {o : Obj} {n : Nat} (h : O.length = n) : ((O ++ [(x, o)]).map (·.1))[n]? = some x := by
  subst h
  rw [List.map_append, List.getElem?_append_right (by simp)]
  simp
theorem se_list {elts : List Expr} {pos : Pos} {f : LT} (hl : SL c (spliced (backTo pos (starEach elts c.env))) f) : SE c (eval (.List elts pos) c.env) (fun σ Φ => f σ fun vs σ' => newLW vs σ' Φ) := by
  intro X k σ tk Φ Q E hf R post
  refine List_ (hl.run hf R fun vs σ₁ k₁ tk₁ rs hf₁ R₁ G₁ V₁ => ?_)
  rw [newLW_eq] at hf₁
  refine newList_M R₁.F R₁.N (fun x h' F' N' l => ?_) (by rw [← V₁.len]; exact Nat.le_trans hf₁.1 (by decide))
  exact post _ _ _ _ _ hf₁.2 (R₁.newO V₁ F' N' l) (G₁.trans .newO) (.own (own_at R₁.ol))

/-! what is frozen -/
def fz (obs : List (List PV)) : Nat → PV → Option PV
  | 0, _ => none
  | n + 1, v => match v with
    | .int i => some (.int i)
    | .raw v => some (.raw v)
    | .lis vs => some (.lis vs)
    | .tup vs => (vs.mapM (fz obs n)).map .tup
    | .own i => match obs[i]? with
      | some vs => (vs.mapM (fz obs n)).map .lis
      | none => none
    | .rng _ _ _ => none
theorem mapM_vrs {H H' : Led} {As As' : List Addr} {f : PV → Option PV} (hf : ∀ v v' r, f v = some v' → VR H As v r → VR H' As' v' r) : ∀ {vs vs' : List PV} {rs : List Value}, vs.mapM f = some vs' → VRs H As vs rs → VRs H' As' vs' rs
  | [], vs', _, h, .nil => by
    simp at h; subst h; exact .nil
  | v :: vs, vs', _, h, .cons x y => by
    simp only [List.mapM_cons, Option.bind_eq_bind, Option.bind_eq_some_iff, Option.pure_def, Option.some.injEq] at h
    obtain ⟨v', h1, us, h2, rfl⟩ := h
    exact .cons (hf _ _ _ h1 x) (mapM_vrs hf h2 y)
theorem fz_vr {X : Led} {k : Cf} {σ : St} (R : Rel c X k σ) : ∀ (n : Nat) (v v' : PV) (r : Value), fz σ.obs n v = some v' → VV k v r → VR (k.O ++ k.H) [] v' r
  | 0, _, _, _, h, _ => by cases h
  | n + 1, v, v', r, h, V => by
    unfold fz at h
    cases V with
    | int _ _ => cases h; exact .int _ _
    | raw _ => cases h; exact .raw _
    | lis m x => cases h; exact .lis (List.mem_append_right _ m) (x.mono (fun _ h => List.mem_append_right _ h) fun _ _ h => h)
    | tup m x =>
      simp only [Option.map_eq_some_iff] at h
      obtain ⟨us, h1, rfl⟩ := h
      exact .tup (List.mem_append_right _ m) (mapM_vrs (fz_vr R n) h1 x)
    | rng m => cases h
    | own m =>
      simp only at h
      split at h
      · rename_i vs hv
        simp only [Option.map_eq_some_iff] at h
        obtain ⟨us, h1, rfl⟩ := h
        obtain ⟨a, rs, n', h2, h3⟩ := R.ob _ _ hv
        rw [Cf.As, List.getElem?_map, h2] at m
        simp at m; subst m
        exact .lis (List.mem_append_left _ (List.mem_of_getElem? h2)) (mapM_vrs (fz_vr R n) h1 h3)
      · cases h
theorem fz0_vr {H : Led} {As : List Addr} : ∀ (n : Nat) (v v' : PV) (r : Value), fz [] n v = some v' → VR H As v r → VR H [] v' r
  | 0, _, _, _, h, _ => by cases h
  | n + 1, v, v', r, h, V => by
    unfold fz at h
    cases V with
    | int _ _ => cases h; exact .int _ _
    | raw _ => cases h; exact .raw _
    | lis m x => cases h; exact .lis m x
    | tup m x =>
      simp only [Option.map_eq_some_iff] at h
      obtain ⟨us, h1, rfl⟩ := h
      exact .tup m (mapM_vrs (fz0_vr n) h1 x)
    | rng m => cases h
    | own m => simp at h
/-- the same, handed on -/
def fzC (obs : List (List PV)) : Nat → PV → (PV → Prop) → Prop
  | 0, _ => fun _ => False
  | n + 1, v => fun K => match v with
    | .int i => K (.int i)
    | .raw v => K (.raw v)
    | .lis vs => K (.lis vs)
    | .tup vs => goC (fzC obs n) vs fun us => K (.tup us)
    | .own i => match obs[i]? with
      | some vs => goC (fzC obs n) vs fun us => K (.lis us)
      | none => False
    | .rng _ _ _ => False
where goC (f : PV → (PV → Prop) → Prop) : List PV → (List PV → Prop) → Prop
  | [], K => K []
  | v :: vs, K => f v fun u => goC f vs fun us => K (u :: us)
theorem goC_of {f : PV → (PV → Prop) → Prop} {g : PV → Option PV} (h : ∀ v K, f v K → ∃ u, g v = some u ∧ K u) : ∀ {vs : List PV} {K : List PV → Prop}, fzC.goC f vs K → ∃ us, vs.mapM g = some us ∧ K us
  | [], _, hk => ⟨[], by simp, hk⟩
  | v :: vs, K, hk => by
    obtain ⟨u, h1, h2⟩ := h v _ hk
    obtain ⟨us, h3, h4⟩ := goC_of h h2
    exact ⟨u :: us, by simp [List.mapM_cons, h1, h3], h4⟩
theorem fzC_of {obs : List (List PV)} : ∀ (n : Nat) (v : PV) (K : PV → Prop), fzC obs n v K → ∃ u, fz obs n v = some u ∧ K u
  | 0, _, _, h => by cases h
  | n + 1, v, K, h => by
    unfold fzC at h
    unfold fz
    cases v with
    | int i => exact ⟨_, rfl, h⟩
    | raw v => exact ⟨_, rfl, h⟩
    | lis vs => exact ⟨_, rfl, h⟩
    | rng a b s => cases h
    | tup vs =>
      obtain ⟨us, h1, h2⟩ := goC_of (fzC_of n) h
      exact ⟨_, by show Option.map PV.tup (vs.mapM (fz obs n)) = _; rw [h1]; rfl, h2⟩
    | own i =>
      simp only at h ⊢
      split at h
      · rename_i vs hv
        obtain ⟨us, h1, h2⟩ := goC_of (fzC_of n) h
        refine ⟨.lis us, ?_, h2⟩
        rw [h1]; rfl
      · cases h
def fzsC (obs : List (List PV)) (vs : List PV) (K : List PV → Prop) : Prop := fzC.goC (fzC obs 9) vs K
theorem fzsC_of {obs : List (List PV)} {vs : List PV} {K : List PV → Prop} (h : fzsC obs vs K) : ∃ us, vs.mapM (fz obs 9) = some us ∧ K us := goC_of (fzC_of 9) h
/-- a written list that nothing changes -/
def newFW (vs : List PV) : ET := fun σ Φ => vs.length ≤ 100 ∧ fzsC [] vs fun us => Φ (.lis us) σ
theorem se_listF {elts : List Expr} {pos : Pos} {f : LT} (hl : SL c (spliced (backTo pos (starEach elts c.env))) f) : SE c (eval (.List elts pos) c.env) (fun σ Φ => f σ fun vs σ' => newFW vs σ' Φ) := by
  intro X k σ tk Φ Q E hf R post
  refine List_ (hl.run hf R fun vs σ₁ k₁ tk₁ rs hf₁ R₁ G₁ V₁ => ?_)
  obtain ⟨hle, hf₁⟩ := hf₁
  obtain ⟨us, hu, hf₂⟩ := fzsC_of hf₁
  refine newList_M R₁.F R₁.N (fun x h' F' N' l => ?_) (by rw [← V₁.len]; exact Nat.le_trans hle (by decide))
  exact post _ _ _ _ _ hf₂ (R₁.newH F' N' l) (G₁.trans .newH) (.lis (.head _) ((mapM_vrs (fz0_vr 9) hu V₁).mono (fun p hp => .tail _ hp) fun _ _ h => h))
end
section
variable {c : Cx}
theorem Rel.inO {X : Led} {k : Cf} {σ : St} (_R : Rel c X k σ) {p : Addr × Obj} (h : p ∈ k.O) : p ∈ k.Z ++ (k.O ++ (k.H ++ X)) := List.mem_append_right _ (List.mem_append_left _ h)
theorem Rel.inH {X : Led} {k : Cf} {σ : St} (_R : Rel c X k σ) {p : Addr × Obj} (h : p ∈ k.H) : p ∈ k.Z ++ (k.O ++ (k.H ++ X)) := List.mem_append_right _ (List.mem_append_right _ (List.mem_append_left _ h))
theorem Rel.own {X : Led} {k : Cf} {σ : St} (R : Rel c X k σ) {i : Nat} {vs : List PV} {r : Value} (hv : σ.obs[i]? = some vs) (V : VV k (.own i) r) : ∃ a rs n, r = .ref a ∧ k.O[i]? = some (a, lisO rs n) ∧ VVs k vs rs := by
  cases V with
  | own m =>
    obtain ⟨a, rs, n, h1, h2⟩ := R.ob i vs hv
    rw [Cf.As, List.getElem?_map, h1] at m
    simp at m; subst m
    exact ⟨_, rs, n, rfl, h1, h2⟩

/-! items -/
def pick (vs : List PV) (i : Int) : Option PV := if 0 ≤ i then (if i ≤ 1000 then vs[i.toNat]? else none) else if 0 ≤ i + vs.length ∧ -1000 ≤ i then vs[(i + vs.length).toNat]? else none
def seqOf (σ : St) : PV → Option (List PV)
  | .lis vs => some vs
  | .tup vs => some vs
  | .own k => σ.obs[k]?
  | _ => none
def idxW (a b : PV) : ET := fun σ Φ => match b, seqOf σ a with
  | .int i, some vs => match pick vs i with
    | some v => Φ v σ
    | none => False
  | _, _ => False
theorem seqIndex_pos {i : Int} {n : Nat} (h0 : 0 ≤ i) (h1 : i < n) : seqIndex? i n = some i.toNat := by
  unfold seqIndex?
  have h2 : ¬ i < 0 := by omega
  simp [h2, h0, h1]
theorem seqIndex_back {i : Int} {n : Nat} (h0 : i < 0) (h1 : 0 ≤ i + n) : seqIndex? i n = some (i + n).toNat := by
  unfold seqIndex?
  have h2 : i + n < n := by omega
  simp [h0, h1, h2]
theorem pick_get {vs : List PV} {rs : List Value} {H : Led} {As : List Addr} {i : Int} {v : PV} (h : pick vs i = some v) (V : VRs H As vs rs) :
    ∃ r, VR H As v r ∧ ((0 ≤ i ∧ i < 2 ^ 63 ∧ rs[i.toNat]? = some r) ∨ (i < 0 ∧ -(rs.length : Int) ≤ i ∧ -(2 ^ 63) ≤ i ∧ rs[(i + rs.length).toNat]? = some r)) ∧ -(2 ^ 63) ≤ i ∧ i < 2 ^ 63 ∧ ∃ j, seqIndex? i rs.length = some j ∧ rs[j]? = some r := by
  have hl := V.len
  unfold pick at h
  split at h
  · rename_i h0
    split at h
    · rename_i h1
      obtain ⟨r, h2, h3⟩ := V.at h
      have h4 := (List.getElem?_eq_some_iff.mp h2).1
      exact ⟨r, h3, .inl ⟨h0, by omega, h2⟩, by omega, by omega, i.toNat, seqIndex_pos h0 (by omega), h2⟩
    · cases h
  · rename_i h0
    split at h
    · rename_i h1
      rw [hl] at h h1
      obtain ⟨r, h2, h3⟩ := V.at h
      exact ⟨r, h3, .inr ⟨by omega, by omega, by omega, h2⟩, by omega, by omega, (i + rs.length).toNat, seqIndex_back (by omega) (by omega), h2⟩
    · cases h
theorem so_idx {value slice : Expr} (hs : ∀ o i u, subscripted slice false (.ref o) (.int i u) = operate [.ref o, .int i u] (getItem (.ref o) (.int i u))) : SO c (subscriptTail value slice) idxW := by
  intro X k σ tk a b ra rb Φ Q E hf R Va Vb post
  unfold idxW at hf
  split at hf
  · rename_i i vs hvs
    split at hf
    · rename_i v hv
      cases Vb with
      | int i u =>
      have list : ∀ (x : Addr) (rs : List Value) (n : Nat), (x, lisO rs n) ∈ k.Z ++ (k.O ++ (k.H ++ X)) → VVs k vs rs → wpAny c.M c.A (subscriptTail value slice (.ref x) (.int i u)) Q E (c.at k tk) := by
        intro x rs n hm V
        obtain ⟨r, h1, h2, _⟩ := pick_get hv V
        have hl := News.isList R.N hm
        rcases h2 with ⟨h3, h4, h5⟩ | ⟨h3, h4, h5, h6⟩
        · exact tail_any hl.typeIs slot_list_getitem.lookup (wpAny_getItem_list hl h3 h4 (by simpa using h5) (post _ _ _ _ _ hf R .rfl' h1)) (hs x i u)
        · exact tail_any hl.typeIs slot_list_getitem.lookup (wpAny_getItem_list_neg hl h3 (by rw [List.size_toArray]; exact h4) h5 (by rw [List.size_toArray]; simpa using h6) (post _ _ _ _ _ hf R .rfl' h1)) (hs x i u)
      cases Va with
      | int => cases hvs
      | raw => cases hvs
      | rng => cases hvs
      | lis m x =>
        cases hvs
        exact list _ _ _ (R.inH m) (x.mono (fun _ h => h) fun _ _ h => by simp at h)
      | own m =>
        obtain ⟨a, rs, n, h1, h2, h3⟩ := R.own (i := _) hvs (.own m)
        cases h1
        exact list _ _ _ (R.inO (List.mem_of_getElem? h2)) h3
      | tup m x =>
        cases hvs
        obtain ⟨r, h1, _, h3, h4, j, h5, h6⟩ := pick_get hv x
        have ht : IsTup k.h _ _ := ⟨_, (R.N _ (R.inH m)).1, rfl, _, rfl⟩
        exact tail_any ht.typeIs slot_tuple_getitem.lookup (getItem_tuple ht h3 h4 (by rw [List.size_toArray]; exact h5) (by simpa using h6) (post _ _ _ _ _ hf R .rfl' h1)) (hs _ i u)
    · exact hf.elim
  · exact hf.elim
theorem se_sub {value slice : Expr} {pos : Pos} {fa fb : ET} {g : PV → PV → ET} (ha : SE c (eval value c.env) fa) (hb : SE c (eval slice c.env) fb) (ho : SO c (subscriptTail value slice) g) : SE c (eval (.Subscript value slice pos) c.env) (twoW fa fb g) := by
  intro X k σ tk Φ Q E hf R post
  refine Subscript_ (ha.run hf R fun a σ₁ k₁ tk₁ ra hf₁ R₁ G₁ V₁ => hb.run hf₁ R₁ fun b σ₂ k₂ tk₂ rb hf₂ R₂ G₂ V₂ => ?_)
  exact ho X k₂ σ₂ tk₂ a b ra rb Φ Q E hf₂ R₂ (V₁.grow G₂) V₂ (post.up (G₁.trans G₂))
/-- a cut from the start -/
def cutW (a : PV) (b : Option PV) : ET := fun σ Φ => match a, b with
  | .lis vs, none => vs.length ≤ 1000 ∧ Φ (.lis vs) σ
  | .lis vs, some (.int j) => vs.length ≤ 1000 ∧ 0 ≤ j ∧ takeC vs j.toNat fun us => Φ (.lis us) σ
  | _, _ => False
def partW (f : Option ET) : St → (Option PV → St → Prop) → Prop := fun σ Φ => match f with
  | none => Φ none σ
  | some f => f σ fun v σ' => Φ (some v) σ'
theorem kms_take (l : List Value) (j : Nat) : kms_pick l none (some (j : Int)) = l.take j := by
  unfold kms_pick kms_lo kms_hi
  simp only [List.drop_zero, Nat.sub_zero]
  rw [if_neg (by omega), Int.toNat_natCast]
  rcases Nat.le_total j l.length with h | h
  · rw [Nat.min_eq_left h]
  · rw [Nat.min_eq_right h, List.take_of_length_le (Nat.le_refl _), List.take_of_length_le h]
theorem kms_all (l : List Value) : kms_pick l none none = l := by
  unfold kms_pick kms_lo kms_hi
  simp
theorem se_cut {value : Expr} {up : Option Expr} {p pos : Pos} {fa : ET} {fb : Option ET} (ha : SE c (eval value c.env) fa)
    (hb : match up, fb with | none, none => True | some e, some f => SE c (eval e c.env) f | _, _ => False) (ht : ∀ o r, letTemporaryGo value (.ref o) r = pure ()) :
    SE c (eval (.Subscript value (.Slice none up none p) pos) c.env) (fun σ Φ => fa σ fun a σ₁ => partW fb σ₁ fun b σ₂ => cutW a b σ₂ Φ) := by
  intro X k σ tk Φ Q E hf R post
  refine Subscript_ (ha.run hf R fun a σ₁ k₁ tk₁ ra hf₁ R₁ G₁ V₁ => wpAny_Slice ?_)
  rw [evalPart_none]
  refine wpAny_pure ?_
  have fin : ∀ (b : Option PV) (σ₂ : St) (k₂ : Cf) (tk₂ : Nat) (rb : Value) (hi : Option Int), cutW a b σ₂ Φ → Rel c X k₂ σ₂ → Grow k₁ k₂ → IsPart rb hi → (b = none → hi = none) → (∀ j, b = some (.int j) → hi = some j) →
      wpAny c.M c.A (subscriptTail value (.Slice none up none p) ra (.ref k₂.h.objs.size)) Q E { c.at k₂ tk₂ with heap := k₂.h.push { cls := .type "slice", data := .fields #[.none, rb, .none] } } := by
    intro b σ₂ k₂ tk₂ rb hi hf₂ R₂ G₂ pu e1 e2
    have V₂ := V₁.grow G₂
    have out : ∀ (x : Addr) (rs : List Value) (n : Nat) (vs zs : List PV) (ws : List Value), ra = .ref x → (x, lisO rs n) ∈ k₂.H → vs.length ≤ 1000 → VRs k₂.H [] vs rs → kms_pick rs none hi = ws → VRs k₂.H [] zs ws → Φ (.lis zs) σ₂ →
        wpAny c.M c.A (subscriptTail value (.Slice none up none p) ra (.ref k₂.h.objs.size)) Q E { c.at k₂ tk₂ with heap := k₂.h.push { cls := .type "slice", data := .fields #[.none, rb, .none] } } := by
      rintro x rs n vs zs ws rfl hm hle V e V' hz
      refine slice_M (s := c.at k₂ tk₂) R₂.F R₂.N (News.isList R₂.N (R₂.inH hm)) .none pu e (fun D h' F' N' l => ?_) rfl (ht x) ?_
      · exact post _ _ _ _ _ hz (R₂.newH F' N' l) ((G₁.trans G₂).trans .newH) (.lis (.head _) (V'.mono (fun p hp => .tail _ hp) fun _ _ h => h))
      · rw [List.size_toArray, ← V.len]; exact Nat.le_trans hle (by decide)
    unfold cutW at hf₂
    split at hf₂
    · cases V₂ with
      | lis m x =>
        have e := e1 rfl
        subst e
        exact out _ _ _ _ _ _ rfl m hf₂.1 x (kms_all _) x hf₂.2
    · rename_i vs j
      cases V₂ with
      | lis m x =>
        have e := e2 j rfl
        subst e
        have hj : j = (j.toNat : Int) := by have := hf₂.2.1; omega
        refine out _ _ _ _ _ _ rfl m hf₂.1 x ?_ (x.take j.toNat) (by have := hf₂.2.2; rw [takeC_eq] at this; exact this)
        rw [← kms_take]
        rw [← hj]
    · exact hf₂.elim
  cases up with
  | none =>
    cases fb with
    | some _ => exact hb.elim
    | none =>
      rw [evalPart_none]
      refine wpAny_pure (wpAny_pure ?_)
      exact fin none σ₁ k₁ tk₁ .none none hf₁ R₁ .rfl' .none (fun _ => rfl) (fun j h => by cases h)
  | some e =>
    cases fb with
    | none => exact hb.elim
    | some f =>
      rw [evalPart_some]
      refine S1.run hb hf₁ R₁ fun b σ₂ k₂ tk₂ rb hf₂ R₂ G₂ V₂ => ?_
      refine wpAny_pure ?_
      by_cases hi : ∃ j, b = .int j
      · obtain ⟨j, rfl⟩ := hi
        cases V₂ with
        | int j u => exact fin _ σ₂ k₂ tk₂ _ (some j) hf₂ R₂ G₂ (.int j u) (fun h => by cases h) (fun j' h => by cases h; rfl)
      · unfold cutW at hf₂
        dsimp only at hf₂
        split at hf₂
        · rename_i h; cases h
        · rename_i h; cases h; exact absurd ⟨_, rfl⟩ hi
        · exact hf₂.elim

/-! changes -/
theorem swp_at {a : Addr} {o' : Obj} : ∀ {l : Led} {j : Nat} {b : Addr} {o : Obj}, l[j]? = some (b, o) → b ≠ a → (swp a o' l)[j]? = some (b, o)
  | [], j, _, _, hj, _ => by simp at hj
  | p :: r, 0, b, o, hj, hn => by
    simp only [List.getElem?_cons_zero, Option.some.injEq] at hj
    subst hj
    show some (if b = a then _ else _) = _
    rw [if_neg hn]
  | p :: r, j + 1, _, _, hj, hn => by
    simp only [List.getElem?_cons_succ] at hj
    exact swp_at (l := r) hj hn
theorem swp_self_at {a : Addr} {o' : Obj} : ∀ {l : Led} {j : Nat} {o : Obj}, l[j]? = some (a, o) → (swp a o' l)[j]? = some (a, o')
  | [], j, _, hj => by simp at hj
  | p :: r, 0, o, hj => by
    simp only [List.getElem?_cons_zero, Option.some.injEq] at hj
    subst hj
    show some (if a = a then _ else _) = _
    rw [if_pos rfl]
  | p :: r, j + 1, _, hj => by
    simp only [List.getElem?_cons_succ] at hj
    exact swp_self_at (l := r) hj
/-- an own list changed, the frozen may have grown -/
theorem Rel.setOH {X : Led} {k : Cf} {σ : St} {h' : Heap} {i : Nat} {a : Addr} {rs rs' : List Value} {n n' : Nat} {vs' : List PV} {H' : Led} (R : Rel c X k σ) (hl : σ.live = true) (hi : k.O[i]? = some (a, lisO rs n)) (V : VRs H' k.As vs' rs')
    (hk : ∀ b o, b ≠ a → k.h.get? b = some o → h'.get? b = some o) (ho : h'.get? a = some (lisO rs' n')) (hH : ∀ p ∈ k.H, p ∈ H') (NH : News c.g c.L h' H') (new : ∀ p ∈ H', p ∈ k.H ∨ k.h.get? p.1 = none) :
    Rel c X { k with H := H', O := swp a (lisO rs' n') k.O, h := h' } { σ with obs := σ.obs.set i vs' } := by
  have hm := List.mem_of_getElem? hi
  have ha := R.N _ (R.inO hm)
  have hAs : (swp a (lisO rs' n') k.O).map (·.1) = k.As := swp_map
  have up : ∀ (j : Nat) (b : Addr), k.As[j]? = some b → ((swp a (lisO rs' n') k.O).map (·.1))[j]? = some b := fun j b h => by rw [hAs]; exact h
  have old : ∀ q ∈ k.Z ++ (k.O ++ (k.H ++ X)), k.h.get? q.1 ≠ none := fun q hq e => by rw [(R.N q hq).1] at e; cases e
  have F' : Fr c.g c.L h' k.m := ⟨R.F.ns.at' fun o e => hk _ o (Ne.symm ha.2.1) e, fun b o e => hk b o (fun q => by rw [q, ha.2.2] at e; cases e) (R.F.keep b o e), R.F.above⟩
  refine { F := F', N := fun p hp => ?_, fx := fun p hp => hH _ (R.fx p hp), za := R.za, ll := R.ll, ol := ?_, ob := fun j us hu => ?_, lo := fun j y pl v hy hv => ?_, ce := R.ce, nd := ?_, zo := fun p hp q hq => ?_, xo := fun p hp q hq => ?_, oh := fun hl => ?_ }
  · rcases List.mem_append.mp hp with hp | hp
    · have z := R.N p (List.mem_append_left _ hp)
      exact ⟨hk _ _ (R.zo p hp _ (List.mem_append_left _ hm)) z.1, z.2⟩
    · rcases List.mem_append.mp hp with hp | hp
      · rcases swp_mem hp with ⟨rfl, _⟩ | ⟨hp, hn⟩
        · exact ⟨ho, ha.2⟩
        · have z := R.N p (R.inO hp)
          exact ⟨hk _ _ hn z.1, z.2⟩
      · rcases List.mem_append.mp hp with hp | hp
        · exact NH p hp
        · have z := R.N p (List.mem_append_right _ (List.mem_append_right _ (List.mem_append_right _ hp)))
          exact ⟨hk _ _ (R.xo p hp _ (List.mem_append_left _ hm)) z.1, z.2⟩
  · have := congrArg List.length hAs
    simp only [Cf.As, List.length_map] at this
    rw [List.length_set]
    exact this.trans R.ol
  · rw [List.getElem?_set] at hu
    split at hu
    · rename_i e
      subst e
      split at hu
      · cases hu
        exact ⟨a, rs', n', swp_self_at hi, V.mono (fun _ h => h) up⟩
      · cases hu
    · rename_i e
      obtain ⟨b, ss, n₁, h1, h2⟩ := R.ob j us hu
      refine ⟨b, ss, n₁, swp_at h1 ?_, h2.mono hH up⟩
      rintro rfl
      refine e ?_
      have e1 : k.As[i]? = some b := by rw [Cf.As, List.getElem?_map, hi]; rfl
      have e2 : k.As[j]? = some b := by rw [Cf.As, List.getElem?_map, h1]; rfl
      obtain ⟨hi1, _⟩ := List.getElem?_eq_some_iff.mp e1
      exact (List.getElem?_inj hi1 R.nd).mp (e1.trans e2.symm)
  · obtain ⟨r, h1, h2⟩ := R.lo j y pl v hy hv
    exact ⟨r, h1.same rfl rfl, h2.mono hH up⟩
  · show ((swp a (lisO rs' n') k.O).map (·.1)).Nodup
    rw [hAs]; exact R.nd
  · rcases List.mem_append.mp hq with hq | hq
    · rcases swp_mem hq with ⟨rfl, _⟩ | ⟨hq, _⟩
      · exact R.zo p hp (a, lisO rs n) (List.mem_append_left _ hm)
      · exact R.zo p hp _ (List.mem_append_left _ hq)
    · rcases List.mem_append.mp hq with hq | hq
      · rcases new q hq with h | h
        · exact R.zo p hp q (List.mem_append_right _ (List.mem_append_left _ h))
        · intro e
          exact old p (List.mem_append_left _ hp) (e ▸ h)
      · exact R.zo p hp _ (List.mem_append_right _ (List.mem_append_right _ hq))
  · rcases List.mem_append.mp hq with hq | hq
    · rcases swp_mem hq with ⟨rfl, _⟩ | ⟨hq, _⟩
      · exact R.xo p hp (a, lisO rs n) (List.mem_append_left _ hm)
      · exact R.xo p hp _ (List.mem_append_left _ hq)
    · rcases new q hq with h | h
      · exact R.xo p hp q (List.mem_append_right _ h)
      · intro e
        exact old p (List.mem_append_right _ (List.mem_append_right _ (List.mem_append_right _ hp))) (e ▸ h)
  · refine dis_swp fun p hp q hq => ?_
    rcases new q hq with h | h
    · exact R.oh hl p hp q h
    · intro e
      exact old p (R.inO hp) (e ▸ h)
/-- an own list changed -/
theorem Rel.setO {X : Led} {k : Cf} {σ : St} {h' : Heap} {i : Nat} {a : Addr} {rs rs' : List Value} {n n' : Nat} {vs' : List PV} (R : Rel c X k σ) (hl : σ.live = true) (hi : k.O[i]? = some (a, lisO rs n)) (V : VVs k vs' rs')
    (hs : Heap.SameBut a k.h h') (ho : h'.get? a = some (lisO rs' n')) : Rel c X { k with O := swp a (lisO rs' n') k.O, h := h' } { σ with obs := σ.obs.set i vs' } :=
  R.setOH hl hi V (fun b o hb e => (hs.2 b hb).trans e) ho (fun _ h => h) (fun p hp => ⟨(hs.2 _ (Ne.symm (R.oh hl _ (List.mem_of_getElem? hi) p hp))).trans (R.N p (R.inH hp)).1, (R.N p (R.inH hp)).2⟩) fun _ h => .inl h
theorem Grow.setO {k : Cf} {h' : Heap} {a : Addr} {o : Obj} : Grow k { k with O := swp a o k.O, h := h' } := ⟨fun _ h => h, fun i b h => by
  show ((swp a o k.O).map (·.1))[i]? = some b
  rw [swp_map]; exact h⟩
/-- an own list changed -/
def chgW (i : Nat) (us : List PV) : St → (St → Prop) → Prop := fun ⟨l, o, b⟩ Φ => setC o i us fun o' => Φ ⟨l, o', b⟩
theorem chgW_eq {i : Nat} {us : List PV} {σ : St} {Φ : St → Prop} : chgW i us σ Φ = Φ { σ with obs := σ.obs.set i us } := by
  cases σ
  exact setC_eq
def appW (fo fe : ET) : ST := fun σ Φ => fo σ fun a σ₁ => match a with
  | .own i => σ₁.obs[i]?.isSome = true ∧ fe σ₁ fun v σ₂ => match σ₂.obs[i]? with
    | some vs => vs.length ≤ 1000 ∧ σ₂.live = true ∧ appC vs [v] fun us => chgW i us σ₂ (Φ .next)
    | none => False
  | _ => False
theorem ss_append {o elt : Expr} {apos pos pos' : Pos} {fo fe : ET} (ho : SE c (eval o c.env) fo) (he : SE c (eval elt c.env) fe)
    (hbase : attributeBase o "append" c.env (eval o c.env) = eval o c.env)
    (hfew : ((backTo pos (starEach [elt] c.env)).all (fun x => !x.1) && (backToKw pos (keywordEach [] c.env)).all (fun x => x.1.isSome)
      && decide (([elt] : List Expr).length + ([] : List Keyword).length + (if ([] : List Keyword).isEmpty then 0 else 1) < 30)) = true)
    (hline : (apos.endLine == pos.line) = true) (htrees : backTo pos (starEach [elt] c.env) = [(false, eval elt c.env)])
    (hi : interactive c.env = false) (hs : swapsWith (.Call (.Attribute o "append" apos) [elt] [] pos) none pos'.line c.env = pure false) :
    SS c (exec (.Expr (.Call (.Attribute o "append" apos) [elt] [] pos) pos') c.env) (appW fo fe) := by
  intro X k σ tk Φ Q E hf R post
  refine wpAny_Expr (wpAny_Call_append hbase hfew hline htrees ?_) hi hs
  refine ho.run hf R fun a σ₁ k₁ tk₁ ra hf₁ R₁ G₁ V₁ => ?_
  split at hf₁
  · rename_i i
    obtain ⟨us, hu⟩ := Option.isSome_iff_exists.mp hf₁.1
    obtain ⟨x, rs, n, rfl, hO, hV⟩ := R₁.own hu V₁
    refine ⟨x, rs.toArray, rfl, ⟨_, n, (R₁.N _ (R₁.inO (List.mem_of_getElem? hO))).1, rfl, rfl, rfl⟩, ?_⟩
    refine he.run hf₁.2 R₁ fun v σ₂ k₂ tk₂ rv hf₂ R₂ G₂ V₂ => ?_
    split at hf₂
    · rename_i vs hv
      obtain ⟨h1, h2, h4⟩ := hf₂
      rw [appC_eq, chgW_eq] at h4
      obtain ⟨y, rs₂, n₂, e, hO₂, hV₂⟩ := R₂.own hv (V₁.grow G₂)
      cases e
      refine append_at (its := rs₂.toArray) (R₂.N _ (R₂.inO (List.mem_of_getElem? hO₂))).1 (fun h' hs' hg' => ?_) (by rw [List.size_toArray, ← hV₂.len]; exact Nat.le_trans h1 (by decide))
      rw [List.push_toArray] at hg'
      exact post _ _ _ _ _ h4 (R₂.setO h2 hO₂ (hV₂.append (.cons V₂ .nil)) hs' hg') ((G₁.trans G₂).trans .setO) .next
    · exact hf₂.elim
  · exact hf₁.elim
/-- own[i] = value -/
def putW (a b v : PV) : UT := fun σ Φ => match a, b with
  | .own i, .int j => match σ.obs[i]? with
    | some vs => σ.live = true ∧ 0 ≤ j ∧ j < vs.length ∧ vs.length ≤ 1000 ∧ setC vs j.toNat v fun us => chgW i us σ (Φ ())
    | none => False
  | _, _ => False
theorem put_run {X : Led} {k : Cf} {σ : St} {tk : Nat} {a b v : PV} {ra rb rv : Value} {Φ : Unit → St → Prop} {Q : Unit → Shared → Prop} {E : Value → Shared → Prop}
    (hf : putW a b v σ Φ) (R : Rel c X k σ) (Va : VV k a ra) (Vb : VV k b rb) (Vv : VV k v rv) (post : Post c X k VU Φ Q) : wpAny c.M c.A (setItem ra rb rv) Q E (c.at k tk) := by
  unfold putW at hf
  split at hf
  · split at hf
    · rename_i i j _ vs hv
      cases Vb with
      | int j u =>
      obtain ⟨x, rs, n, rfl, hO, hV⟩ := R.own hv Va
      obtain ⟨h1, h2, h3, h4, h5⟩ := hf
      rw [setC_eq, chgW_eq] at h5
      have hm := (R.N _ (R.inO (List.mem_of_getElem? hO))).1
      refine ki_setAt (n := n) (items := rs.toArray) hm h2 (by omega) (by rw [List.size_toArray, ← hV.len]; exact h3) ?_
      refine post () _ _ tk () h5 (R.setO (n' := n) h1 hO (hV.set Vv) (Heap.SameBut.update ..) ?_) .setO trivial
      have q := PySem.IsL.update (items := rs.toArray) (n := n) hm (·.setIfInBounds j.toNat rv)
      have e : rs.toArray.setIfInBounds j.toNat rv = (rs.set j.toNat rv).toArray := by simp
      rw [e] at q
      rw [if_pos (by simp)] at q
      exact q
    · exact hf.elim
  · exact hf.elim
def setW (fv fo fi : ET) : ST := fun σ Φ => fv σ fun v σ₁ => fo σ₁ fun a σ₂ => fi σ₂ fun b σ₃ => putW a b v σ₃ fun _ σ₄ => Φ .next σ₄
theorem ss_set {o i value : Expr} {pos' pos : Pos} {fv fo fi : ET} (hv : SE c (eval value c.env) fv) (ho : SE c (eval o c.env) fo) (hi : SE c (eval i c.env) fi) (hs : swapsWith value (some (.Subscript o i pos')) pos.line c.env = pure false) :
    SS c (exec (.Assign [.Subscript o i pos'] value pos) c.env) (setW fv fo fi) := by
  intro X k σ tk Φ Q E hf R post
  refine wpAny_Assign_Subscript (hv.run hf R fun v σ₁ k₁ tk₁ r hf₁ R₁ G₁ V₁ => ho.run hf₁ R₁ fun a σ₂ k₂ tk₂ ra hf₂ R₂ G₂ V₂ => hi.run hf₂ R₂ fun b σ₃ k₃ tk₃ rb hf₃ R₃ G₃ V₃ => ?_) hs
  exact put_run hf₃ R₃ (V₂.grow G₃) V₃ ((V₁.grow G₂).grow G₃) fun _ σ₄ k₄ tk₄ _ hf₄ R₄ G₄ _ => post _ _ _ _ _ hf₄ R₄ (((G₁.trans G₂).trans G₃).trans G₄) .next
/-- the target own[i] -/
def putTW (fo fi : ET) (v : PV) : UT := fun σ Φ => fo σ fun a σ₁ => fi σ₁ fun b σ₂ => putW a b v σ₂ Φ
theorem st_sub {o i : Expr} {pos : Pos} {fo fi : ET} (ho : SE c (eval o c.env) fo) (hi : SE c (eval i c.env) fi) : STt c (assign (.Subscript o i pos) c.env) (putTW fo fi) := by
  intro X k σ tk v rv Φ Q E hf R V post
  rw [arm_assign_Subscript]
  refine wpAny_bind (wpAny_holding (ho.run hf R fun a σ₁ k₁ tk₁ ra hf₁ R₁ G₁ V₁ => wpAny_bind (wpAny_holding (hi.run hf₁ R₁ fun b σ₂ k₂ tk₂ rb hf₂ R₂ G₂ V₂ => ?_))))
  refine wpAny_bind (wpAny_standAt (wpAny_bind (wpAny_holding ?_)))
  exact put_run hf₂ R₂ (V₁.grow G₂) V₂ ((V.grow G₁).grow G₂) fun _ σ₃ k₃ tk₃ _ hf₃ R₃ G₃ _ => wpAny_release (post _ _ _ _ _ hf₃ R₃ ((G₁.trans G₂).trans G₃) trivial)

/-! several targets -/
inductive STs (c : Cx) : List (Value → Sem Unit) → List (PV → UT) → Prop
  | nil : STs c [] []
  | cons {t : Value → Sem Unit} {f : PV → UT} {ts : List (Value → Sem Unit)} {fs : List (PV → UT)} (x : STt c t f) (y : STs c ts fs) : STs c (t :: ts) (f :: fs)
def inW : List (PV → UT) → List PV → UT
  | f :: fs, v :: vs => fun σ Φ => f v σ fun _ σ₁ => inW fs vs σ₁ Φ
  | [], [] => fun σ Φ => Φ () σ
  | _, _ => fun _ _ => False
theorem sts_run {ts : List (Value → Sem Unit)} {fs : List (PV → UT)} (x : STs c ts fs) : ∀ {X : Led} {k : Cf} {σ : St} {tk : Nat} {vs : List PV} {rs : List Value} {Φ : Unit → St → Prop} {Q : Unit → Shared → Prop} {E : Value → Shared → Prop},
    inW fs vs σ Φ → Rel c X k σ → VVs k vs rs → Post c X k VU Φ Q → wpAny c.M c.A (assignInOrder ts rs) Q E (c.at k tk) := by
  induction x with
  | nil =>
    intro X k σ tk vs rs Φ Q E hf R V post
    cases V with
    | nil => exact wpAny_pure (post () _ _ _ _ hf R .rfl' trivial)
    | cons => exact hf.elim
  | @cons t f ts fs x y ih =>
    intro X k σ tk vs rs Φ Q E hf R V post
    cases V with
    | nil => exact hf.elim
    | cons v vs' =>
      show wpAny _ _ (do holding _ (t _); assignInOrder ts _) _ _ _
      refine wpAny_bind (wpAny_holding (x X k σ tk _ _ _ _ E hf R v fun _ σ₁ k₁ tk₁ _ hf₁ R₁ G₁ _ => ?_))
      exact ih hf₁ R₁ (vs'.grow G₁) (post.up G₁)
def unpW (fs : List (PV → UT)) (v : PV) : UT := fun σ Φ => match v with
  | .tup vs => vs.length = fs.length ∧ inW fs vs σ Φ
  | _ => False
theorem STs.len {ts : List (Value → Sem Unit)} {fs : List (PV → UT)} (x : STs c ts fs) : ts.length = fs.length := by
  induction x with
  | nil => rfl
  | cons _ _ ih => simp [ih]
theorem st_tuple {elts : List Expr} {n : Nat} {pos : Pos} {fs : List (PV → UT)} (hs : STs c ((assignEach elts c.env).map (·.2)) fs) (hstar : (assignEach elts c.env).findIdx? (·.1) = none) : STt c (assign (.Tuple elts n pos) c.env) (unpW fs) := by
  intro X k σ tk v rv Φ Q E hf R V post
  unfold unpW at hf
  split at hf
  · cases V with
    | tup m x =>
      refine wpAny_assign_Tuple rfl ⟨_, (R.N _ (R.inH m)).1, rfl, _, rfl⟩ ?_ hstar fun h' he => ?_
      · have := hs.len
        rw [List.length_map] at this
        rw [this, ← hf.1, x.len, List.size_toArray]
      · have F' := R.F.extBut he (Nat.le_refl _)
        have N' : News c.g c.L h' (k.Z ++ (k.O ++ (k.H ++ X))) := fun p hp => ⟨he _ _ (Nat.ne_of_lt (Heap.lt_size (R.N p hp).1)) (R.N p hp).1, (R.N p hp).2⟩
        exact sts_run hs (k := { k with h := h' }) hf.2 (R.heap F' N') x (post.up .heap)
  · exact hf.elim
theorem ss_tuple {elts : List Expr} {n : Nat} {tpos pos : Pos} {value : Expr} {f : ET} {g : PV → UT} (hv : SE c (eval value c.env) f) (ht : STt c (assign (.Tuple elts n tpos) c.env) g)
    (hs : swapsWithSole [.Tuple elts n tpos] value pos.line c.env = pure false) (hw : swappedStores [.Tuple elts n tpos] value c.env = pure none) :
    SS c (exec (.Assign [.Tuple elts n tpos] value pos) c.env) (asgW f g) := by
  intro X k σ tk Φ Q E hf R post
  refine Assign_Tuple (hv.run hf R fun v σ₁ k₁ tk₁ r hf₁ R₁ G₁ V₁ => ?_) hs hw
  exact ht X k₁ σ₁ tk₁ v r _ _ E hf₁ R₁ V₁ fun _ σ₂ k₂ tk₂ _ hf₂ R₂ G₂ _ => post _ _ _ _ _ hf₂ R₂ (G₁.trans G₂) .next
def swpW (f : ET) (fs : List (PV → UT)) : ST := fun σ Φ => f σ fun v σ₁ => match v with
  | .tup vs => vs.length = fs.length ∧ inW fs vs.reverse σ₁ fun _ σ₂ => Φ .next σ₂
  | _ => False
theorem VRs.reverse {H : Led} {As : List Addr} {vs : List PV} {rs : List Value} (h : VRs H As vs rs) : VRs H As vs.reverse rs.reverse := by
  revert rs
  induction vs with
  | nil => intro rs h; rw [h.nils]; exact .nil
  | cons v vs ih =>
    intro rs h
    cases h with
    | cons x y =>
      rw [List.reverse_cons, List.reverse_cons]
      exact (ih y).append (.cons x .nil)
theorem ss_swap {elts : List Expr} {n : Nat} {tpos pos : Pos} {value : Expr} {names : List Str} {f : ET} {fs : List (PV → UT)} (hv : SE c (eval value c.env) f) (ht : STs c (names.reverse.map fun n => bindName c.env n) fs)
    (hs : swapsWithSole [.Tuple elts n tpos] value pos.line c.env = pure false) (hw : swappedStores [.Tuple elts n tpos] value c.env = pure (some names)) :
    SS c (exec (.Assign [.Tuple elts n tpos] value pos) c.env) (swpW f fs) := by
  intro X k σ tk Φ Q E hf R post
  refine Assign_Tuple_swapped (hv.run hf R fun v σ₁ k₁ tk₁ r hf₁ R₁ G₁ V₁ => ?_) hs hw
  split at hf₁
  · cases V₁ with
    | @tup _ _ rs₀ _ m x =>
      have hn : names.length = rs₀.toArray.size := by
        have := ht.len
        rw [List.length_map, List.length_reverse] at this
        rw [this, ← hf₁.1, x.len, List.size_toArray]
      rw [hn]
      refine unpackItems_tuple rfl ⟨_, (R₁.N _ (R₁.inH m)).1, rfl, _, rfl⟩ fun h' he => ?_
      have F' := R₁.F.extBut he (Nat.le_refl _)
      have N' : News c.g c.L h' (k₁.Z ++ (k₁.O ++ (k₁.H ++ X))) := fun p hp => ⟨he _ _ (Nat.ne_of_lt (Heap.lt_size (R₁.N p hp).1)) (R₁.N p hp).1, (R₁.N p hp).2⟩
      exact sts_run ht (k := { k₁ with h := h' }) hf₁.2 (R₁.heap F' N') x.reverse fun _ σ₂ k₂ tk₂ _ hf₂ R₂ G₂ _ => post _ _ _ _ _ hf₂ R₂ ((G₁.trans .heap).trans G₂) .next
  · exact hf₁.elim
end
section
variable {c : Cx}
/-! built-in calls of one written name -/
abbrev cal (f : Value) (vs : List Value) : Sem Value := call f vs
/-- a call on the values of its arguments -/
def SA (c : Cx) (t : List Value → Sem Value) (f : List PV → ET) : Prop :=
  ∀ (X : Led) (k : Cf) (σ : St) (tk : Nat) (vs : List PV) (rs : List Value) (Φ : PV → St → Prop) (Q : Value → Shared → Prop) (E : Value → Shared → Prop),
    f vs σ Φ → Rel c X k σ → VVs k vs rs → Post c X k VV Φ Q → wpAny c.M c.A (t rs) Q E (c.at k tk)
def argsW (g : LT) (h : List PV → ET) : ET := fun σ Φ => g σ fun vs σ₁ => h vs σ₁ Φ
theorem se_builtin {x : Str} {id : String} {p pos : Pos} {e : Expr} {rest : List Expr} {g : LT} {h : List PV → ET} (hf : SE c (eval (.Name x p) c.env) (rawW (.builtin id))) (hg : SL c (spliced (backTo pos (starEach (e :: rest) c.env))) g) (ha : SA c (cal (.builtin id)) h)
    (he : starEach (e :: rest) c.env = (false, eval e c.env) :: starEach rest c.env) (hp : (backTo pos (starEach rest c.env)).any (·.1) = false) : SE c (eval (.Call (.Name x p) (e :: rest) [] pos) c.env) (argsW g h) := by
  intro X k σ tk Φ Q E hf' R post
  refine Call_Name rfl (hf.run (Φ := fun v σ' => v = .raw (.builtin id) ∧ g σ' fun vs σ₁ => h vs σ₁ Φ) ⟨rfl, hf'⟩ R fun v σ₁ k₁ tk₁ r hf₁ R₁ G₁ V₁ => ?_)
  obtain ⟨rfl, hf₁⟩ := hf₁
  cases V₁
  refine callWith_builtin1 (hg.run hf₁ R₁ fun vs σ₂ k₂ tk₂ rs hf₂ R₂ G₂ V₂ => ?_) he hp
  exact ha X k₂ σ₂ tk₂ vs rs Φ Q E hf₂ R₂ V₂ (post.up (G₁.trans G₂))
theorem se_type {x : Str} {T : String} {p pos : Pos} {e : Expr} {rest : List Expr} {g : LT} {h : List PV → ET} (hf : SE c (eval (.Name x p) c.env) (rawW (.type T))) (hg : SL c (spliced (backTo pos (starEach (e :: rest) c.env))) g) (ha : SA c (cal (.type T)) h)
    (he : starEach (e :: rest) c.env = (false, eval e c.env) :: starEach rest c.env) (hp : (backTo pos (starEach rest c.env)).any (·.1) = false) : SE c (eval (.Call (.Name x p) (e :: rest) [] pos) c.env) (argsW g h) := by
  intro X k σ tk Φ Q E hf' R post
  refine Call_Name rfl (hf.run (Φ := fun v σ' => v = .raw (.type T) ∧ g σ' fun vs σ₁ => h vs σ₁ Φ) ⟨rfl, hf'⟩ R fun v σ₁ k₁ tk₁ r hf₁ R₁ G₁ V₁ => ?_)
  obtain ⟨rfl, hf₁⟩ := hf₁
  cases V₁
  refine PyProof.Rows.callWith_type1 (hg.run hf₁ R₁ fun vs σ₂ k₂ tk₂ rs hf₂ R₂ G₂ V₂ => ?_) he hp
  exact ha X k₂ σ₂ tk₂ vs rs Φ Q E hf₂ R₂ V₂ (post.up (G₁.trans G₂))
def lenW (vs : List PV) : ET := fun σ Φ => match vs with
  | [.lis us] => us.length ≤ 1000 ∧ lenC us fun n => Φ (.int n) σ
  | [.own i] => match σ.obs[i]? with
    | some us => us.length ≤ 1000 ∧ lenC us fun n => Φ (.int n) σ
    | none => False
  | _ => False
theorem lenC_of {α : Type} {l : List α} {K : Int → Prop} (h : lenC l K) : K l.length := by rw [lenC_eq] at h; exact h
theorem sa_len : SA c (cal (.builtin "len")) lenW := by
  intro X k σ tk vs rs Φ Q E hf R V post
  have key : ∀ (us : List PV) (x : Addr) (ss : List Value) (n : Nat), us.length ≤ 1000 → Φ (.int us.length) σ → us.length = ss.length → (x, lisO ss n) ∈ k.Z ++ (k.O ++ (k.H ++ X)) → wpAny c.M c.A (call (.builtin "len") [.ref x]) Q E (c.at k tk) := by
    intro us x ss n h1 h2 h3 hm
    refine PyProof.Rows.len_list (News.isList R.N hm) (by rw [List.size_toArray]; omega) ?_
    rw [List.size_toArray, ← h3]
    exact post _ _ _ _ _ h2 R .rfl' (.int _ _)
  unfold lenW at hf
  split at hf
  · cases V with
    | cons v y =>
      cases y
      cases v with
      | lis m x => exact key _ _ _ _ hf.1 (lenC_of hf.2) x.len (R.inH m)
  · split at hf
    · rename_i us hu
      cases V with
      | cons v y =>
        cases y
        obtain ⟨x, ss, n, rfl, hO, hV⟩ := R.own hu v
        exact key _ _ _ _ hf.1 (lenC_of hf.2) hV.len (R.inO (List.mem_of_getElem? hO))
    · exact hf.elim
  · exact hf.elim
def absW (vs : List PV) : ET := fun σ Φ => match vs with
  | [.int x] => Φ (.int (if x < 0 then -x else x)) σ
  | _ => False
theorem sa_abs : SA c (cal (.builtin "abs")) absW := by
  intro X k σ tk vs rs Φ Q E hf R V post
  unfold absW at hf
  split at hf
  · cases V with
    | cons v y =>
      cases y
      cases v
      exact call_abs_int fun u tk' => post _ _ k tk' _ hf R .rfl' (.int _ _)
  · exact hf.elim
def intCW (vs : List PV) : ET := fun σ Φ => match vs with
  | [.int x] => Φ (.int x) σ
  | _ => False
theorem sa_int : SA c (cal (.type "int")) intCW := by
  intro X k σ tk vs rs Φ Q E hf R V post
  unfold intCW at hf
  split at hf
  · cases V with
    | cons v y =>
      cases y
      cases v
      exact call_int_int (post _ _ _ _ _ hf R .rfl' (.int _ _))
  · exact hf.elim
def rangeW (vs : List PV) : ET := fun σ Φ => match vs with
  | [.int b] => Φ (.rng 0 b 1) σ
  | [.int a, .int b] => Φ (.rng a b 1) σ
  | [.int a, .int b, .int s] => s = -1 ∧ Φ (.rng a b s) σ
  | _ => False
theorem Rel.newR {X : Led} {k : Cf} {σ : St} {o : Obj} (R : Rel c X k σ) (hf : o.isFreed = false := by rfl) : Rel c X { k with H := (k.h.objs.size, o) :: k.H, h := k.h.push o } σ :=
  R.newH (R.F.push _) (R.N.push R.F _ hf) (allLt_of fun p hp => by
    rcases List.mem_cons.mp hp with rfl | hp
    · exact R.F.ns.lt
    · exact Heap.lt_size (R.N p hp).1)
theorem sa_range : SA c (cal (.type "range")) rangeW := by
  intro X k σ tk vs rs Φ Q E hf R V post
  unfold rangeW at hf
  split at hf
  · cases V with
    | cons v y =>
      cases y
      cases v
      exact call_range_1 (post _ _ _ _ _ hf R.newR .newH (.rng (.head _)))
  · cases V with
    | cons v y =>
      cases y with
      | cons v' y =>
      cases y
      cases v
      cases v'
      exact call_range_2 (post _ _ _ _ _ hf R.newR .newH (.rng (.head _)))
  · cases V with
    | cons v y =>
      cases y with
      | cons v' y =>
      cases y with
      | cons v'' y =>
      cases y
      cases v
      cases v'
      cases v''
      exact call_range_3 (by omega) (post _ _ _ _ _ hf.2 R.newR .newH (.rng (.head _))) (.inl (PyProof.noPylong_small (by omega)))
  · exact hf.elim
/-! [v] * n -/
def mulLW (a b : PV) : ET := fun σ Φ => match a, b with
  | .lis [v], .int n => 0 ≤ n ∧ n ≤ 100 ∧ repC v n.toNat fun vs => newLW vs σ Φ
  | _, _ => False
theorem foldl_rep (r : Value) : ∀ (n : Nat) (acc : Array Value), List.foldl (fun x1 x2 => x1 ++ x2) acc (List.replicate n #[r]) = acc ++ (List.replicate n r).toArray
  | 0, acc => by simp
  | n + 1, acc => by
    rw [List.replicate_succ, List.foldl_cons, foldl_rep r n, List.replicate_succ]
    apply Array.toList_inj.mp
    simp
theorem VRs.rep {H : Led} {As : List Addr} {v : PV} {r : Value} (x : VR H As v r) : ∀ n, VRs H As (List.replicate n v) (List.replicate n r)
  | 0 => .nil
  | n + 1 => .cons x (VRs.rep x n)
theorem so_mulL : SO c (binaryOp .Mult) mulLW := by
  intro X k σ tk a b ra rb Φ Q E hf R Va Vb post
  unfold mulLW at hf
  split at hf
  · rename_i v n
    cases Vb with
    | int n u =>
    cases Va with
    | @lis _ _ rs m x hm V =>
    cases V with
    | cons V y =>
    cases y
    obtain ⟨h1, h2, h3⟩ := hf
    rw [repC_eq, newLW_eq] at h3
    replace h3 := h3.2
    rename_i r
    refine mul_list (k := m) (items := #[r]) R.F R.N (R.N _ (R.inH hm)).1 (by omega) (by omega) ?_ fun h' F' N' => ?_
    · show 1 * n.toNat ≤ 2 ^ 24
      omega
    · rw [if_neg (by simp), foldl_rep] at N'
      have e : (#[] ++ (List.replicate n.toNat r).toArray : Array Value) = (List.replicate n.toNat r).toArray := by simp
      rw [e] at N'
      exact post _ _ _ _ _ h3 (R.newO (n := 0) (.rep (V.mono (fun _ h => h) fun _ _ h => by simp at h) _) F' N' (allLt_of fun p hp => by
        rcases List.mem_cons.mp hp with rfl | hp
        · exact R.F.ns.lt
        · exact Heap.lt_size (R.N p hp).1)) .newO (.own (own_at R.ol))
  · exact hf.elim
end

/-! calls of the text's own defs -/
abbrev DW := List PV → (PV → Prop) → Prop
def FnIn (K : Frag) (a : Addr) : Prop := ∃ oc od fd osl, K.lookup a = some ⟨oc, od, .func fd, osl⟩
/-- what a call of the def at f does, whatever stands around it: W, d frames deep -/
structure Meets (D : Rn) (f : Addr) (d : Nat) (W : DW) : Prop where
  fn : FnIn D.K f
  run : ∀ (dp un : Nat) (gd : Option (List Code)) (cn : Str) (cs : Scope) (a : Addr) (ccd : Value) (cl : List (Str × Addr)) (outer : List Env) (A₀ : Around) (base h₀ : Heap) (L : Addr) (m : Str → Option Value) (s : Shared)
    (Q E : Value → Shared → Prop) (H : Led) (vs : List PV) (rs : List Value) (φ : PV → Prop),
    Below A₀ base outer h₀ → Fr h₀ L s.heap m → D.K.In h₀ → News h₀ L s.heap H → TopRead D.p D.loose D.mg D.mb h₀ → cs.kind = .function → dp + d < recursionLimit → un + 8 * d < cLine →
    (∀ p ∈ D.fx, p ∈ H) → W vs φ → VRs H [] vs rs →
    (∀ v r H' h' tk', φ v → Fr h₀ L h' m → s.heap.StaysIn h' → News h₀ L h' H' → (∀ p ∈ H, p ∈ H') → (∀ p ∈ H', p ∈ H ∨ s.heap.get? p.1 = none) → VR H' [] v r → Q r { s with heap := h', toks := tk' }) →
    wpAny (model D.prog D.w) (ktrTop dp un gd cn cs L a ccd cl outer) (call (.ref f) rs) Q E s
section
variable {c : Cx}
/-- the call's own part -/
def SA' (c : Cx) (a : Addr) (f : List PV → ET) : Prop := SA c (cal (.ref a)) f
/-- no own list is handed in -/
def goA (W : DW) (vs : List PV) : ET := fun σ Φ => fzsC [] vs fun us => W us fun v => Φ v σ
def scalar : PV → Bool
  | .int _ => true
  | .raw _ => true
  | _ => false
/-- own lists are handed in: they are frozen if the answer may hold them -/
def deadW (v : PV) (σ : St) (Φ : PV → St → Prop) : Prop := match v with
  | .int i => Φ (.int i) σ
  | .raw r => Φ (.raw r) σ
  | v => match σ with
    | ⟨l, o, _⟩ => Φ v ⟨l, o, false⟩
theorem deadW_eq {v : PV} {σ : St} {Φ : PV → St → Prop} : deadW v σ Φ = if scalar v = true then Φ v σ else Φ v { σ with live := false } := by
  cases v <;> rfl
def goB (W : DW) (vs : List PV) : ET := fun σ Φ => fzsC σ.obs vs fun us => W us fun v => deadW v σ Φ
theorem back_run {X : Led} {k : Cf} {σ : St} (R : Rel c X k σ) {h' : Heap} (F' : Fr c.g c.L h' k.m) (st : k.h.StaysIn h') {H' : Led} (N' : News c.g c.L h' H') (hH : ∀ p ∈ k.H, p ∈ H') (new : ∀ p ∈ H', (p ∈ k.O ∧ σ.live = false) ∨ p ∈ k.H ∨ k.h.get? p.1 = none) :
    Rel c X { k with H := H', h := h' } σ := by
  have old : ∀ q ∈ k.Z ++ (k.O ++ (k.H ++ X)), k.h.get? q.1 ≠ none := fun q hq e => by rw [(R.N q hq).1] at e; cases e
  refine { F := F', N := fun p hp => ?_, fx := fun p hp => hH _ (R.fx p hp), za := R.za, ll := R.ll, ol := R.ol, ob := fun i vs hv => ?_, lo := fun i y pl v hy hv => ?_, ce := R.ce, nd := R.nd, zo := fun p hp q hq => ?_, xo := fun p hp q hq => ?_, oh := fun hl p hp q hq => ?_ }
  · rcases List.mem_append.mp hp with h | h
    · have z := R.N p (List.mem_append_left _ h); exact ⟨st _ _ z.1, z.2⟩
    · rcases List.mem_append.mp h with h | h
      · have z := R.N p (R.inO h); exact ⟨st _ _ z.1, z.2⟩
      · rcases List.mem_append.mp h with h | h
        · exact N' p h
        · have z := R.N p (List.mem_append_right _ (List.mem_append_right _ (List.mem_append_right _ h))); exact ⟨st _ _ z.1, z.2⟩
  · obtain ⟨a, rs, n, h1, h2⟩ := R.ob i vs hv
    exact ⟨a, rs, n, h1, h2.mono hH fun _ _ h => h⟩
  · obtain ⟨r, h1, h2⟩ := R.lo i y pl v hy hv
    exact ⟨r, h1.same rfl rfl, h2.mono hH fun _ _ h => h⟩
  · rcases List.mem_append.mp hq with h | h
    · exact R.zo p hp q (List.mem_append_left _ h)
    · rcases List.mem_append.mp h with h | h
      · rcases new q h with ⟨h, _⟩ | h | h
        · exact R.zo p hp q (List.mem_append_left _ h)
        · exact R.zo p hp q (List.mem_append_right _ (List.mem_append_left _ h))
        · intro e
          exact old p (List.mem_append_left _ hp) (e ▸ h)
      · exact R.zo p hp q (List.mem_append_right _ (List.mem_append_right _ h))
  · rcases List.mem_append.mp hq with h | h
    · exact R.xo p hp q (List.mem_append_left _ h)
    · rcases new q h with ⟨h, _⟩ | h | h
      · exact R.xo p hp q (List.mem_append_left _ h)
      · exact R.xo p hp q (List.mem_append_right _ h)
      · intro e
        exact old p (List.mem_append_right _ (List.mem_append_right _ (List.mem_append_right _ hp))) (e ▸ h)
  · rcases new q hq with ⟨_, h⟩ | h | h
    · rw [h] at hl; cases hl
    · exact R.oh hl p hp q h
    · intro e
      exact old p (R.inO hp) (e ▸ h)
theorem sa_goA {a : Addr} {d : Nat} {W : DW} (ok : c.Ok) (M : Meets c.D a d W) (hd : d ≤ c.d) : SA c (cal (.ref a)) (goA W) := by
  intro X k σ tk vs rs Φ Q E hf R V post
  obtain ⟨us, hu, hw⟩ := fzsC_of hf
  have h1 := ok.hd
  have h2 := ok.hu
  refine M.run _ _ _ _ _ _ _ _ _ _ _ _ _ _ _ _ _ k.H us rs _ ok.B R.F ok.K (fun p hp => R.N p (R.inH hp)) ok.T ok.k (by omega) (by omega) R.fx hw (mapM_vrs (fz0_vr 9) hu V) fun v r H' h' tk' hv F' st N' hH new V' => ?_
  exact post v σ { k with H := H', h := h' } tk' r hv (back_run R F' st N' hH fun p hp => .inr (new p hp)) ⟨hH, fun _ _ h => h⟩ (V'.mono (fun _ h => h) fun _ _ h => by simp at h)
theorem Rel.dead {X : Led} {k : Cf} {σ : St} (R : Rel c X k σ) : Rel c X k { σ with live := false } := { R with oh := fun h => by cases h }
theorem sa_goB {a : Addr} {d : Nat} {W : DW} (ok : c.Ok) (M : Meets c.D a d W) (hd : d ≤ c.d) : SA c (cal (.ref a)) (goB W) := by
  intro X k σ tk vs rs Φ Q E hf R V post
  obtain ⟨us, hu, hw⟩ := fzsC_of hf
  have h1 := ok.hd
  have h2 := ok.hu
  refine M.run _ _ _ _ _ _ _ _ _ _ _ _ _ _ _ _ _ (k.O ++ k.H) us rs _ ok.B R.F ok.K (fun p hp => ?_) ok.T ok.k (by omega) (by omega) (fun p hp => List.mem_append_right _ (R.fx p hp)) hw (mapM_vrs (fz_vr R 9) hu V) fun v r H' h' tk' hv F' st N' hH new V' => ?_
  · rcases List.mem_append.mp hp with hp | hp
    · exact R.N p (R.inO hp)
    · exact R.N p (R.inH hp)
  · rw [deadW_eq] at hv
    split at hv
    · rename_i hs
      refine post v σ { k with h := h' } tk' r hv (R.heap F' fun p hp => ⟨st _ _ (R.N p hp).1, (R.N p hp).2⟩) .heap ?_
      cases v with
      | int i => cases V'; exact .int _ _
      | raw v => cases V'; exact .raw _
      | _ => cases hs
    · refine post v _ { k with H := H', h := h' } tk' r hv (back_run R.dead F' st N' (fun p hp => hH p (List.mem_append_right _ hp)) fun p hp => ?_) ⟨fun p hp => hH p (List.mem_append_right _ hp), fun _ _ h => h⟩ (V'.mono (fun _ h => h) fun _ _ h => by simp at h)
      rcases new p hp with h | h
      · rcases List.mem_append.mp h with h | h
        · exact .inl ⟨h, rfl⟩
        · exact .inr (.inl h)
      · exact .inr (.inr h)
def callW (a : Addr) (f : ET) (g : LT) (h : List PV → ET) : ET := fun σ Φ => f σ fun fv σ₁ => fv = .raw (.ref a) ∧ g σ₁ fun vs σ₂ => h vs σ₂ Φ
theorem se_call {x : Str} {a : Addr} {p pos : Pos} {e : Expr} {rest : List Expr} {f : ET} {g : LT} {h : List PV → ET} (ok : c.Ok) (hfn : FnIn c.D.K a) (hf : SE c (eval (.Name x p) c.env) f) (hg : SL c (spliced (backTo pos (starEach (e :: rest) c.env))) g) (ha : SA c (cal (.ref a)) h)
    (he : starEach (e :: rest) c.env = (false, eval e c.env) :: starEach rest c.env) : SE c (eval (.Call (.Name x p) (e :: rest) [] pos) c.env) (callW a f g h) := by
  intro X k σ tk Φ Q E hf' R post
  obtain ⟨oc, od, fd, osl, hK⟩ := hfn
  refine Call_Name rfl (hf.run hf' R fun v σ₁ k₁ tk₁ r hf₁ R₁ G₁ V₁ => ?_)
  obtain ⟨rfl, hf₁⟩ := hf₁
  cases V₁
  refine callWith_def (o := ⟨oc, od, .func fd, osl⟩) rfl (hg.run hf₁ R₁ fun vs σ₂ k₂ tk₂ rs hf₂ R₂ G₂ V₂ => ⟨(ok.K.keeps R₂.F.keep) _ _ hK, ?_⟩) he
  exact ha X k₂ σ₂ tk₂ vs rs Φ Q E hf₂ R₂ V₂ (post.up (G₁.trans G₂))
end

/-! into a def -/
/-- the answer of a body -/
def finW (φ : PV → Prop) : Fl → St → Prop
  | .ret v, σ => fzC σ.obs 9 v φ
  | _, _ => φ (.raw .none)
def startSt (vs : List PV) (n : Nat) : St := ⟨vs.map some ++ List.replicate n none, [], true⟩
/-- the def f stands in K as the text says -/
structure DefIn (K : Frag) (f : Addr) (name : Str) (params : Arguments) (body : List Stmt) (scope : Scope) (cdv : Value) : Prop where
  at' : ∃ oc od osl doc pm an, K.lookup f = some ⟨oc, od, .func (fnOf name name params body scope .none .none doc pm an cdv .none), osl⟩
  cd : codeIn K cdv name = true
def frames (ps : List Str) : List (Str × Place) := ps.map fun x => (x, .frame)
def plc (scope : Scope) (L : Addr) (x : Str) : Place := match scope.names.lookup x with
  | some .cell => .cell (((cellsFrom (L + 1) scope.names []).lookup x).getD 0)
  | _ => .frame
def slOf (scope : Scope) (L : Addr) (xs : List Str) : List (Str × Place) := xs.map fun x => (x, plc scope L x)
theorem mem_of_lookup' {x : Str} {a : Addr} : ∀ {l : List (Str × Addr)}, l.lookup x = some a → (x, a) ∈ l
  | [], h => by cases h
  | (y, b) :: l, h => by
    rw [List.lookup_cons] at h
    cases e : x == y with
    | true => rw [e] at h; cases h; rw [eq_of_beq e]; exact .head _
    | false => rw [e] at h; exact .tail _ (mem_of_lookup' h)
theorem bindL_keep {ko : Str → Option NameKind} {x : Str} {r : Value} : ∀ {ps : List Str} {rs : List Value} {m : Str → Option Value}, x ∉ ps → m x = some r → bindL ko (ps.zip rs) m x = some r
  | [], _, _, _, h => h
  | _ :: _, [], _, _, h => h
  | p :: ps, s :: rs, m, hn, h => by
    rw [List.zip_cons_cons]
    unfold bindL
    refine bindL_keep (fun q => hn (.tail _ q)) ?_
    split
    · show (if x = p then some s else m x) = some r
      rw [if_neg (fun q : x = p => hn (by rw [q]; exact .head _))]
      exact h
    · exact h
theorem bindL_at {ko : Str → Option NameKind} {x : Str} {r : Value} : ∀ {ps : List Str} {rs : List Value} {i : Nat} {m : Str → Option Value}, ps.Nodup → ko x = some .local → ps[i]? = some x → rs[i]? = some r → bindL ko (ps.zip rs) m x = some r
  | [], _, _, _, _, _, h, _ => by simp at h
  | _ :: _, [], _, _, _, _, _, h => by simp at h
  | p :: ps, s :: rs, 0, m, hn, hk, h1, h2 => by
    simp at h1 h2; subst h1; subst h2
    rw [List.nodup_cons] at hn
    rw [List.zip_cons_cons]
    unfold bindL
    refine bindL_keep hn.1 ?_
    rw [if_pos hk]
    exact if_pos rfl
  | p :: ps, s :: rs, i + 1, m, hn, hk, h1, h2 => by
    simp only [List.getElem?_cons_succ] at h1 h2
    rw [List.nodup_cons] at hn
    rw [List.zip_cons_cons]
    unfold bindL
    exact bindL_at hn.2 hk h1 h2
theorem bindC_keep {ko : Str → Option NameKind} {x : Str} {r : Value} : ∀ {ps : List Str} {rs : List Value} {m : Str → Option Value}, x ∉ ps → m x = some r → bindC ko (ps.zip rs) m x = some r
  | [], _, _, _, h => h
  | _ :: _, [], _, _, h => h
  | p :: ps, s :: rs, m, hn, h => by
    rw [List.zip_cons_cons]
    unfold bindC
    refine bindC_keep (fun q => hn (.tail _ q)) ?_
    split
    · exact h
    · show (if x = p then some s else m x) = some r
      rw [if_neg (fun q : x = p => hn (by rw [q]; exact .head _))]
      exact h
theorem bindC_at {ko : Str → Option NameKind} {x : Str} {r : Value} : ∀ {ps : List Str} {rs : List Value} {i : Nat} {m : Str → Option Value}, ps.Nodup → ko x = some .cell → ps[i]? = some x → rs[i]? = some r → bindC ko (ps.zip rs) m x = some r
  | [], _, _, _, _, _, h, _ => by simp at h
  | _ :: _, [], _, _, _, _, _, h => by simp at h
  | p :: ps, s :: rs, 0, m, hn, hk, h1, h2 => by
    simp at h1 h2; subst h1; subst h2
    rw [List.nodup_cons] at hn
    rw [List.zip_cons_cons]
    unfold bindC
    refine bindC_keep hn.1 ?_
    rw [if_neg (by rw [hk]; decide)]
    exact if_pos rfl
  | p :: ps, s :: rs, i + 1, m, hn, hk, h1, h2 => by
    simp only [List.getElem?_cons_succ] at h1 h2
    rw [List.nodup_cons] at hn
    rw [List.zip_cons_cons]
    unfold bindC
    exact bindC_at hn.2 hk h1 h2
theorem cellsAre_map {cm : Str → Option Value} {cs : List (Str × Addr)} {cells : Led} (x : CellsAre cm cs cells) : cells.map (·.1) = cs.map (·.2) := by
  induction x with
  | nil => rfl
  | cons _ _ ih => simp [ih]
theorem cellsAre_at {cm : Str → Option Value} {cs : List (Str × Addr)} {cells : Led} {y : Str} {a : Addr} (x : CellsAre cm cs cells) (h : (y, a) ∈ cs) : ∃ o, (a, o) ∈ cells ∧ o.data = .cell (cm y) := by
  induction x with
  | nil => cases h
  | cons hd _ ih =>
    rcases List.mem_cons.mp h with h | h
    · cases h; exact ⟨_, .head _, hd⟩
    · obtain ⟨o, h1, h2⟩ := ih h; exact ⟨o, .tail _ h1, h2⟩
theorem inj_of_apart : ∀ {l : List (Str × Addr)} {p q : Str × Addr}, l.Pairwise (fun x y => x.2 ≠ y.2) → p ∈ l → q ∈ l → p.2 = q.2 → p = q
  | [], _, _, _, h, _, _ => nomatch h
  | r :: l, p, q, ap, hp, hq, e => by
    rw [List.pairwise_cons] at ap
    rcases List.mem_cons.mp hp with e1 | hp'
    · rcases List.mem_cons.mp hq with e2 | hq'
      · rw [e1, e2]
      · exact absurd (e1 ▸ e) (ap.1 q hq')
    · rcases List.mem_cons.mp hq with e2 | hq'
      · exact absurd (e2 ▸ e.symm) (ap.1 p hp')
      · exact inj_of_apart ap.2 hp' hq' e
/-- the surroundings of a def's body -/
abbrev mkC (D : Rn) (dp un : Nat) (gd : Option (List Code)) (outer : List Env) (g base : Heap) (A₀ : Around) (s0 : Shared) (d : Nat) (name : Str) (scope : Scope) (L f : Addr) (cdv : Value) (cl : List (Str × Addr)) (sl : List (Str × Place)) (zs : List Addr) : Cx :=
  { D, dp, un, gd, cn := name, cs := scope, L, a := f, ccd := cdv, cl := cl, outer, g, base, A₀, s0, d, env := envX name scope L f cdv cl, sl, zs }
theorem startC_of {vs : List PV} {n : Nat} {g : ST} {Φ : Fl → St → Prop} (h : startC vs n fun l => g ⟨l, [], true⟩ Φ) : g (startSt vs n) Φ := by rw [startC_eq] at h; exact h
def defW (n m : Nat) (f : ST) : DW := fun vs φ => vs.length = n ∧ startC vs m fun l => f ⟨l, [], true⟩ (finW φ)
theorem kindsX' {scope : Scope} {xs : List Str} (e : (xs.all fun y => scope.names.lookup y == some .local || scope.names.lookup y == some .cell) = true) :
    ∀ n, ∀ x ∈ xs, scope.names.lookup x = some .local ∨ (scope.names.lookup x = some .cell ∧ ((cellsFrom n scope.names []).lookup x).isSome = true) := fun n x hx => by
  have h := kindsX (scope := scope) (binds := xs.map fun x => (x, .none)) (by rw [List.all_map]; exact e) n (x, .none) (List.mem_map_of_mem hx)
  exact h
theorem meets_of {D : Rn} {f : Addr} {d : Nat} {name : Str} {params : Arguments} {body : List Stmt} {scope : Scope} {cdv : Value} {ps os : List Str} {g : ST} {sl : Addr → List (Str × Place)} {cl : Addr → List (Str × Addr)} (hD : DefIn D.K f name params body scope cdv)
    (hbind : ∀ (rs : List Value) (doc pm : Value) (an : Option Addr), rs.length = ps.length → bindArgs (fnOf name name params body scope .none .none doc pm an cdv .none) ⟨rs, []⟩ = pure (ps.zip rs))
    (hkind : ((ps ++ os).all fun y => scope.names.lookup y == some .local || scope.names.lookup y == some .cell) = true) (hnd : (ps ++ os).Nodup) (hnc : ((cellsFrom 0 scope.names []).map (·.1)).Nodup)
    (hco : scope.isCoroutine = false) (hgen : scope.isGenerator = false) (hk : scope.kind = .function) (hcl : ∀ L, cellsFrom (L + 1) scope.names [] = cl L) (hsl : ∀ L, slOf scope L (ps ++ os) = sl L)
    (hbody : ∀ (dp un : Nat) (gd : Option (List Code)) (outer : List Env) (gg base : Heap) (A₀ : Around) (s0 : Shared) (L : Addr), (mkC D dp un gd outer gg base A₀ s0 d name scope L f cdv (cl L) (sl L) ((cl L).map (·.2))).Ok →
      SS (mkC D dp un gd outer gg base A₀ s0 d name scope L f cdv (cl L) (sl L) ((cl L).map (·.2))) (execs body (envX name scope L f cdv (cl L))) g) : Meets D f (d + 1) (defW ps.length os.length g) := by
  obtain ⟨oc, od, osl, doc, pm, an, hK⟩ := hD.at'
  refine ⟨⟨oc, od, _, osl, hK⟩, ?_⟩
  intro dp un gd cn cs a ccd cl' outer A₀ base h₀ L m s Q E H vs rs φ B F Xi N T hck hd hu fx hW V ret
  have RET : ∀ gg, gg = hideAll s.heap (H.map (fun x : Addr × Obj => x.1)) → ∀ v s', (∃ h tk m' Y v', s' = { s with heap := h, toks := tk } ∧ Fr gg s.heap.objs.size h m' ∧ News gg s.heap.objs.size h Y ∧ (∀ p ∈ H, p ∈ Y) ∧ φ v' ∧ VR Y [] v' v) →
      LeaveK h₀ L m gg (fun r s' => match r with | .ok (.ret v) => Q v s' | .ok _ => False | .error e => E e s') v s' := by
    rintro gg rfl v s' ⟨hh, tk, m', Y, v', rfl, F', N', hX, hp, hv⟩
    refine ⟨s.heap.objs.size, m', Y, F', N', fun F₂ N₂ => ?_⟩
    refine ret v' v Y hh tk hp F₂ (elt_after (InElt.start s.heap) (fun b o e n => hideAll_get _ e n) N F' N' hX) N₂ hX (fun q hq => ?_) hv
    have h1 := (N' q hq).2.2
    by_cases hm : q.1 ∈ H.map (fun x : Addr × Obj => x.1)
    · left
      obtain ⟨p, hp, e⟩ := List.mem_map.mp hm
      have e1 := (N' p (hX p hp)).1
      have e2 := (N' q hq).1
      rw [e] at e1
      have e1' := e1.symm.trans e2
      have : p = q := Prod.ext e (Option.some.inj e1')
      exact this ▸ hp
    · right
      cases e : s.heap.get? q.1 with
      | none => rfl
      | some o => rw [hideAll_get _ e hm] at h1; cases h1
  refine wpAny_call ?_
  obtain ⟨FG, BG, st, lv⟩ := groundX (R := fun r s' => match r with | .ok (.ret v) => Q v s' | .ok _ => False | .error e => E e s') (A := ktrTop dp un gd cn cs L a ccd cl' outer) (env := envX cn cs L a ccd cl') B F N rfl rfl hck
  have hkinds := kindsX' hkind
  have hlen : rs.length = ps.length := V.len ▸ hW.1
  refine codeAny_call_function (Nat.lt_of_le_of_lt (by show dp ≤ dp + (d + 1); omega) hd) ((Xi.keeps F.keep) _ _ hK) rfl hco hgen rfl (codeRec_of (Xi.keeps F.keep) hD.cd) ((BindsTo.of_eq (hbind rs doc pm an hlen)) _ _ _ _ ?_)
  refine wpAny_newFunctionEnv_cells hk (fun x hx => hkinds _ _ (List.mem_append_left _ (List.of_mem_zip (a := x.1) (b := x.2) hx).1)) fun env' he s' x => ?_
  subst he
  refine ⟨(T.nolimit.keeps F.keep).keeps x.toInCall.keep, codeAny_func ?_⟩
  obtain ⟨h₁, tk, rfl, _⟩ := x.done
  have hk₁ := x.toInCall.keep
  obtain ⟨cells, NC, Y⟩ := Cl.news (h₀ := s.heap) (Nat.le_refl _) fun n c hm => ⟨x.cell n c (lookup_of_mem_nodup (cellsFrom_names scope.names 0 (s.heap.objs.size + 1) [] [] rfl ▸ hnc) hm), x.above n c hm⟩
  have apart : (cellsFrom (s.heap.objs.size + 1) scope.names []).Pairwise fun x y => x.2 ≠ y.2 := x.apart
  have hmap := cellsAre_map Y
  have hN₁ : News (hideAll s.heap (H.map (fun x : Addr × Obj => x.1))) s.heap.objs.size h₁ (cells ++ ([] ++ (H ++ []))) := by
    intro p hp
    rcases List.mem_append.mp hp with hp | hp
    · refine ⟨(NC p hp).1, (NC p hp).2.1, ?_⟩
      cases q : (hideAll s.heap (H.map (·.1))).get? p.1 with
      | none => rfl
      | some o => have := of_hideAll _ q; rw [(NC p hp).2.2] at this; cases this
    · rw [List.nil_append, List.append_nil] at hp
      exact ⟨hk₁ _ _ (N p hp).1, Nat.ne_of_lt (Heap.lt_size (N p hp).1), hideAll_none _ (List.mem_map_of_mem hp)⟩
  have nodupA : ((cellsFrom (s.heap.objs.size + 1) scope.names []).map (·.2)).Nodup := List.pairwise_map.mpr apart
  have slmem : ∀ y b, (y, Place.cell b) ∈ slOf scope s.heap.objs.size (ps ++ os) → scope.names.lookup y = some .cell ∧ (y, b) ∈ cellsFrom (s.heap.objs.size + 1) scope.names [] := by
    intro y b hm
    obtain ⟨z, hz, e⟩ := List.mem_map.mp hm
    simp only [Prod.mk.injEq] at e
    obtain ⟨rfl, e⟩ := e
    unfold plc at e
    split at e
    · rename_i hc
      refine ⟨hc, ?_⟩
      rcases hkinds (s.heap.objs.size + 1) z hz with h | ⟨_, h⟩
      · rw [h] at hc; cases hc
      · obtain ⟨a', ha⟩ := Option.isSome_iff_exists.mp h
        cases e
        rw [ha]
        exact mem_of_lookup' ha
    · cases e
  have ok : (mkC D (dp + 1) (un + 3) gd (envX cn cs L a ccd cl' :: outer) (hideAll s.heap (H.map (fun x : Addr × Obj => x.1))) base (ktrTop dp un gd cn cs L a ccd cl' outer) s d name scope s.heap.objs.size f cdv (cl s.heap.objs.size) (sl s.heap.objs.size) ((cl s.heap.objs.size).map (·.2))).Ok := {
    B := BG, K := Xi.keeps st, T := T.keeps st, k := hk, hd := by show dp + 1 + d < _; omega, hu := by show un + 3 + 8 * d < _; omega, ek := hk, eg := rfl, eb := rfl
    sd := by
      show (sl s.heap.objs.size).Nodup
      rw [← hsl]
      unfold slOf
      have h1 : ((slOf scope s.heap.objs.size (ps ++ os)).map (·.1)).Nodup := by
        unfold slOf
        rw [List.map_map]
        show ((ps ++ os).map id).Nodup
        rw [List.map_id]
        exact hnd
      exact List.Pairwise.of_map (·.1) (fun a b h e => h (e ▸ rfl)) h1
    zd := by
      show ((cl s.heap.objs.size).map (·.2)).Nodup
      rw [← hcl]; exact nodupA
    cz := fun y z b hy hz => by
      have hy' : (y, Place.cell b) ∈ sl s.heap.objs.size := hy
      have hz' : (z, Place.cell b) ∈ sl s.heap.objs.size := hz
      rw [← hsl] at hy' hz'
      have h1 := (slmem y b hy').2
      have h2 := (slmem z b hz').2
      exact congrArg Prod.fst (inj_of_apart apart h1 h2 rfl)
    dz := fun y z b _ hz => by
      have hz' : (z, Place.dict b) ∈ sl s.heap.objs.size := hz
      rw [← hsl] at hz'
      obtain ⟨w, hw, e⟩ := List.mem_map.mp hz'
      simp only [Prod.mk.injEq] at e
      have e2 := e.2
      unfold plc at e2
      split at e2 <;> cases e2
    sz := fun y b hy => by
      show b ∈ (cl s.heap.objs.size).map (·.2)
      rw [← hcl]
      rcases hy with hy | hy
      · have hy' : (y, Place.cell b) ∈ sl s.heap.objs.size := hy
        rw [← hsl] at hy'
        exact List.mem_map_of_mem (slmem y b hy').2
      · have hz' : (y, Place.dict b) ∈ sl s.heap.objs.size := hy
        rw [← hsl] at hz'
        obtain ⟨w, hw, e⟩ := List.mem_map.mp hz'
        simp only [Prod.mk.injEq] at e
        have e2 := e.2
        unfold plc at e2
        split at e2 <;> cases e2 }
  have hb := hbody (dp + 1) (un + 3) gd (envX cn cs L a ccd cl' :: outer) (hideAll s.heap (H.map (fun x : Addr × Obj => x.1))) base (ktrTop dp un gd cn cs L a ccd cl' outer) s s.heap.objs.size ok
  have hcl' := hcl s.heap.objs.size
  have R : Rel (mkC D (dp + 1) (un + 3) gd (envX cn cs L a ccd cl' :: outer) (hideAll s.heap (H.map (fun x : Addr × Obj => x.1))) base (ktrTop dp un gd cn cs L a ccd cl' outer) s d name scope s.heap.objs.size f cdv (cl s.heap.objs.size) (sl s.heap.objs.size) ((cl s.heap.objs.size).map (·.2)))
      [] ⟨H, [], cells, bindL (envOfC name scope s.heap.objs.size f cdv).kindOf (ps.zip rs) fun _ => none, h₁⟩ (startSt vs os.length) := {
    F := ⟨x.toInCall.ns, fun b o e => hk₁ b o (of_hideAll _ e), Nat.le_of_eq (hideAll_size _ _)⟩
    N := hN₁, fx := fx
    za := by
      show cells.map (·.1) = (cl s.heap.objs.size).map (·.2)
      rw [← hcl]; exact hmap
    ll := by
      show (startSt vs os.length).loc.length = (sl s.heap.objs.size).length
      rw [← hsl]
      simp [startSt, slOf, hW.1]
    ol := rfl
    ob := fun i vs h => by simp [startSt] at h
    lo := fun i y pl v hy hv => by
      have hy' : (sl s.heap.objs.size)[i]? = some (y, pl) := hy
      rw [← hsl] at hy'
      unfold slOf at hy'
      rw [List.getElem?_map, Option.map_eq_some_iff] at hy'
      obtain ⟨y', hy1, e⟩ := hy'
      simp only [Prod.mk.injEq] at e
      obtain ⟨rfl, rfl⟩ := e
      have hi : i < vs.length := by
        false_or_by_contra
        rename_i hc
        simp only [startSt] at hv
        rw [List.getElem?_append_right (by rw [List.length_map]; omega)] at hv
        have := List.mem_of_getElem? hv
        have := (List.mem_replicate.mp this).2
        cases this
      have hv' : vs[i]? = some v := by
        simp only [startSt] at hv
        rw [List.getElem?_append_left (by rw [List.length_map]; omega), List.getElem?_map, Option.map_eq_some_iff] at hv
        obtain ⟨v', h1, h2⟩ := hv
        cases h2; exact h1
      obtain ⟨r, hr, Vr⟩ := V.at hv'
      have hps : ps[i]? = some y' := by
        have hi' : i < ps.length := by rw [← hW.1]; exact hi
        rw [List.getElem?_append_left hi'] at hy1
        exact hy1
      have hnp : ps.Nodup := (List.nodup_append.mp hnd).1
      refine ⟨r, ?_, Vr⟩
      unfold plc
      split
      · rename_i hc
        rcases hkinds (s.heap.objs.size + 1) y' (List.mem_append_left _ (List.mem_of_getElem? hps)) with h | ⟨_, h⟩
        · rw [h] at hc; cases hc
        · obtain ⟨a', ha⟩ := Option.isSome_iff_exists.mp h
          rw [ha]
          obtain ⟨o, h1, h2⟩ := cellsAre_at Y (mem_of_lookup' ha)
          exact ⟨o, h1, h2.trans (congrArg Data.cell (bindC_at hnp hc hps hr))⟩
      · rename_i hc
        rcases hkinds (s.heap.objs.size + 1) y' (List.mem_append_left _ (List.mem_of_getElem? hps)) with h | ⟨h, _⟩
        · exact bindL_at hnp h hps hr
        · exact absurd h hc
    ce := fun y b hm => by
      have hm' : (y, Place.cell b) ∈ sl s.heap.objs.size := hm
      rw [← hsl] at hm'
      obtain ⟨o, h1, h2⟩ := cellsAre_at Y (slmem y b hm').2
      exact ⟨o, _, h1, h2⟩
    nd := .nil
    zo := fun p hp q hq => by
      rw [List.nil_append, List.append_nil] at hq
      intro e
      have h1 := (NC p hp).2.2
      rw [e, (N q hq).1] at h1
      cases h1
    xo := fun p hp => by cases hp
    oh := fun _ p hp => by cases hp }
  have hwp := hb.run (tk := tk) (Φ := finW φ) (Q := fun fl s' => LeaveK h₀ L m (hideAll s.heap (H.map (fun x : Addr × Obj => x.1))) (fun r s' => match r with | .ok (.ret v) => Q v s' | .ok _ => False | .error e => E e s') (match fl with | .ret v => v | _ => .none) s') (E := fun _ _ => False) (startC_of hW.2) R (fun fl σ' k' tk' r hf R' G' V' => ?_)
  · have hwp' : wpAny (model D.prog D.w) ((ktrTop dp un gd cn cs L a ccd cl' outer).deeper (envX name scope s.heap.objs.size f cdv (cellsFrom (s.heap.objs.size + 1) scope.names []))) (execs body (envX name scope s.heap.objs.size f cdv (cellsFrom (s.heap.objs.size + 1) scope.names [])))
        (fun fl s' => LeaveK h₀ L m (hideAll s.heap (H.map (fun x : Addr × Obj => x.1))) (fun r s' => match r with | .ok (.ret v) => Q v s' | .ok _ => False | .error e => E e s') (match fl with | .ret v => v | _ => .none) s') (fun _ _ => False) { s with heap := h₁, toks := tk } := by
      rw [hcl']; exact hwp
    exact wpAny_mono hwp' (fun fl s' hl => lv _ _ hl) fun _ _ y => y.elim
  · have fin : ∀ (v' : PV) (rv : Value), φ v' → VR (k'.O ++ k'.H) [] v' rv → LeaveK h₀ L m (hideAll s.heap (H.map (fun x : Addr × Obj => x.1))) (fun r s' => match r with | .ok (.ret v) => Q v s' | .ok _ => False | .error e => E e s') rv { s with heap := k'.h, toks := tk' } := fun v' rv hp hv =>
      RET _ rfl rv _ ⟨k'.h, tk', k'.m, k'.O ++ k'.H, v', rfl, R'.F, fun p hp => by
        rcases List.mem_append.mp hp with h | h
        · exact R'.N p (R'.inO h)
        · exact R'.N p (R'.inH h), fun p hp => List.mem_append_right _ (G'.h p hp), hp, hv⟩
    cases V' with
    | ret xx =>
      obtain ⟨v', h1, h2⟩ := fzC_of 9 _ _ hf
      exact fin v' _ h2 (fz_vr R' 9 _ _ _ h1 xx)
    | next => exact fin _ _ hf (.raw _)
    | brk => exact fin _ _ hf (.raw _)
    | cont => exact fin _ _ hf (.raw _)
section
variable {c : Cx}
/-! while -/
def whileGo (t : BT') (b : ST) : Nat → ST
  | 0 => fun _ _ => False
  | n + 1 => fun σ Φ => t σ fun r σ₁ => brW r (fun σ₁ Φ => b σ₁ fun fl σ₂ => match fl with
    | .next => whileGo t b n σ₂ Φ
    | .cont => whileGo t b n σ₂ Φ
    | .brk => Φ .next σ₂
    | .ret v => Φ (.ret v) σ₂) (yesW .next) σ₁ Φ
theorem while_run {test : Expr} {body : List Stmt} {t : BT'} {b : ST} (ht : SB c (PySem.isTrue test c.env (eval test c.env)) t) (hb : SS c (execs body c.env) b) : ∀ (n : Nat) {X : Led} {k : Cf} {σ : St} {tk : Nat} {Φ : Fl → St → Prop} {Q : Flow → Shared → Prop},
    whileGo t b n σ Φ → Rel c X k σ → Post c X k FlR Φ Q → WRest c.D.prog c.D.w c.A c.env test body Q n (c.at k tk)
  | 0, _, _, _, _, _, _, hf, _, _ => hf.elim
  | n + 1, X, k, σ, tk, Φ, Q, hf, R, post => by
    refine WRest.succ (ht.run hf R fun r σ₁ k₁ tk₁ r' hf₁ R₁ G₁ V₁ => ?_)
    cases V₁
    cases r with
    | false =>
      rw [if_neg (by decide)]
      exact post _ _ _ _ _ (brW_f hf₁) R₁ G₁ .next
    | true =>
      rw [if_pos rfl]
      have hf₁' := brW_t hf₁
      refine hb.run hf₁' R₁ fun fl σ₂ k₂ tk₂ fl' hf₂ R₂ G₂ V₂ => ?_
      cases V₂ with
      | next => exact while_run ht hb n hf₂ R₂ (post.up (G₁.trans G₂))
      | cont => exact while_run ht hb n hf₂ R₂ (post.up (G₁.trans G₂))
      | brk => exact post _ _ _ _ _ hf₂ R₂ (G₁.trans G₂) .next
      | ret x => exact post _ _ _ _ _ hf₂ R₂ (G₁.trans G₂) (.ret x)
theorem ss_while {test : Expr} {body : List Stmt} {pos : Pos} {t : BT'} {b : ST} (n : Nat) (ht : SB c (PySem.isTrue test c.env (eval test c.env)) t) (hb : SS c (execs body c.env) b) : SS c (exec (.While test body [] pos) c.env) (whileGo t b n) := by
  intro X k σ tk Φ Q E hf R post
  exact while_M n (while_run ht hb n hf R post)

/-! things beside -/
theorem Rel.addX {X : Led} {k : Cf} {σ : St} {h' : Heap} (R : Rel c X k σ) (keep : ∀ b o, k.h.get? b = some o → h'.get? b = some o) {Y : Led} (hY : ∀ p ∈ Y, h'.get? p.1 = some p.2 ∧ k.h.get? p.1 = none) : Rel c (Y ++ X) { k with h := h' } σ := by
  have old : ∀ q ∈ k.Z ++ (k.O ++ (k.H ++ X)), ∀ p ∈ Y, q.1 ≠ p.1 := fun q hq p hp e => by
    have h1 := (R.N q hq).1
    rw [e, (hY p hp).2] at h1
    cases h1
  have hL : ∀ p ∈ Y, p.1 ≠ c.L := fun p hp e => by
    obtain ⟨o, _, _, ho, _⟩ := R.F.ns
    rw [← e, (hY p hp).2] at ho
    cases ho
  have hg : ∀ p ∈ Y, c.g.get? p.1 = none := fun p hp => by
    cases e : c.g.get? p.1 with
    | none => rfl
    | some o =>
      have := R.F.keep _ _ e
      rw [(hY p hp).2] at this
      cases this
  refine { F := R.F.keeps keep, N := fun p hp => ?_, fx := R.fx, za := R.za, ll := R.ll, ol := R.ol, ob := R.ob, lo := fun i y pl v hy hv => let ⟨r, h1, h2⟩ := R.lo i y pl v hy hv; ⟨r, h1.same rfl rfl, h2⟩, ce := R.ce, nd := R.nd, zo := fun p hp q hq => ?_, xo := fun p hp q hq => ?_, oh := R.oh }
  · have one : ∀ q ∈ k.Z ++ (k.O ++ (k.H ++ X)), h'.get? q.1 = some q.2 ∧ q.1 ≠ c.L ∧ c.g.get? q.1 = none := fun q hq => ⟨keep _ _ (R.N q hq).1, (R.N q hq).2⟩
    rcases List.mem_append.mp hp with h | h
    · exact one p (List.mem_append_left _ h)
    · rcases List.mem_append.mp h with h | h
      · exact one p (R.inO h)
      · rcases List.mem_append.mp h with h | h
        · exact one p (R.inH h)
        · rcases List.mem_append.mp h with h | h
          · exact ⟨(hY p h).1, hL p h, hg p h⟩
          · exact one p (List.mem_append_right _ (List.mem_append_right _ (List.mem_append_right _ h)))
  · rcases List.mem_append.mp hq with h | h
    · exact R.zo p hp q (List.mem_append_left _ h)
    · rcases List.mem_append.mp h with h | h
      · exact R.zo p hp q (List.mem_append_right _ (List.mem_append_left _ h))
      · rcases List.mem_append.mp h with h | h
        · exact old p (List.mem_append_left _ hp) q h
        · exact R.zo p hp q (List.mem_append_right _ (List.mem_append_right _ h))
  · rcases List.mem_append.mp hp with h | h
    · refine Ne.symm (old q ?_ p h)
      rcases List.mem_append.mp hq with h | h
      · exact R.inO h
      · exact R.inH h
    · exact R.xo p h q hq
theorem Rel.turn {X Y Y' : Led} {k : Cf} {σ : St} {h' : Heap} (R : Rel c (Y ++ X) k σ) (hm : Y'.map (·.1) = Y.map (·.1)) (hk : ∀ b o, b ∉ Y.map (·.1) → k.h.get? b = some o → h'.get? b = some o) (ho : ∀ p ∈ Y', h'.get? p.1 = some p.2) (hXY : Dis X Y) : Rel c (Y' ++ X) { k with h := h' } σ := by
  have inY : ∀ p ∈ Y, p ∈ k.Z ++ (k.O ++ (k.H ++ (Y ++ X))) := fun p hp => List.mem_append_right _ (List.mem_append_right _ (List.mem_append_right _ (List.mem_append_left _ hp)))
  have back : ∀ p ∈ Y', ∃ q ∈ Y, q.1 = p.1 := fun p hp => by
    have : p.1 ∈ Y'.map (·.1) := List.mem_map_of_mem hp
    rw [hm] at this
    obtain ⟨q, hq, e⟩ := List.mem_map.mp this
    exact ⟨q, hq, e⟩
  have offL : c.L ∉ Y.map (·.1) := fun h => by
    obtain ⟨q, hq, e⟩ := List.mem_map.mp h
    exact (R.N q (inY q hq)).2.1 e
  have offg : ∀ b o, c.g.get? b = some o → b ∉ Y.map (·.1) := fun b o e h => by
    obtain ⟨q, hq, e'⟩ := List.mem_map.mp h
    rw [← e', (R.N q (inY q hq)).2.2] at e
    cases e
  have off : ∀ p, (p ∈ k.Z ∨ p ∈ k.O ∨ p ∈ k.H ∨ p ∈ X) → p.1 ∉ Y.map (·.1) := fun p hp h => by
    obtain ⟨q, hq, e⟩ := List.mem_map.mp h
    rcases hp with hp | hp | hp | hp
    · exact R.zo p hp q (List.mem_append_right _ (List.mem_append_right _ (List.mem_append_left _ hq))) e.symm
    · exact R.xo q (List.mem_append_left _ hq) p (List.mem_append_left _ hp) e
    · exact R.xo q (List.mem_append_left _ hq) p (List.mem_append_right _ hp) e
    · exact hXY p hp q hq e.symm
  refine { F := ⟨R.F.ns.at' fun o e => hk _ o offL e, fun b o e => hk b o (offg b o e) (R.F.keep b o e), R.F.above⟩, N := fun p hp => ?_, fx := R.fx, za := R.za, ll := R.ll, ol := R.ol, ob := R.ob, lo := fun i y pl v hy hv => let ⟨r, h1, h2⟩ := R.lo i y pl v hy hv; ⟨r, h1.same rfl rfl, h2⟩, ce := R.ce, nd := R.nd, zo := fun p hp q hq => ?_, xo := fun p hp q hq => ?_, oh := R.oh }
  · have one : ∀ q, (q ∈ k.Z ∨ q ∈ k.O ∨ q ∈ k.H ∨ q ∈ X) → q ∈ k.Z ++ (k.O ++ (k.H ++ (Y ++ X))) → h'.get? q.1 = some q.2 ∧ q.1 ≠ c.L ∧ c.g.get? q.1 = none := fun q h hq => ⟨hk _ _ (off q h) (R.N q hq).1, (R.N q hq).2⟩
    rcases List.mem_append.mp hp with h | h
    · exact one p (.inl h) (List.mem_append_left _ h)
    · rcases List.mem_append.mp h with h | h
      · exact one p (.inr (.inl h)) (R.inO h)
      · rcases List.mem_append.mp h with h | h
        · exact one p (.inr (.inr (.inl h))) (R.inH h)
        · rcases List.mem_append.mp h with h | h
          · obtain ⟨q, hq, e⟩ := back p h
            have z := (R.N q (inY q hq)).2
            exact ⟨ho p h, e ▸ z.1, e ▸ z.2⟩
          · exact one p (.inr (.inr (.inr h))) (List.mem_append_right _ (List.mem_append_right _ (List.mem_append_right _ (List.mem_append_right _ h))))
  · rcases List.mem_append.mp hq with h | h
    · exact R.zo p hp q (List.mem_append_left _ h)
    · rcases List.mem_append.mp h with h | h
      · exact R.zo p hp q (List.mem_append_right _ (List.mem_append_left _ h))
      · rcases List.mem_append.mp h with h | h
        · obtain ⟨q', hq', e⟩ := back q h
          exact e ▸ R.zo p hp q' (List.mem_append_right _ (List.mem_append_right _ (List.mem_append_left _ hq')))
        · exact R.zo p hp q (List.mem_append_right _ (List.mem_append_right _ (List.mem_append_right _ h)))
  · rcases List.mem_append.mp hp with h | h
    · obtain ⟨p', hp', e⟩ := back p h
      exact e ▸ R.xo p' (List.mem_append_left _ hp') q hq
    · exact R.xo p (List.mem_append_right _ h) q hq
theorem Rel.dropX {X Y : Led} {k : Cf} {σ : St} (R : Rel c (Y ++ X) k σ) : Rel c X k σ :=
  { R with
    N := fun p hp => R.N p (by
      rcases List.mem_append.mp hp with h | h
      · exact List.mem_append_left _ h
      · rcases List.mem_append.mp h with h | h
        · exact R.inO h
        · rcases List.mem_append.mp h with h | h
          · exact R.inH h
          · exact List.mem_append_right _ (List.mem_append_right _ (List.mem_append_right _ (List.mem_append_right _ h))))
    zo := fun p hp q hq => by
      rcases List.mem_append.mp hq with h | h
      · exact R.zo p hp q (List.mem_append_left _ h)
      · rcases List.mem_append.mp h with h | h
        · exact R.zo p hp q (List.mem_append_right _ (List.mem_append_left _ h))
        · exact R.zo p hp q (List.mem_append_right _ (List.mem_append_right _ (List.mem_append_right _ h)))
    xo := fun p hp q hq => R.xo p (List.mem_append_right _ hp) q hq }

/-! what a loop draws -/
structure Drw (c : Cx) (I : Addr) (n : Nat) (P : Nat → Value → Prop) (S : Led) (J : Nat → Obj → Prop) : Prop where
  item : ∀ (i : Nat) (s : Shared) (oI : Obj) (Q : Option Value → Shared → Prop) (E : Value → Shared → Prop), i < n → J i oI → s.heap.get? I = some oI → (∀ p ∈ S, s.heap.get? p.1 = some p.2) →
    (∀ v h' tk oI', P i v → J (i + 1) oI' → h'.get? I = some oI' → (∀ b o, b ≠ I → s.heap.get? b = some o → h'.get? b = some o) → Q (some v) { s with heap := h', toks := tk }) → wpAny c.M c.A (pyNext (.ref I)) Q E s
  done : ∀ (s : Shared) (oI : Obj) (Q : Option Value → Shared → Prop) (E : Value → Shared → Prop), J n oI → s.heap.get? I = some oI → (∀ p ∈ S, s.heap.get? p.1 = some p.2) →
    (∀ h' tk, (∀ b o, b ≠ I → s.heap.get? b = some o → h'.get? b = some o) → Q none { s with heap := h', toks := tk }) → wpAny c.M c.A (pyNext (.ref I)) Q E s
  self : ∀ (i : Nat) (s : Shared) (oI : Obj) (Q : Value → Shared → Prop) (E : Value → Shared → Prop), J i oI → s.heap.get? I = some oI → (∀ p ∈ S, s.heap.get? p.1 = some p.2) → Q (.ref I) s → wpAny c.M c.A (pyIter (.ref I)) Q E s
theorem Drw.of {I : Addr} {fp : List Addr} {n : Nat} {P : Nat → Value → Prop} {S : Led} {J : Nat → Obj → Prop} {St : Nat → Heap → Prop} (W : Walks c.D.prog c.D.w c.A I fp [I] n P St)
    (to : ∀ i h oI, J i oI → h.get? I = some oI → (∀ p ∈ S, h.get? p.1 = some p.2) → St i h) (of : ∀ i h, St i h → ∃ oI, h.get? I = some oI ∧ J i oI) : Drw c I n P S J where
  item := fun i s oI Q E hi hJ hI hS hQ => W.item i s Q E hi (to i _ oI hJ hI hS) fun v h' tk hP hst hk => by
    obtain ⟨oI', e, hJ'⟩ := of _ _ hst
    exact hQ v h' tk oI' hP hJ' e fun b o hb => hk b o (by simpa using hb)
  done := fun s oI Q E hJ hI hS hQ => W.done s Q E (to n _ oI hJ hI hS) fun h' tk hk => hQ h' tk fun b o hb => hk b o (by simpa using hb)
  self := fun i s oI Q E hJ hI hS hQ => W.self i s Q E (to i _ oI hJ hI hS) hQ
theorem drw_list {I ax : Addr} (hne : ax ≠ I) (rs : List Value) (m : Nat) : Drw c I rs.length (fun i v => rs[i]? = some v) [(ax, lisO rs m)] (fun i o => o.cls = .type "list_iterator" ∧ o.data = .fields #[.ref ax, .int i 0]) := by
  have W := Walks.list (prog := c.D.prog) (w := c.D.w) (A := c.A) rfl I ax hne rs.toArray
  have W' : Walks c.D.prog c.D.w c.A I [I, ax] [I] rs.length (fun i v => rs[i]? = some v) (fun i h => h.IsListIter I ax i ∧ h.IsList ax rs.toArray) := by simpa using W
  refine Drw.of W' (fun i h oI hJ hI hS => ⟨⟨oI, hI, hJ⟩, ⟨_, hS _ (.head _), rfl, _, rfl⟩⟩) fun i h hst => ?_
  obtain ⟨⟨oI, h1, h2⟩, _⟩ := hst
  exact ⟨oI, h1, h2⟩
abbrev rgiO (x left s : Int) : Obj := { cls := .type "range_iterator", dict := none, data := .fields #[rawInt x, rawInt left, rawInt s], slots := #[] }
theorem drw_range (I : Addr) (a s : Int) (n : Nat) : Drw c I n (fun i v => ∃ t, v = .int (a + (i : Int) * s) t) [] (fun i o => o = rgiO (a + (i : Int) * s) ((n : Int) - (i : Int)) s) :=
  Drw.of (J := fun i o => o = rgiO (a + (i : Int) * s) ((n : Int) - (i : Int)) s) (Walks.range (prog := c.D.prog) (w := c.D.w) (A := c.A) rfl I a s n) (fun i h oI hJ hI _ => by subst hJ; exact hI) (fun i h hst => show ∃ oI, h.get? I = some oI ∧ oI = rgiO (a + (i : Int) * s) ((n : Int) - (i : Int)) s from ⟨_, hst, rfl⟩)
def rngC (s : Int) : Nat → Int → (List PV → Prop) → Prop
  | 0, _, K => K []
  | n + 1, a, K => litC a fun a' => rngC s n (a' + s) fun l => K (.int a' :: l)
def rngI (a s : Int) (n : Nat) : List PV := (List.range n).map fun (i : Nat) => .int (a + (i : Int) * s)
theorem rngC_eq {s : Int} : ∀ {n : Nat} {a : Int} {K : List PV → Prop}, rngC s n a K = K (rngI a s n)
  | 0, _, _ => rfl
  | n + 1, a, K => by
    unfold rngC
    rw [litC_eq, rngC_eq (n := n)]
    congr 1
    unfold rngI
    rw [List.range_succ_eq_map, List.map_cons, List.map_map]
    congr 1
    · simp
    · apply List.map_congr_left
      intro i _
      show PV.int _ = PV.int _
      congr 1
      simp only [Function.comp, Nat.succ_eq_add_one, Int.natCast_add, Int.add_mul, Int.one_mul, Int.natCast_one]
      omega
def rsz (a b s : Int) : Nat := if s = 1 then (b - a).toNat else (a - b).toNat
theorem rsz_size {a b s : Int} (hs : s = 1 ∨ s = -1) : Builtin.Range.rangeSize a b s = (rsz a b s : Int) := by
  unfold Builtin.Range.rangeSize rsz
  rcases hs with rfl | rfl
  · rw [if_pos (by decide), if_pos rfl, Int.ediv_one]
    split <;> omega
  · have e : (- (-1) : Int) = 1 := by decide
    have h1 : ¬ (-1 : Int) > 0 := by decide
    have h2 : ¬ (-1 : Int) = 1 := by decide
    simp only [h1, h2, if_false, e, Int.ediv_one]
    split <;> omega
theorem rsz_small {a b s : Int} (hs : s = 1 ∨ s = -1) (ha : -1000 ≤ a ∧ a ≤ 1000) (hb : -1000 ≤ b ∧ b ≤ 1000) : Builtin.Range.small a b s = true := by
  unfold Builtin.Range.small
  rw [rsz_size hs]
  have h1 : (rsz a b s : Int) ≤ 4000 := by
    unfold rsz
    split <;> omega
  have f : ∀ i : Int, -5000 ≤ i → i ≤ 5000 → Builtin.Range.rangeFitsLong i = true := fun i h1 h2 => by
    unfold Builtin.Range.rangeFitsLong
    simp only [Bool.and_eq_true, decide_eq_true_eq]
    omega
  rcases hs with rfl | rfl
  · rw [f a (by omega) (by omega), f b (by omega) (by omega), f 1 (by decide) (by decide), f _ (by omega) (by omega), if_pos (by decide), f _ (by omega) (by omega)]
    simp
  · rw [f a (by omega) (by omega), f b (by omega) (by omega), f (-1) (by decide) (by decide), f _ (by omega) (by omega), if_neg (by decide), f _ (by omega) (by omega)]
    simp
/-- the items of a loop's source -/
def itemsW (v : PV) : LT := fun σ Φ => match v with
  | .lis vs => vs.length ≤ 1000 ∧ Φ vs σ
  | .rng a b s => (s = 1 ∨ s = -1) ∧ (-400 ≤ a ∧ a ≤ 400) ∧ (-400 ≤ b ∧ b ≤ 400) ∧ rngC s (rsz a b s) a fun vs => Φ vs σ
  | _ => False
theorem VRs.get {H : Led} {As : List Addr} : ∀ {vs : List PV} {rs : List Value} {i : Nat} {r : Value}, VRs H As vs rs → rs[i]? = some r → ∃ v, vs[i]? = some v ∧ VR H As v r
  | _, _, _, _, .nil, h => by simp at h
  | _, _, 0, _, .cons x _, h => by
    simp only [List.getElem?_cons_zero, Option.some.injEq] at h ⊢
    exact ⟨_, rfl, h ▸ x⟩
  | _, _, _ + 1, _, .cons _ y, h => by
    simp only [List.getElem?_cons_succ] at h ⊢
    exact VRs.get y h
/-- a loop's or comprehension's start -/
theorem iter_run {X : Led} {k : Cf} {σ : St} {tk : Nat} {v : PV} {r : Value} {Φ : List PV → St → Prop} {Q : Value → Shared → Prop} {E : Value → Shared → Prop} (hf : itemsW v σ Φ) (R : Rel c X k σ) (V : VV k v r)
    (go : ∀ (I : Addr) (n : Nat) (P : Nat → Value → Prop) (S : Led) (J : Nat → Obj → Prop) (oI : Obj) (vs : List PV) (h' : Heap), Φ vs σ → Drw c I n P S J → vs.length = n → n ≤ 1000 → (∀ p ∈ S, p ∈ k.H) → (∀ i v, i < n → P i v → ∃ pv, vs[i]? = some pv ∧ VR k.H [] pv v) → J 0 oI → k.h.get? I = none →
      Rel c ([(I, oI)] ++ X) { k with h := h' } σ → Q (.ref I) (c.at { k with h := h' } tk)) : wpAny c.M c.A (pyIter r) Q E (c.at k tk) := by
  have nn : k.h.get? k.h.objs.size = none := by
    cases e : k.h.get? k.h.objs.size with
    | none => rfl
    | some o => exact absurd (Heap.lt_size e) (Nat.lt_irrefl _)
  unfold itemsW at hf
  split at hf
  · cases V with
    | @lis _ _ rs m a hm x =>
      have hl := News.isList R.N (R.inH hm)
      have hlt : a < k.h.objs.size := Heap.lt_size (R.N _ (R.inH hm)).1
      refine wpAny_pyIter_list hl ?_
      exact go _ rs.length _ [(a, lisO rs m)] _ { cls := .type "list_iterator", data := .fields #[.ref a, .int 0 0] } _ _ hf.2 (drw_list (Nat.ne_of_lt hlt) rs m) x.len (x.len ▸ hf.1) (fun p hp => by rw [List.mem_singleton.mp hp]; exact hm)
        (fun i v _ hv => x.get hv) ⟨rfl, rfl⟩ nn (R.addX (fun b o e => Heap.get?_push_of_some _ e) fun p hp => by rw [List.mem_singleton.mp hp]; exact ⟨Heap.get?_push_size _ rfl, nn⟩)
  · rename_i a b s
    cases V with
    | rng hm =>
      obtain ⟨h1, h2, h3, h4⟩ := hf
      rw [rngC_eq] at h4
      have hsz := rsz_size (a := a) (b := b) h1
      have hle : rsz a b s ≤ 1000 := by
        unfold rsz
        split <;> omega
      refine wpAny_pyIter_range (R.N _ (R.inH hm)).1 (rsz_small h1 (by omega) (by omega)) ?_
      refine go _ (rsz a b s) _ [] _ (rgiO (a + ((0 : Nat) : Int) * s) ((rsz a b s : Int) - ((0 : Nat) : Int)) s) (rngI a s (rsz a b s)) _ h4 (drw_range _ a s _) (by simp [rngI]) hle (fun p hp => by cases hp) (fun i v hi hv => ?_) rfl nn (R.addX (fun b o e => Heap.get?_push_of_some _ e) fun p hp => ?_)
      · obtain ⟨t, rfl⟩ := hv
        exact ⟨_, by simp [rngI, hi], .int _ _⟩
      · rw [List.mem_singleton.mp hp]
        refine ⟨?_, nn⟩
        have e0 : a + ((0 : Nat) : Int) * s = a := by simp
        have e1 : ((rsz a b s : Int) - ((0 : Nat) : Int)) = Builtin.Range.rangeSize a b s := by rw [hsz]; simp
        rw [e0, e1]
        exact Heap.get?_push_size _ rfl
  · exact hf.elim

/-! for -/
def forGo (g : PV → UT) (b : ST) : List PV → ST
  | [] => fun σ Φ => Φ .next σ
  | v :: vs => fun σ Φ => g v σ fun _ σ₁ => b σ₁ fun fl σ₂ => match fl with
    | .next => forGo g b vs σ₂ Φ
    | .cont => forGo g b vs σ₂ Φ
    | .brk => Φ .next σ₂
    | .ret v => Φ (.ret v) σ₂
def forW (f : ET) (g : PV → UT) (b : ST) : ST := fun σ Φ => f σ fun v σ₁ => itemsW v σ₁ fun vs σ₂ => forGo g b vs σ₂ Φ
theorem for_core {target : Expr} {body : List Stmt} {g : PV → UT} {b : ST} (ht : STt c (assign target c.env) g) (hb : SS c (execs body c.env) b) (hlet : ∀ i v, letOwnedTupleGo target i v = pure ()) {I : Addr} {n : Nat} {P : Nat → Value → Prop} {S : Led} {J : Nat → Obj → Prop}
    (W : Drw c I n P S J) {vs : List PV} (hn : vs.length = n) {X : Led} {k : Cf} {σ : St} {tk : Nat} {oI : Obj} {Φ : Fl → St → Prop} {Q : Flow → Shared → Prop} {E : Value → Shared → Prop} (hS : ∀ p ∈ S, p ∈ k.H) (hP : ∀ i v, i < n → P i v → ∃ pv, vs[i]? = some pv ∧ VR k.H [] pv v)
    (hXI : ∀ p ∈ X, p.1 ≠ I) (hf : forGo g b vs σ Φ) (hJ : J 0 oI) (R : Rel c ([(I, oI)] ++ X) k σ) (post : Post c X k FlR Φ Q) :
    codeAny c.M c.A (.forLoop target (.ref I) body [] c.env) (fun r s' => match r with | .ok f => Q f s' | .error e => cameBackBy c.M c.A c.env E e s') (c.at k tk) := by
  have hX : Dis X [(I, oI)] := fun p hp q hq => by rw [List.mem_singleton.mp hq]; exact hXI p hp
  refine codeAny_forLoop_any (fun m s' => ∃ (i : Nat) (k' : Cf) (σ' : St) (tk' : Nat) (o : Obj), s' = c.at k' tk' ∧ m = n + 1 - i ∧ i ≤ n ∧ J i o ∧ Rel c ([(I, o)] ++ X) k' σ' ∧ Grow k k' ∧ forGo g b (vs.drop i) σ' Φ) ?_ (n + 1)
    ⟨0, k, σ, tk, oI, rfl, rfl, Nat.zero_le _, hJ, R, .rfl', hf⟩
  rintro m s' ⟨i, k', σ', tk', o, rfl, rfl, hi, hJ', R', G', hf'⟩
  have hX' : Dis X [(I, o)] := fun p hp q hq => by rw [List.mem_singleton.mp hq]; exact hXI p hp
  have hI : k'.h.get? I = some o := (R'.N (I, o) (List.mem_append_right _ (List.mem_append_right _ (List.mem_append_right _ (.head _))))).1
  have hS' : ∀ p ∈ S, k'.h.get? p.1 = some p.2 := fun p hp => (R'.N p (R'.inH (G'.h p (hS p hp)))).1
  by_cases hlt : i < n
  · refine W.item i _ _ _ _ hlt hJ' hI hS' fun v h₁ tk₁ o₁ hPv hJ₁ ho₁ hk₁ => ?_
    refine wpAny_of_eq (hlet _ _) ?_
    obtain ⟨pv, hpv, Vpv⟩ := hP i v hlt hPv
    have hd : vs.drop i = pv :: vs.drop (i + 1) := by
      obtain ⟨h1, h2⟩ := List.getElem?_eq_some_iff.mp hpv
      rw [← h2]; exact List.drop_eq_getElem_cons h1
    rw [hd] at hf'
    have R₁ : Rel c ([(I, o₁)] ++ X) { k' with h := h₁ } σ' := R'.turn rfl (fun b ob hb e => hk₁ b ob (by simpa using hb) e) (fun p hp => by rw [List.mem_singleton.mp hp]; exact ho₁) hX'
    refine ht ([(I, o₁)] ++ X) { k' with h := h₁ } σ' tk₁ pv v _ _ _ hf' R₁ (Vpv.mono (fun p hp => G'.h p hp) fun _ _ h => by simp at h) fun _ σ₂ k₂ tk₂ _ hf₂ R₂ G₂ _ => ?_
    refine hb.run hf₂ R₂ fun fl σ₃ k₃ tk₃ fl' hf₃ R₃ G₃ V₃ => ?_
    have G : Grow k k₃ := (G'.trans Grow.heap).trans (G₂.trans G₃)
    cases V₃ with
    | next => exact ⟨n + 1 - (i + 1), by omega, i + 1, k₃, σ₃, tk₃, o₁, rfl, rfl, hlt, hJ₁, R₃, G, hf₃⟩
    | cont => exact ⟨n + 1 - (i + 1), by omega, i + 1, k₃, σ₃, tk₃, o₁, rfl, rfl, hlt, hJ₁, R₃, G, hf₃⟩
    | brk => exact post _ _ _ _ _ hf₃ R₃.dropX G .next
    | ret x => exact post _ _ _ _ _ hf₃ R₃.dropX G (.ret x)
  · obtain rfl : i = n := Nat.le_antisymm hi (Nat.not_lt.mp hlt)
    refine W.done _ _ _ _ hJ' hI hS' fun h₁ tk₁ hk₁ => wpAny_execs_nil ?_
    rw [← hn, List.drop_length] at hf'
    have R₁ : Rel c X { k' with h := h₁ } σ' := by
      have keep : ∀ q ∈ k'.Z ++ (k'.O ++ (k'.H ++ X)), q.1 ≠ I ∧ q ∈ k'.Z ++ (k'.O ++ (k'.H ++ ([(I, o)] ++ X))) := fun q hq => by
        rcases List.mem_append.mp hq with h | h
        · exact ⟨R'.zo q h (I, o) (List.mem_append_right _ (List.mem_append_right _ (.head _))), List.mem_append_left _ h⟩
        · rcases List.mem_append.mp h with h | h
          · exact ⟨Ne.symm (R'.xo (I, o) (.head _) q (List.mem_append_left _ h)), R'.inO h⟩
          · rcases List.mem_append.mp h with h | h
            · exact ⟨Ne.symm (R'.xo (I, o) (.head _) q (List.mem_append_right _ h)), R'.inH h⟩
            · exact ⟨hXI q h, List.mem_append_right _ (List.mem_append_right _ (List.mem_append_right _ (.tail _ h)))⟩
      have z := R'.N (I, o) (List.mem_append_right _ (List.mem_append_right _ (List.mem_append_right _ (.head _))))
      exact R'.dropX.heap (LCg.fr_but R'.F (fun b ob hb e => hk₁ b ob (by simpa using hb) e) (Ne.symm z.2.1) z.2.2) fun q hq => ⟨hk₁ _ _ (keep q hq).1 (R'.N q (keep q hq).2).1, (R'.N q (keep q hq).2).2⟩
    exact post _ _ _ _ _ hf' R₁ (G'.trans .heap) .next
theorem ss_for {x : Str} {px pos : Pos} {iter : Expr} {body : List Stmt} {f : ET} {g : PV → UT} {b : ST} (hi : SE c (eval iter c.env) f) (ht : STt c (storeName c.env x) g) (hb : SS c (execs body c.env) b) (hs : ∀ x, foldedSetIterable iter c.env x = pure x) :
    SS c (exec (.For (.Name x px) iter body [] pos) c.env) (forW f g b) := by
  intro X k σ tk Φ Q E hf R post
  refine wpAny_For (hi.run hf R fun v σ₁ k₁ tk₁ r hf₁ R₁ G₁ V₁ => ?_) hs
  refine iter_run hf₁ R₁ V₁ fun I n P S J oI vs h' hf₂ W hn _ hS hP hJ nI R₂ => ?_
  refine for_core (st_name ht) hb (fun _ _ => rfl) W hn (k := { k₁ with h := h' }) hS hP (fun p hp e => ?_) hf₂ hJ R₂ (post.up (G₁.trans .heap))
  have := (R₁.N p (List.mem_append_right _ (List.mem_append_right _ (List.mem_append_right _ hp)))).1
  rw [e, nI] at this
  cases this
abbrev enO (it : Addr) (i : Int) (old : Value) : Obj := { cls := .type "enumerate", dict := none, data := .fields #[.none, .bool false, .ref it, rawInt i, .none, old], slots := #[] }
/-! for over enumerate -/
def enumI : Nat → List PV → List PV
  | _, [] => []
  | i, v :: vs => .tup [.int i, v] :: enumI (i + 1) vs
def enumC : List PV → Int → (List PV → Prop) → Prop
  | [], _, K => K []
  | v :: vs, i, K => litC i fun i' => enumC vs (i' + 1) fun us => K (.tup [.int i', v] :: us)
theorem enumC_eq : ∀ {vs : List PV} {i : Nat} {K : List PV → Prop}, enumC vs i K = K (enumI i vs)
  | [], _, _ => rfl
  | v :: vs, i, K => by
    unfold enumC
    rw [litC_eq]
    exact enumC_eq (vs := vs) (i := i + 1)
theorem enumC_of {vs : List PV} {K : List PV → Prop} (h : enumC vs 0 K) : K (enumI 0 vs) := by
  have e := enumC_eq (vs := vs) (i := 0) (K := K)
  exact e ▸ h
def forEW (f : ET) (fs : List (PV → UT)) (b : ST) : ST := fun σ Φ => f σ fun v σ₁ => match v with
  | .lis vs => vs.length ≤ 1000 ∧ enumC vs 0 fun us => forGo (unpW fs) b us σ₁ Φ
  | _ => False
theorem ss_forE {xe : Str} {pe pos pos' : Pos} {e : Expr} {elts : List Expr} {n₀ : Nat} {pt : Pos} {body : List Stmt} {f : ET} {fs : List (PV → UT)} {b : ST} (hn : SE c (eval (.Name xe pe) c.env) (rawW (.type "enumerate"))) (hi : SE c (eval e c.env) f)
    (he : starEach [e] c.env = (false, eval e c.env) :: starEach [] c.env) (ht : STs c ((assignEach elts c.env).map (·.2)) fs) (hstar : (assignEach elts c.env).findIdx? (·.1) = none) (hlen : fs.length = 2) (hb : SS c (execs body c.env) b)
    (hs : ∀ x, foldedSetIterable (.Call (.Name xe pe) [e] [] pos') c.env x = pure x) :
    SS c (exec (.For (.Tuple elts n₀ pt) (.Call (.Name xe pe) [e] [] pos') body [] pos) c.env) (forEW f fs b) := by
  intro X k σ tk Φ Q E hf R post
  refine wpAny_For ?_ hs
  refine Call_Name rfl (hn.run (Φ := fun v σ' => v = .raw (.type "enumerate") ∧ f σ' fun v σ₁ => match v with
    | .lis vs => vs.length ≤ 1000 ∧ enumC vs 0 fun us => forGo (unpW fs) b us σ₁ Φ
    | _ => False) ⟨rfl, hf⟩ R fun v σ₀ k₀ tk₀ r hf₀ R₀ G₀ V₀ => ?_)
  obtain ⟨rfl, hf₀⟩ := hf₀
  cases V₀
  refine PyProof.Rows.callWith_type1 ?_ he rfl
  rw [he]
  refine Calls.spliced_cons (hi.run hf₀ R₀ fun v σ₁ k₁ tk₁ r hf₁ R₁ G₁ V₁ => Calls.spliced_nil ?_)
  split at hf₁
  · rename_i vs
    have hf₂ : vs.length ≤ 1000 ∧ forGo (unpW fs) b (enumI 0 vs) σ₁ Φ := ⟨hf₁.1, enumC_of hf₁.2⟩
    replace hf₁ := hf₂
    cases V₁ with
    | @lis _ _ rs m a hm x =>
      have hl := News.isList R₁.N (R₁.inH hm)
      have hlt : a < k₁.h.objs.size := Heap.lt_size (R₁.N _ (R₁.inH hm)).1
      have nn : ∀ j, k₁.h.objs.size ≤ j → k₁.h.get? j = none := fun j hj => by
        cases e : k₁.h.get? j with
        | none => rfl
        | some o => exact absurd (Heap.lt_size e) (Nat.not_lt.mpr hj)
      refine call_enumerate_list hl fun h' hE hI hsz hk => ?_
      obtain ⟨oi, hoi, hoi'⟩ := id hI
      generalize hit : k₁.h.objs.size = it at *
      have hlt' : @LT.lt Nat _ a it := hlt
      have W := WalksT.enumerate (prog := c.D.prog) (w := c.D.w) (A := c.A) rfl (it + 1) it a (Nat.succ_ne_self _) (by intro q; have q' : @Eq Nat a (it + 1) := q; omega) (Nat.ne_of_lt hlt') rs.toArray
      have R₂ : Rel c ([(it + 1, enO it ((0 : Nat) : Int) .none), (it, oi)] ++ X) { k₁ with h := h' } σ₁ := R₁.addX hk fun p hp => by
        rcases List.mem_cons.mp hp with rfl | hp
        · exact ⟨hE, nn _ (Nat.le_succ _)⟩
        · rw [List.mem_singleton.mp hp]; exact ⟨hoi, nn _ (Nat.le_refl _)⟩
      have offX : ∀ p ∈ X, p.1 ≠ it + 1 ∧ p.1 ≠ it := fun p hp => by
        have z := (R₁.N p (List.mem_append_right _ (List.mem_append_right _ (List.mem_append_right _ hp)))).1
        exact ⟨fun e => (by rw [e, nn _ (Nat.le_succ _)] at z; cases z), fun e => (by rw [e, nn _ (Nat.le_refl _)] at z; cases z)⟩
      have disX : ∀ (o o' : Obj), Dis X [(it + 1, o), (it, o')] := fun o o' p hp q hq => by
        rcases List.mem_cons.mp hq with rfl | hq
        · exact (offX p hp).1
        · rw [List.mem_singleton.mp hq]; exact (offX p hp).2
      refine W.self 0 _ _ _ ⟨⟨_, hE⟩, hI, hl.at fun o e => hk _ _ e⟩ ?_
      refine codeAny_forLoop_any (fun m s' => ∃ (i : Nat) (k' : Cf) (σ' : St) (tk' : Nat) (old : Value) (o : Obj), s' = c.at k' tk' ∧ m = rs.length + 1 - i ∧ i ≤ rs.length ∧ (o.cls = .type "list_iterator" ∧ o.data = .fields #[.ref a, .int i 0]) ∧
        Rel c ([(it + 1, enO it (i : Int) old), (it, o)] ++ X) k' σ' ∧ Grow k₁ k' ∧ forGo (unpW fs) b (enumI i (vs.drop i)) σ' Φ) ?_ (rs.length + 1)
        ⟨0, { k₁ with h := h' }, σ₁, _, .none, oi, rfl, rfl, Nat.zero_le _, hoi', R₂, .heap, hf₁.2⟩
      rintro m s' ⟨i, k', σ', tk', old, o, rfl, rfl, hi, ho', R', G', hf'⟩
      have inX : ∀ p ∈ [(it + 1, enO it (i : Int) old), (it, o)], p ∈ k'.Z ++ (k'.O ++ (k'.H ++ ([(it + 1, enO it (i : Int) old), (it, o)] ++ X))) := fun p hp => List.mem_append_right _ (List.mem_append_right _ (List.mem_append_right _ (List.mem_append_left _ hp)))
      have hst : (∃ old, IsEnum k'.h (it + 1) it i old) ∧ k'.h.IsListIter it a i ∧ k'.h.IsList a rs.toArray :=
        ⟨⟨old, (R'.N _ (inX _ (.head _))).1⟩, ⟨o, (R'.N _ (inX _ (.tail _ (.head _)))).1, ho'⟩, News.isList R'.N (R'.inH (G'.h _ hm))⟩
      by_cases hlt : i < rs.length
      · refine W.item i _ _ _ (by simpa using hlt) hst fun T vals h₁ tk₁ hPt hTge hT mid hk₁ => ?_
        obtain ⟨t, xv, hx, rfl⟩ := hPt
        refine W.go elts n₀ pt i T _ _ _ mid fun h₂ hst₂ hk₂ => ?_
        obtain ⟨⟨old₂, hE₂⟩, ⟨o₂, hoi₂, ho₂⟩, hl₂⟩ := hst₂
        have hT₂ : h₂.IsTuple T #[.int i t, xv] := hT.at fun ob e => hk₂ T ob (W.apart i T _ mid) e
        have hx' : rs[i]? = some xv := by simpa using hx
        obtain ⟨pv, hpv, Vpv⟩ := x.get hx'
        have hd : vs.drop i = pv :: vs.drop (i + 1) := by
          obtain ⟨h1, h2⟩ := List.getElem?_eq_some_iff.mp hpv
          rw [← h2]; exact List.drop_eq_getElem_cons h1
        rw [hd, enumI] at hf'
        have R₂ : Rel c ([(it + 1, enO it ((i + 1 : Nat) : Int) old₂), (it, o₂)] ++ X) { k' with h := h₂ } σ' := R'.turn rfl (fun bb ob hb e => by
            have hb' : bb ∉ [it + 1, it] := hb
            exact hk₂ bb ob hb' (hk₁ bb ob hb' e)) (fun p hp => by
            rcases List.mem_cons.mp hp with rfl | hp
            · exact hE₂
            · rw [List.mem_singleton.mp hp]; exact hoi₂) (disX _ _)
        refine wpAny_assign_Tuple rfl hT₂ ?_ hstar fun h₃ he₃ => ?_
        · have := ht.len
          rw [List.length_map] at this
          rw [this, hlen]; rfl
        · have F₃ := R₂.F.extBut he₃ (Nat.le_refl _)
          have R₃ := R₂.heap F₃ fun p hp => ⟨he₃ _ _ (Nat.ne_of_lt (Heap.lt_size (R₂.N p hp).1)) (R₂.N p hp).1, (R₂.N p hp).2⟩
          refine sts_run ht (k := { k' with h := h₃ }) hf'.2 R₃ (.cons (.int _ _) (.cons (Vpv.mono (fun p hp => G'.h p hp) fun _ _ h => by simp at h) .nil)) fun _ σ₄ k₄ tk₄ _ hf₄ R₄ G₄ _ => ?_
          refine hb.run hf₄ R₄ fun fl σ₅ k₅ tk₅ fl' hf₅ R₅ G₅ V₅ => ?_
          have G : Grow k₁ k₅ := (G'.trans Grow.heap).trans (G₄.trans G₅)
          cases V₅ with
          | next => exact ⟨rs.length + 1 - (i + 1), by omega, i + 1, k₅, σ₅, tk₅, old₂, o₂, rfl, rfl, hlt, ho₂, R₅, G, hf₅⟩
          | cont => exact ⟨rs.length + 1 - (i + 1), by omega, i + 1, k₅, σ₅, tk₅, old₂, o₂, rfl, rfl, hlt, ho₂, R₅, G, hf₅⟩
          | brk => exact (post.up (G₀.trans G₁)) _ _ _ _ _ hf₅ R₅.dropX G .next
          | ret x => exact (post.up (G₀.trans G₁)) _ _ _ _ _ hf₅ R₅.dropX G (.ret x)
      · obtain rfl : i = rs.length := Nat.le_antisymm hi (Nat.not_lt.mp hlt)
        refine W.done _ _ _ (by simpa using hst) fun h₁ tk₁ hk₁ => wpAny_execs_nil ?_
        have hd : vs.drop rs.length = [] := by rw [← x.len]; exact List.drop_length
        rw [hd, enumI] at hf'
        have R₁' : Rel c X { k' with h := h₁ } σ' := by
          have keep : ∀ q ∈ k'.Z ++ (k'.O ++ (k'.H ++ X)), (q.1 ≠ it + 1 ∧ q.1 ≠ it) ∧ q ∈ k'.Z ++ (k'.O ++ (k'.H ++ ([(it + 1, enO it ((rs.length : Nat) : Int) old), (it, o)] ++ X))) := fun q hq => by
            rcases List.mem_append.mp hq with h | h
            · exact ⟨⟨R'.zo q h (it + 1, _) (List.mem_append_right _ (List.mem_append_right _ (.head _))), R'.zo q h (it, o) (List.mem_append_right _ (List.mem_append_right _ (.tail _ (.head _))))⟩, List.mem_append_left _ h⟩
            · rcases List.mem_append.mp h with h | h
              · exact ⟨⟨Ne.symm (R'.xo (it + 1, _) (.head _) q (List.mem_append_left _ h)), Ne.symm (R'.xo (it, o) (.tail _ (.head _)) q (List.mem_append_left _ h))⟩, R'.inO h⟩
              · rcases List.mem_append.mp h with h | h
                · exact ⟨⟨Ne.symm (R'.xo (it + 1, _) (.head _) q (List.mem_append_right _ h)), Ne.symm (R'.xo (it, o) (.tail _ (.head _)) q (List.mem_append_right _ h))⟩, R'.inH h⟩
                · exact ⟨offX q h, List.mem_append_right _ (List.mem_append_right _ (List.mem_append_right _ (.tail _ (.tail _ h))))⟩
          have z1 := R'.N _ (inX _ (.head _))
          have z2 := R'.N _ (inX _ (.tail _ (.head _)))
          have nm : ∀ bb : Addr, bb ≠ it + 1 → bb ≠ it → bb ∉ [it + 1, it] := fun bb h1 h2 hm => by
            rcases List.mem_cons.mp hm with h | h
            · exact h1 h
            · exact h2 (List.mem_singleton.mp h)
          refine R'.dropX.heap ⟨R'.F.ns.at' fun ob e => hk₁ _ ob (nm _ (Ne.symm z1.2.1) (Ne.symm z2.2.1)) e, fun bb ob e => hk₁ bb ob (nm _ (fun q => ?_) (fun q => ?_)) (R'.F.keep bb ob e), R'.F.above⟩ fun q hq => ⟨hk₁ _ _ (nm _ (keep q hq).1.1 (keep q hq).1.2) (R'.N q (keep q hq).2).1, (R'.N q (keep q hq).2).2⟩
          · rw [q, z1.2.2] at e; cases e
          · rw [q, z2.2.2] at e; cases e
        exact (post.up (G₀.trans G₁)) _ _ _ _ _ hf' R₁' (G'.trans .heap) .next
  · exact hf₁.elim
end
abbrev Cx.inn (c : Cx) (x : Str) (env' : Env) (pl : Place) (a : Addr) : Cx := { c with env := env', sl := c.sl ++ [(x, pl)], zs := c.zs ++ [a] }
section
variable {c : Cx}
theorem Cx.Ok.inn {x : Str} {env' : Env} {pl : Place} {a : Addr} (ok : c.Ok) (hp : pl = .dict a ∨ pl = .cell a) (ha : a ∉ c.zs) (ek : env'.scope.kind = .function) (eg : env'.globals = mainGlobals) (eb : env'.builtins = builtinsNs) : (c.inn x env' pl a).Ok := by
  have no : ∀ y b, (y, Place.cell b) ∈ c.sl ∨ (y, Place.dict b) ∈ c.sl → b ≠ a := fun y b h e => ha (e ▸ ok.sz y b h)
  have mem : ∀ {q : Str × Place}, q ∈ c.sl ++ [(x, pl)] → q ∈ c.sl ∨ q = (x, pl) := fun h => by
    rcases List.mem_append.mp h with h | h
    · exact .inl h
    · exact .inr (List.mem_singleton.mp h)
  have npl : (x, pl) ∉ c.sl := fun h => by
    rcases hp with rfl | rfl
    · exact no x a (.inr h) rfl
    · exact no x a (.inl h) rfl
  exact { ok with
    ek := ek, eg := eg, eb := eb
    sd := by
      show (c.sl ++ [(x, pl)]).Nodup
      rw [List.nodup_append]
      exact ⟨ok.sd, by simp, fun p hp q hq e => npl (by rw [← List.mem_singleton.mp hq, ← e]; exact hp)⟩
    zd := by
      show (c.zs ++ [a]).Nodup
      rw [List.nodup_append]
      exact ⟨ok.zd, by simp, fun p hp q hq e => ha (by rw [← List.mem_singleton.mp hq, ← e]; exact hp)⟩
    cz := fun y z b hy hz => by
      rcases mem hy with hy1 | hy1
      · rcases mem hz with hz1 | hz1
        · exact ok.cz y z b hy1 hz1
        · simp only [Prod.mk.injEq] at hz1
          rcases hp with rfl | rfl
          · cases hz1.2
          · have := hz1.2
            cases this
            exact absurd rfl (no y _ (.inl hy1))
      · simp only [Prod.mk.injEq] at hy1
        rcases hp with rfl | rfl
        · cases hy1.2
        · have := hy1.2
          cases this
          rcases mem hz with hz1 | hz1
          · exact absurd rfl (no z _ (.inl hz1))
          · simp only [Prod.mk.injEq] at hz1
            exact hy1.1.trans hz1.1.symm
    dz := fun y z b hy hz => by
      rcases mem hy with hy1 | hy1
      · rcases mem hz with hz1 | hz1
        · exact ok.dz y z b hy1 hz1
        · simp only [Prod.mk.injEq] at hz1
          rcases hp with rfl | rfl
          · have := hz1.2
            cases this
            exact no y _ (.inl hy1) rfl
          · cases hz1.2
      · simp only [Prod.mk.injEq] at hy1
        rcases mem hz with hz1 | hz1
        · rcases hp with rfl | rfl
          · cases hy1.2
          · have := hy1.2
            cases this
            exact no z _ (.inr hz1) rfl
        · simp only [Prod.mk.injEq] at hz1
          rw [← hy1.2] at hz1
          cases hz1.2
    sz := fun y b hy => by
      show b ∈ c.zs ++ [a]
      have key : ∀ q : Place, q = .cell b ∨ q = .dict b → (y, q) ∈ c.sl ++ [(x, pl)] → b ∈ c.zs ++ [a] := fun q hq h => by
        rcases mem h with h | h
        · refine List.mem_append_left _ (ok.sz y b ?_)
          rcases hq with rfl | rfl
          · exact .inl h
          · exact .inr h
        · simp only [Prod.mk.injEq] at h
          refine List.mem_append_right _ ?_
          have h2 := h.2
          subst h2
          rcases hq with rfl | rfl
          · rcases hp with hp | hp
            · cases hp
            · cases hp; exact .head _
          · rcases hp with hp | hp
            · cases hp; exact .head _
            · cases hp
      rcases hy with hy | hy
      · exact key _ (.inl rfl) hy
      · exact key _ (.inr rfl) hy }
theorem Rel.enter {X : Led} {k : Cf} {σ : St} {x : Str} {env' : Env} {pl : Place} {a : Addr} {o : Obj} {v : PV} {r : Value} (R : Rel c ([(a, o)] ++ X) k σ) (hp : pl = .dict a ∨ pl = .cell a) (V : VV k v r) (hXa : ∀ p ∈ X, p.1 ≠ a)
    (hol : ∀ k' : Cf, (a, o) ∈ k'.Z → Holds k' x r pl) (hce : pl = .cell a → ∃ v₀, o.data = .cell v₀) : Rel (c.inn x env' pl a) X { k with Z := k.Z ++ [(a, o)] } { σ with loc := σ.loc ++ [some v] } where
  F := R.F
  N := fun p hp => R.N p (by
    rcases List.mem_append.mp hp with h | h
    · rcases List.mem_append.mp h with h | h
      · exact List.mem_append_left _ h
      · exact List.mem_append_right _ (List.mem_append_right _ (List.mem_append_right _ (List.mem_append_left _ h)))
    · rcases List.mem_append.mp h with h | h
      · exact R.inO h
      · rcases List.mem_append.mp h with h | h
        · exact R.inH h
        · exact List.mem_append_right _ (List.mem_append_right _ (List.mem_append_right _ (List.mem_append_right _ h))))
  fx := R.fx
  za := by
    show (k.Z ++ [(a, o)]).map (·.1) = c.zs ++ [a]
    rw [List.map_append, R.za]; rfl
  ll := by
    show (σ.loc ++ [some v]).length = (c.sl ++ [(x, pl)]).length
    simp [R.ll]
  ol := R.ol
  ob := R.ob
  lo := fun i y q u hy hu => by
    have hy' : (c.sl ++ [(x, pl)])[i]? = some (y, q) := hy
    have hu' : (σ.loc ++ [some v])[i]? = some (some u) := hu
    rcases Nat.lt_trichotomy i c.sl.length with h | h | h
    · rw [List.getElem?_append_left h] at hy'
      rw [List.getElem?_append_left (by rw [R.ll]; exact h)] at hu'
      obtain ⟨r', h1, h2⟩ := R.lo i y q u hy' hu'
      refine ⟨r', ?_, h2⟩
      cases q with
      | frame => exact h1
      | dict b => obtain ⟨ob, m', h3, h4⟩ := h1; exact ⟨ob, m', List.mem_append_left _ h3, h4⟩
      | cell b => obtain ⟨ob, h3, h4⟩ := h1; exact ⟨ob, List.mem_append_left _ h3, h4⟩
    · subst h
      rw [List.getElem?_append_right (Nat.le_refl _), Nat.sub_self] at hy'
      rw [List.getElem?_append_right (by rw [R.ll]; exact Nat.le_refl _), R.ll, Nat.sub_self] at hu'
      simp only [List.getElem?_cons_zero, Option.some.injEq, Prod.mk.injEq] at hy' hu'
      obtain ⟨rfl, rfl⟩ := hy'
      subst hu'
      exact ⟨r, hol _ (List.mem_append_right _ (.head _)), V⟩
    · rw [List.getElem?_eq_none (by simp; omega)] at hy'
      cases hy'
  ce := fun y b hb => by
    have hb' : (y, Place.cell b) ∈ c.sl ++ [(x, pl)] := hb
    rcases List.mem_append.mp hb' with h | h
    · obtain ⟨ob, v₀, h1, h2⟩ := R.ce y b h
      exact ⟨ob, v₀, List.mem_append_left _ h1, h2⟩
    · have := List.mem_singleton.mp h
      simp only [Prod.mk.injEq] at this
      rcases hp with rfl | rfl
      · cases this.2
      · have e := this.2
        cases e
        obtain ⟨v₀, h2⟩ := hce rfl
        exact ⟨o, v₀, List.mem_append_right _ (.head _), h2⟩
  nd := R.nd
  zo := fun p hp q hq => by
    rcases List.mem_append.mp hp with h | h
    · rcases List.mem_append.mp hq with h' | h'
      · exact R.zo p h q (List.mem_append_left _ h')
      · rcases List.mem_append.mp h' with h' | h'
        · exact R.zo p h q (List.mem_append_right _ (List.mem_append_left _ h'))
        · exact R.zo p h q (List.mem_append_right _ (List.mem_append_right _ (List.mem_append_right _ h')))
    · rw [List.mem_singleton.mp h]
      rcases List.mem_append.mp hq with h' | h'
      · exact R.xo (a, o) (.head _) q (List.mem_append_left _ h')
      · rcases List.mem_append.mp h' with h' | h'
        · exact R.xo (a, o) (.head _) q (List.mem_append_right _ h')
        · exact Ne.symm (hXa q h')
  xo := fun p hp q hq => R.xo p (List.mem_append_right _ hp) q hq
  oh := R.oh
theorem Rel.exit {X : Led} {k : Cf} {σ : St} {x : Str} {env' : Env} {pl : Place} {a : Addr} (ok : c.Ok) (ha : a ∉ c.zs) (R : Rel (c.inn x env' pl a) X k σ) :
    ∃ o, (a, o) ∈ k.Z ∧ Rel c ([(a, o)] ++ X) { k with Z := k.Z.dropLast } { σ with loc := σ.loc.dropLast } := by
  have hz : k.Z.map (·.1) = c.zs ++ [a] := R.za
  have hne : k.Z ≠ [] := fun e => by rw [e] at hz; simp at hz
  obtain ⟨Z, p, hZ⟩ : ∃ Z p, k.Z = Z ++ [p] := ⟨k.Z.dropLast, k.Z.getLast hne, (List.dropLast_concat_getLast hne).symm⟩
  have hz' : Z.map (·.1) ++ [p.1] = c.zs ++ [a] := by rw [← hz, hZ, List.map_append]; rfl
  obtain ⟨h1, h2⟩ := List.append_inj' hz' rfl
  have hp1 : p.1 = a := by simpa using h2
  obtain ⟨pa, po⟩ := p
  have hp1' : pa = a := hp1
  subst hp1'
  have hd : k.Z.dropLast = Z := by rw [hZ]; simp
  have lp : (pa, po) ∈ k.Z := by rw [hZ]; exact List.mem_append_right _ (.head _)
  have sub : ∀ q ∈ Z, q ∈ k.Z := fun q hq => by rw [hZ]; exact List.mem_append_left _ hq
  refine ⟨po, lp, ?_⟩
  rw [hd]
  have hsl : ∀ (i : Nat), i < c.sl.length → (c.inn x env' pl pa).sl[i]? = c.sl[i]? := fun i hi => List.getElem?_append_left hi
  have hll : σ.loc.length = c.sl.length + 1 := by
    have := R.ll
    rw [this]
    show (c.sl ++ [(x, pl)]).length = _
    simp
  have move : ∀ y b, (y, Place.cell b) ∈ c.sl ∨ (y, Place.dict b) ∈ c.sl → ∀ ob, (b, ob) ∈ k.Z → (b, ob) ∈ Z := fun y b hs ob hm => by
    rw [hZ] at hm
    rcases List.mem_append.mp hm with h | h
    · exact h
    · have e := congrArg Prod.fst (List.mem_singleton.mp h)
      have e' : b = pa := e
      exact absurd (e' ▸ ok.sz y b hs) ha
  refine { F := R.F, N := fun q hq => R.N q ?_, fx := R.fx, za := h1, ll := ?_, ol := R.ol, ob := R.ob, lo := fun i y q u hy hu => ?_, ce := fun y b hb => ?_, nd := R.nd, zo := fun q hq q' hq' => ?_, xo := fun q hq q' hq' => ?_, oh := R.oh }
  · rcases List.mem_append.mp hq with h | h
    · exact List.mem_append_left _ (sub _ h)
    · rcases List.mem_append.mp h with h | h
      · exact R.inO h
      · rcases List.mem_append.mp h with h | h
        · exact R.inH h
        · rcases List.mem_append.mp h with h | h
          · rw [List.mem_singleton.mp h]
            exact List.mem_append_left _ lp
          · exact List.mem_append_right _ (List.mem_append_right _ (List.mem_append_right _ h))
  · rw [List.length_dropLast, hll]; rfl
  · have hi : i < c.sl.length := (List.getElem?_eq_some_iff.mp hy).1
    rw [List.getElem?_dropLast, if_pos (by rw [hll]; omega)] at hu
    obtain ⟨r, h3, h4⟩ := R.lo i y q u ((hsl i hi).trans hy) hu
    refine ⟨r, ?_, h4⟩
    cases q with
    | frame => exact h3
    | dict b => obtain ⟨ob, m', h5, h6⟩ := h3; exact ⟨ob, m', move y b (.inr (List.mem_of_getElem? hy)) _ h5, h6⟩
    | cell b => obtain ⟨ob, h5, h6⟩ := h3; exact ⟨ob, move y b (.inl (List.mem_of_getElem? hy)) _ h5, h6⟩
  · obtain ⟨ob, v₀, h3, h4⟩ := R.ce y b (List.mem_append_left _ hb)
    exact ⟨ob, v₀, move y b (.inl hb) _ h3, h4⟩
  · rcases List.mem_append.mp hq' with h | h
    · exact R.zo q (sub _ hq) q' (List.mem_append_left _ h)
    · rcases List.mem_append.mp h with h | h
      · exact R.zo q (sub _ hq) q' (List.mem_append_right _ (List.mem_append_left _ h))
      · rcases List.mem_append.mp h with h | h
        · rw [List.mem_singleton.mp h]
          intro e
          have h9 : q.1 ∈ c.zs := h1 ▸ List.mem_map_of_mem hq
          have e9 : q.1 = pa := e
          exact ha (e9 ▸ h9)
        · exact R.zo q (sub _ hq) q' (List.mem_append_right _ (List.mem_append_right _ h))
  · rcases List.mem_append.mp hq with h | h
    · rw [List.mem_singleton.mp h]
      rcases List.mem_append.mp hq' with h' | h'
      · exact R.zo (pa, po) lp q' (List.mem_append_left _ h')
      · exact R.zo (pa, po) lp q' (List.mem_append_right _ (List.mem_append_left _ h'))
    · exact R.xo q h q' hq'
/-- a list beside becomes frozen -/
theorem Rel.takeH {X : Led} {k : Cf} {σ : St} {p : Addr × Obj} (R : Rel c ([p] ++ X) k σ) (hXp : ∀ q ∈ X, q.1 ≠ p.1) : Rel c X { k with H := p :: k.H } σ where
  F := R.F
  N := fun q hq => R.N q (by
    rcases List.mem_append.mp hq with h | h
    · exact List.mem_append_left _ h
    · rcases List.mem_append.mp h with h | h
      · exact R.inO h
      · rcases List.mem_cons.mp h with rfl | h
        · exact List.mem_append_right _ (List.mem_append_right _ (List.mem_append_right _ (.head _)))
        · rcases List.mem_append.mp h with h | h
          · exact R.inH h
          · exact List.mem_append_right _ (List.mem_append_right _ (List.mem_append_right _ (List.mem_append_right _ h))))
  fx := fun q hq => .tail _ (R.fx q hq)
  za := R.za
  ll := R.ll
  ol := R.ol
  ob := fun i vs hv => let ⟨a, rs, n, h1, h2⟩ := R.ob i vs hv; ⟨a, rs, n, h1, h2.mono (fun p hp => .tail _ hp) fun _ _ h => h⟩
  lo := fun i y pl v hy hv => let ⟨r, h1, h2⟩ := R.lo i y pl v hy hv; ⟨r, h1.same rfl rfl, h2.mono (fun p hp => .tail _ hp) fun _ _ h => h⟩
  ce := R.ce
  nd := R.nd
  zo := fun q hq q' hq' => by
    rcases List.mem_append.mp hq' with h | h
    · exact R.zo q hq q' (List.mem_append_left _ h)
    · rcases List.mem_cons.mp h with rfl | h
      · exact R.zo q hq _ (List.mem_append_right _ (List.mem_append_right _ (.head _)))
      · rcases List.mem_append.mp h with h | h
        · exact R.zo q hq q' (List.mem_append_right _ (List.mem_append_left _ h))
        · exact R.zo q hq q' (List.mem_append_right _ (List.mem_append_right _ (List.mem_append_right _ h)))
  xo := fun q hq q' hq' => by
    rcases List.mem_append.mp hq' with h | h
    · exact R.xo q (List.mem_append_right _ hq) q' (List.mem_append_left _ h)
    · rcases List.mem_cons.mp h with rfl | h
      · exact hXp q hq
      · exact R.xo q (List.mem_append_right _ hq) q' (List.mem_append_right _ h)
  oh := fun hl q hq q' hq' => by
    rcases List.mem_cons.mp hq' with rfl | h
    · exact Ne.symm (R.xo _ (.head _) q (List.mem_append_left _ hq))
    · exact R.oh hl q hq q' h
theorem Rel.takeO {X : Led} {k : Cf} {σ : St} {a : Addr} {rs : List Value} {n : Nat} {vs : List PV} (R : Rel c ([(a, lisO rs n)] ++ X) k σ) (hXp : ∀ q ∈ X, q.1 ≠ a) (V : VVs k vs rs) : Rel c X { k with O := k.O ++ [(a, lisO rs n)] } { σ with obs := σ.obs ++ [vs] } := by
  have gA : ∀ (i : Nat) (b : Addr), k.As[i]? = some b → ((k.O ++ [(a, lisO rs n)]).map (·.1))[i]? = some b := fun i b h => by
    rw [List.map_append]; exact getElem?_grow h
  have inn : (a, lisO rs n) ∈ k.Z ++ (k.O ++ (k.H ++ ([(a, lisO rs n)] ++ X))) := List.mem_append_right _ (List.mem_append_right _ (List.mem_append_right _ (.head _)))
  refine { F := R.F, N := fun q hq => R.N q ?_, fx := R.fx, za := R.za, ll := R.ll, ol := by simp [R.ol], ob := fun i us hu => ?_, lo := fun i y pl v hy hv => ?_, ce := R.ce, nd := ?_, zo := fun q hq q' hq' => ?_, xo := fun q hq q' hq' => ?_, oh := fun hl q hq q' hq' => ?_ }
  · rcases List.mem_append.mp hq with h | h
    · exact List.mem_append_left _ h
    · rcases List.mem_append.mp h with h | h
      · rcases List.mem_append.mp h with h | h
        · exact R.inO h
        · rw [List.mem_singleton.mp h]; exact inn
      · rcases List.mem_append.mp h with h | h
        · exact R.inH h
        · exact List.mem_append_right _ (List.mem_append_right _ (List.mem_append_right _ (List.mem_append_right _ h)))
  · rw [List.getElem?_append] at hu
    split at hu
    · obtain ⟨b, ss, n', h1, h2⟩ := R.ob i us hu
      exact ⟨b, ss, n', getElem?_grow h1, h2.mono (fun _ h => h) gA⟩
    · rename_i hk
      have hk' : i = σ.obs.length := by
        have : i - σ.obs.length < 1 := by
          have := (List.getElem?_eq_some_iff.mp hu).1
          simpa using this
        omega
      subst hk'
      simp only [Nat.sub_self, List.getElem?_cons_zero, Option.some.injEq] at hu
      subst hu
      refine ⟨a, rs, n, ?_, V.mono (fun _ h => h) gA⟩
      rw [List.getElem?_append_right (by have := R.ol; omega), R.ol, Nat.sub_self]; rfl
  · obtain ⟨r, h1, h2⟩ := R.lo i y pl v hy hv
    exact ⟨r, h1.same rfl rfl, h2.mono (fun _ h => h) gA⟩
  · show ((k.O ++ [(a, lisO rs n)]).map (·.1)).Nodup
    rw [List.map_append, List.nodup_append]
    refine ⟨R.nd, by simp, ?_⟩
    intro b hb b' hb'
    simp only [List.map_cons, List.map_nil, List.mem_singleton] at hb'
    obtain ⟨q, hq, e9⟩ := List.mem_map.mp hb
    rw [hb', ← e9]
    exact Ne.symm (R.xo (a, lisO rs n) (.head _) q (List.mem_append_left _ hq))
  · rcases List.mem_append.mp hq' with h | h
    · rcases List.mem_append.mp h with h | h
      · exact R.zo q hq q' (List.mem_append_left _ h)
      · rw [List.mem_singleton.mp h]
        exact R.zo q hq (a, lisO rs n) (List.mem_append_right _ (List.mem_append_right _ (.head _)))
    · rcases List.mem_append.mp h with h | h
      · exact R.zo q hq q' (List.mem_append_right _ (List.mem_append_left _ h))
      · exact R.zo q hq q' (List.mem_append_right _ (List.mem_append_right _ (List.mem_append_right _ h)))
  · rcases List.mem_append.mp hq' with h | h
    · rcases List.mem_append.mp h with h | h
      · exact R.xo q (List.mem_append_right _ hq) q' (List.mem_append_left _ h)
      · rw [List.mem_singleton.mp h]; exact hXp q hq
    · exact R.xo q (List.mem_append_right _ hq) q' (List.mem_append_right _ h)
  · rcases List.mem_append.mp hq with h | h
    · exact R.oh hl q h q' hq'
    · rw [List.mem_singleton.mp h]
      exact R.xo (a, lisO rs n) (.head _) q' (List.mem_append_right _ hq')

/-! comprehensions -/
def compGo (f : ET) : List PV → List PV → St → (List PV → St → Prop) → Prop
  | [], acc, σ, K => K acc σ
  | v :: vs, acc, ⟨l, o, b⟩, K => appC l [some v] fun l' => f ⟨l', o, b⟩ fun y ⟨l₁, o₁, b₁⟩ => fzC [] 9 y fun y' => l₁ = l' ∧ appC acc [y'] fun acc' => compGo f vs acc' ⟨l, o₁, b₁⟩ K
theorem compGo_cons {f : ET} {v : PV} {vs acc : List PV} {σ : St} {K : List PV → St → Prop} : compGo f (v :: vs) acc σ K = f { σ with loc := σ.loc ++ [some v] } fun y σ₁ => fzC [] 9 y fun y' => σ₁.loc = σ.loc ++ [some v] ∧ compGo f vs (acc ++ [y']) { σ₁ with loc := σ.loc } K := by
  cases σ
  rw [compGo, appC_eq]
  simp only [appC_eq]
/-- where a comprehension keeps its name -/
structure Keeps1 (c : Cx) (x : Str) (px : Pos) (env' : Env) (pl : Place) (a : Addr) (Var : Obj → Prop) (Hol : Value → Obj → Prop) : Prop where
  pp : pl = .dict a ∨ pl = .cell a
  store : ∀ (v : Value) (s : Shared) (oa : Obj) (Q : Unit → Shared → Prop) (E : Value → Shared → Prop), Var oa → s.heap.get? a = some oa → (∀ h' tk oa', Heap.SameBut a s.heap h' → h'.get? a = some oa' → Hol v oa' → Q () { s with heap := h', toks := tk }) → wpAny c.M c.A (assign (.Name x px) env' v) Q E s
  hol : ∀ (v : Value) (o : Obj) (k : Cf), Hol v o → (a, o) ∈ k.Z → Holds k x v pl
  ce : pl = .cell a → ∀ v o, Hol v o → ∃ v₀, o.data = .cell v₀
  var : ∀ (k : Cf) (v : Value) (o : Obj), Holds k x v pl → (∀ o', (a, o') ∈ k.Z → o' = o) → Var o
theorem comp_core {elt iter : Expr} {x : Str} {px pos : Pos} {scope : Scope} {env' : Env} {pl : Place} {a : Addr} {f : ET} {Var : Obj → Prop} {Hol : Value → Obj → Prop} (ok : c.Ok) (hk1 : Keeps1 c x px env' pl a Var Hol) (ha : a ∉ c.zs)
    (he : SE (c.inn x env' pl a) (eval elt env') f) {I D : Addr} {n : Nat} {P : Nat → Value → Prop} {S : Led} {J : Nat → Obj → Prop} (W : Drw c I n P S J) {vs : List PV} (hn : vs.length = n) (hsz : n ≤ 1000) {X : Led} {k : Cf} {σ : St} {tk : Nat} {oI oa : Obj} {K : List PV → St → Prop} {RR : Result → Shared → Prop}
    (hS : ∀ p ∈ S, p ∈ k.H) (hP : ∀ i v, i < n → P i v → ∃ pv, vs[i]? = some pv ∧ VR k.H [] pv v) (hX : ∀ p ∈ X, p.1 ≠ a ∧ p.1 ≠ I ∧ p.1 ≠ D) (hne : a ≠ I ∧ a ≠ D ∧ I ≠ D) (hf : compGo f vs [] σ K) (hJ : J 0 oI) (hv : Var oa)
    (R : Rel c ([(a, oa), (I, oI), (D, lisO [] 0)] ++ X) k σ)
    (hRR : ∀ (ys : List PV) (σ' : St) (k' : Cf) (oa oI : Obj) (rs : List Value) (m : Nat), K ys σ' → Rel c ([(a, oa), (I, oI), (D, lisO rs m)] ++ X) k' σ' → Grow k k' → VRs k'.H [] ys rs → Var oa → ∀ (h' : Heap) (tk₂ : Nat), (∀ b o, b ≠ I → k'.h.get? b = some o → h'.get? b = some o) → RR (.ok .next) (c.at { k' with h := h' } tk₂)) :
    codeAny c.M c.A (.compLoop (.ListComp elt [⟨.Name x px, iter, [], 0⟩] scope pos) 0 (.ref I) (.ref D) env') RR (c.at k tk) := by
  have hXX : ∀ (o1 o2 o3 : Obj), Dis X [(a, o1), (I, o2), (D, o3)] := fun o1 o2 o3 p hp q hq => by
    have z := hX p hp
    rcases List.mem_cons.mp hq with rfl | hq
    · exact z.1
    · rcases List.mem_cons.mp hq with rfl | hq
      · exact z.2.1
      · rw [List.mem_singleton.mp hq]; exact z.2.2
  refine codeAny_compLoop_list (fun m s' => ∃ (i : Nat) (k' : Cf) (σ' : St) (tk' : Nat) (oa oI : Obj) (ys : List PV) (rs : List Value) (j : Nat), s' = c.at k' tk' ∧ m = n + 1 - i ∧ i ≤ n ∧ J i oI ∧ Var oa ∧ Rel c ([(a, oa), (I, oI), (D, lisO rs j)] ++ X) k' σ' ∧ Grow k k' ∧ VRs k'.H [] ys rs ∧ rs.length = i ∧ compGo f (vs.drop i) ys σ' K) ?_ (n + 1)
    ⟨0, k, σ, tk, oa, oI, [], [], 0, rfl, rfl, Nat.zero_le _, hJ, hv, R, .rfl', .nil, rfl, hf⟩ (fun _ => rfl)
  rintro m s' ⟨i, k', σ', tk', oa, oI, ys, rs, j, rfl, rfl, hi, hJ', hv', R', G', hys, hrl, hf'⟩
  have inX : ∀ p ∈ [(a, oa), (I, oI), (D, lisO rs j)], p ∈ k'.Z ++ (k'.O ++ (k'.H ++ ([(a, oa), (I, oI), (D, lisO rs j)] ++ X))) := fun p hp => List.mem_append_right _ (List.mem_append_right _ (List.mem_append_right _ (List.mem_append_left _ hp)))
  have hS' : ∀ p ∈ S, k'.h.get? p.1 = some p.2 := fun p hp => (R'.N p (R'.inH (G'.h p (hS p hp)))).1
  have hI := R'.N _ (inX _ (.tail _ (.head _)))
  have hA := R'.N _ (inX _ (.head _))
  have hD := R'.N _ (inX _ (.tail _ (.tail _ (.head _))))
  by_cases hlt : i < n
  · refine W.item i _ _ _ _ hlt hJ' hI.1 hS' fun v h₁ tk₁ o₁ hPv hJ₁ ho₁ hk₁ => ?_
    obtain ⟨pv, hpv, Vpv⟩ := hP i v hlt hPv
    have hd : vs.drop i = pv :: vs.drop (i + 1) := by
      obtain ⟨h1, h2⟩ := List.getElem?_eq_some_iff.mp hpv
      rw [← h2]; exact List.drop_eq_getElem_cons h1
    rw [hd, compGo_cons] at hf'
    refine hk1.store v _ oa _ _ hv' (hk₁ _ _ hne.1 hA.1) fun h₂ tk₂ oa₂ hs₂ ha₂ hol₂ => ?_
    have notin : ∀ bb : Addr, bb ∉ List.map (·.1) [(a, oa), (I, oI), (D, lisO rs j)] → bb ≠ a ∧ bb ≠ I ∧ bb ≠ D := fun bb hb => by
      refine ⟨fun e => hb ?_, fun e => hb ?_, fun e => hb ?_⟩
      · rw [e]; exact .head _
      · rw [e]; exact .tail _ (.head _)
      · rw [e]; exact .tail _ (.tail _ (.head _))
    have R₂ : Rel c ([(a, oa₂), (I, o₁), (D, lisO rs j)] ++ X) { k' with h := h₂ } σ' := R'.turn rfl (fun bb ob hb e => (hs₂.2 bb (notin bb hb).1).trans (hk₁ bb ob (notin bb hb).2.1 e)) (fun p hp => by
      rcases List.mem_cons.mp hp with rfl | hp
      · exact ha₂
      · rcases List.mem_cons.mp hp with rfl | hp
        · exact (hs₂.2 _ (Ne.symm hne.1)).trans ho₁
        · rw [List.mem_singleton.mp hp]
          exact (hs₂.2 _ (Ne.symm hne.2.1)).trans (hk₁ _ _ (Ne.symm hne.2.2) hD.1)) (hXX _ _ _)
    have R₃ : Rel (c.inn x env' pl a) ([(I, o₁), (D, lisO rs j)] ++ X) { k' with h := h₂, Z := k'.Z ++ [(a, oa₂)] } { σ' with loc := σ'.loc ++ [some pv] } := Rel.enter (k := { k' with h := h₂ }) R₂ hk1.pp (Vpv.mono (fun p hp => G'.h p hp) fun _ _ h => by simp at h) (fun p hp => by
      rcases List.mem_append.mp hp with hp | hp
      · rcases List.mem_cons.mp hp with rfl | hp
        · exact Ne.symm hne.1
        · rw [List.mem_singleton.mp hp]; exact Ne.symm hne.2.1
      · exact (hX p hp).1) (fun k₂ hm => hk1.hol v oa₂ k₂ hol₂ hm) (fun e => hk1.ce e v oa₂ hol₂)
    refine he.run (c := c.inn x env' pl a) hf' R₃ fun y σ₄ k₄ tk₄ ry hf₄ R₄ G₄ V₄ => ?_
    obtain ⟨y', hy', hloc, hf₅⟩ := fzC_of 9 _ _ hf₄
    have inX₄ : (D, lisO rs j) ∈ k₄.Z ++ (k₄.O ++ (k₄.H ++ ([(I, o₁), (D, lisO rs j)] ++ X))) := List.mem_append_right _ (List.mem_append_right _ (List.mem_append_right _ (.tail _ (.head _))))
    refine append_at (its := rs.toArray) (R₄.N _ inX₄).1 (fun h₅ hs₅ hD₅ => ?_) (by rw [List.size_toArray, hrl]; exact Nat.le_trans hi (Nat.le_trans hsz (by decide)))
    rw [List.push_toArray] at hD₅
    have R₅ : Rel (c.inn x env' pl a) ([(I, o₁), (D, lisO (rs ++ [ry]) (j + 1))] ++ X) { k₄ with h := h₅ } σ₄ := R₄.turn rfl (fun bb ob hb e => (hs₅.2 bb (fun q => hb (by rw [q]; exact .tail _ (.head _)))).trans e) (fun p hp => by
      rcases List.mem_cons.mp hp with rfl | hp
      · exact (hs₅.2 _ hne.2.2).trans (R₄.N _ (List.mem_append_right _ (List.mem_append_right _ (List.mem_append_right _ (.head _))))).1
      · rw [List.mem_singleton.mp hp]; exact hD₅) (fun p hp q hq => by
      have z := hX p hp
      rcases List.mem_cons.mp hq with rfl | hq
      · exact z.2.1
      · rw [List.mem_singleton.mp hq]; exact z.2.2)
    obtain ⟨oa₅, hm₅, R₆⟩ := Rel.exit ok ha R₅
    have hlast : (c.inn x env' pl a).sl[c.sl.length]? = some (x, pl) := by
      show (c.sl ++ [(x, pl)])[c.sl.length]? = _
      rw [List.getElem?_append_right (Nat.le_refl _), Nat.sub_self]; rfl
    have hlv : σ₄.loc[c.sl.length]? = some (some pv) := by
      rw [hloc, List.getElem?_append_right (by rw [R'.ll]; exact Nat.le_refl _), R'.ll, Nat.sub_self]; rfl
    obtain ⟨rv, hhol, _⟩ := R₅.lo c.sl.length x pl pv hlast hlv
    have hv₅ : Var oa₅ := hk1.var _ rv oa₅ hhol fun o' hm' => by
      have e1 := (R₅.N _ (List.mem_append_left _ hm')).1
      have e2 := (R₅.N _ (List.mem_append_left _ hm₅)).1
      exact Option.some.inj (e1.symm.trans e2)
    have hlocs : { σ₄ with loc := σ₄.loc.dropLast } = { σ₄ with loc := σ'.loc } := by rw [hloc]; simp
    rw [hlocs] at R₆
    refine ⟨n + 1 - (i + 1), by omega, i + 1, { k₄ with h := h₅, Z := k₄.Z.dropLast }, _, _, oa₅, o₁, ys ++ [y'], rs ++ [ry], j + 1, rfl, rfl, hlt, hJ₁, hv₅, R₆, ⟨fun p hp => G₄.h p (G'.h p hp), fun ii b e => G₄.a ii b (G'.a ii b e)⟩, ?_, by rw [List.length_append, hrl]; rfl, hf₅⟩
    exact (hys.mono (fun p hp => G₄.h p hp) fun _ _ h => h).append (.cons (fz0_vr 9 _ _ _ hy' V₄) .nil)
  · obtain rfl : i = n := Nat.le_antisymm hi (Nat.not_lt.mp hlt)
    refine W.done _ _ _ _ hJ' hI.1 hS' fun h₁ tk₁ hk₁ => ?_
    rw [← hn, List.drop_length] at hf'
    exact hRR ys σ' k' oa oI rs j hf' R' G' hys hv' h₁ tk₁ hk₁
end
section
variable {c : Cx}
theorem Rel.leave {X Y : Led} {k : Cf} {σ : St} {h' : Heap} (R : Rel c (Y ++ X) k σ) (B : List Addr) (hB : ∀ b ∈ B, b ∈ Y.map (·.1)) (hXB : ∀ p ∈ X, p.1 ∉ B) (hk : ∀ b o, b ∉ B → k.h.get? b = some o → h'.get? b = some o) : Rel c X { k with h := h' } σ := by
  have inY : ∀ p ∈ Y, p ∈ k.Z ++ (k.O ++ (k.H ++ (Y ++ X))) := fun p hp => List.mem_append_right _ (List.mem_append_right _ (List.mem_append_right _ (List.mem_append_left _ hp)))
  have offL : c.L ∉ B := fun h => by
    obtain ⟨q, hq, e⟩ := List.mem_map.mp (hB _ h)
    exact (R.N q (inY q hq)).2.1 e
  have offg : ∀ b o, c.g.get? b = some o → b ∉ B := fun b o e h => by
    obtain ⟨q, hq, e'⟩ := List.mem_map.mp (hB _ h)
    rw [← e', (R.N q (inY q hq)).2.2] at e
    cases e
  have off : ∀ p, (p ∈ k.Z ∨ p ∈ k.O ∨ p ∈ k.H ∨ p ∈ X) → p.1 ∉ B := fun p hp h => by
    obtain ⟨q, hq, e⟩ := List.mem_map.mp (hB _ h)
    rcases hp with hp | hp | hp | hp
    · exact R.zo p hp q (List.mem_append_right _ (List.mem_append_right _ (List.mem_append_left _ hq))) e.symm
    · exact R.xo q (List.mem_append_left _ hq) p (List.mem_append_left _ hp) e
    · exact R.xo q (List.mem_append_left _ hq) p (List.mem_append_right _ hp) e
    · exact hXB p hp h
  refine R.dropX.heap ⟨R.F.ns.at' fun o e => hk _ o offL e, fun b o e => hk b o (offg b o e) (R.F.keep b o e), R.F.above⟩ fun q hq => ⟨hk _ _ (off q ?_) (R.dropX.N q hq).1, (R.dropX.N q hq).2⟩
  rcases List.mem_append.mp hq with h | h
  · exact .inl h
  · rcases List.mem_append.mp h with h | h
    · exact .inr (.inl h)
    · rcases List.mem_append.mp h with h | h
      · exact .inr (.inr (.inl h))
      · exact .inr (.inr (.inr h))
theorem Rel.permX {X X' : Led} {k : Cf} {σ : St} (R : Rel c X k σ) (h : ∀ p ∈ X', p ∈ X) : Rel c X' k σ :=
  { R with
    N := fun p hp => R.N p (by
      rcases List.mem_append.mp hp with h1 | h1
      · exact List.mem_append_left _ h1
      · rcases List.mem_append.mp h1 with h1 | h1
        · exact R.inO h1
        · rcases List.mem_append.mp h1 with h1 | h1
          · exact R.inH h1
          · exact List.mem_append_right _ (List.mem_append_right _ (List.mem_append_right _ (h p h1))))
    zo := fun p hp q hq => R.zo p hp q (by
      rcases List.mem_append.mp hq with h1 | h1
      · exact List.mem_append_left _ h1
      · rcases List.mem_append.mp h1 with h1 | h1
        · exact List.mem_append_right _ (List.mem_append_left _ h1)
        · exact List.mem_append_right _ (List.mem_append_right _ (h q h1)))
    xo := fun p hp q hq => R.xo p (h p hp) q hq }
def compW (f g : ET) : ET := fun σ Φ => f σ fun v σ₁ => itemsW v σ₁ fun vs σ₂ => compGo g vs [] σ₂ fun ys σ₃ => Φ (.lis ys) σ₃
def compOW (f g : ET) : ET := fun σ Φ => f σ fun v σ₁ => itemsW v σ₁ fun vs σ₂ => compGo g vs [] σ₂ fun ys σ₃ => newLW ys σ₃ Φ
theorem keeps_dict {x : Str} {px : Pos} {scope : Scope} {cl : List (Str × Addr)} {C : Addr} {env : Env} (hkind : scope.kind = .function) (hx : scope.names.lookup x = some .local) :
    Keeps1 c x px (compEnvC scope cl C env) (.dict C) C (fun o => ∃ m, LCg.NsObj o m) (fun v o => ∃ m, LCg.NsObj o m ∧ m x = some v) where
  pp := .inl rfl
  store := fun v s oa Q E hv ha hQ => by
    obtain ⟨m, hm⟩ := hv
    refine wpAny_assign_Name (wpAny_storeName_local (lookup_relabel_local hx) (hm.ns ha) (fun h' hn hs => ?_) (by simp [compEnvC, relabel, hkind]))
    obtain ⟨o, ho, hm'⟩ := LCg.ns_obj hn
    exact hQ h' _ o hs ho ⟨_, hm', if_pos rfl⟩
  hol := fun v o k hv hm => by
    obtain ⟨m, h1, h2⟩ := hv
    exact ⟨o, m, hm, h1, h2⟩
  ce := fun h => by cases h
  var := fun k v o h hu => by
    obtain ⟨o', m, h1, h2, _⟩ := h
    exact ⟨m, hu o' h1 ▸ h2⟩
theorem keeps_cell {x : Str} {px : Pos} {scope : Scope} {cl : List (Str × Addr)} {C cc : Addr} {env : Env} (hkind : scope.kind = .function) (hx : (compEnvC scope ((x, cc) :: cl) C env).kindOf x = some .cell) :
    Keeps1 c x px (compEnvC scope ((x, cc) :: cl) C env) (.cell cc) cc (fun o => ∃ v, o.data = .cell v) (fun v o => o.data = .cell (some v)) where
  pp := .inr rfl
  store := fun v s oa Q E hv ha hQ => by
    obtain ⟨v₀, hm⟩ := hv
    refine wpAny_assign_Name (wpAny_storeName_cell (by simpa [compEnvC, relabel] using hkind) hx (by simp [compEnvC]) ⟨oa, ha, hm⟩ (fun h' hn hs => ?_))
    obtain ⟨o, ho, hm'⟩ := hn
    exact hQ h' _ o hs ho hm'
  hol := fun v o k hv hm => ⟨o, hm, hv⟩
  ce := fun _ v o h => ⟨_, h⟩
  var := fun k v o h hu => by
    obtain ⟨o', h1, h2⟩ := h
    exact ⟨_, hu o' h1 ▸ h2⟩
theorem fresh_at {h : Heap} {j : Nat} (hj : h.objs.size ≤ j) : h.get? j = none := by
  cases e : h.get? j with
  | none => rfl
  | some o => exact absurd (Heap.lt_size e) (Nat.not_lt.mpr hj)
theorem Rel.offX {X : Led} {k : Cf} {σ : St} (R : Rel c X k σ) {p : Addr × Obj} (hp : p ∈ X) {j : Addr} (hj : k.h.get? j = none) : p.1 ≠ j := fun e => by
  have := (R.N p (List.mem_append_right _ (List.mem_append_right _ (List.mem_append_right _ hp)))).1
  rw [e, hj] at this
  cases this
theorem Rel.offZ {X : Led} {k : Cf} {σ : St} (R : Rel c X k σ) {j : Addr} (hj : k.h.get? j = none) : j ∉ c.zs := fun h => by
  rw [← R.za] at h
  obtain ⟨p, hp, e⟩ := List.mem_map.mp h
  have := (R.N p (List.mem_append_left _ hp)).1
  rw [e, hj] at this
  cases this
/-- the block of a comprehension whose name is a plain local -/
theorem comp_run {elt iter : Expr} {x : Str} {px pos : Pos} {scope : Scope} {cl : List (Str × Addr)} {g : ET} (ok : c.Ok) (hcell : ∀ y ∈ scope.names, y.2 ≠ .cell) (hkind : scope.kind = .function) (hx : scope.names.lookup x = some .local)
    (he : ∀ C, (c.inn x (compEnvC scope cl C c.env) (.dict C) C).Ok → SE (c.inn x (compEnvC scope cl C c.env) (.dict C) C) (eval elt (compEnvC scope cl C c.env)) g)
    {I : Addr} {n : Nat} {P : Nat → Value → Prop} {S : Led} {J : Nat → Obj → Prop} (W : Drw c I n P S J) {vs : List PV} (hn : vs.length = n) (hsz : n ≤ 1000) {X : Led} {k : Cf} {σ : St} {tk : Nat} {oI : Obj} {K : List PV → St → Prop} {RR : Value → Addr → Result → Shared → Prop} {E : Value → Shared → Prop}
    (hS : ∀ p ∈ S, p ∈ k.H) (hP : ∀ i v, i < n → P i v → ∃ pv, vs[i]? = some pv ∧ VR k.H [] pv v) (hXI : ∀ p ∈ X, p.1 ≠ I) (hf : compGo g vs [] σ K) (hJ : J 0 oI) (R : Rel c ([(I, oI)] ++ X) k σ)
    (fin : ∀ (ys : List PV) (σ' : St) (k' : Cf) (tk' : Nat) (D C : Addr) (oC : Obj) (rs : List Value) (m : Nat), K ys σ' → Rel c ([(C, oC)] ++ ([(D, lisO rs m)] ++ X)) k' σ' → Grow k k' → VRs k'.H [] ys rs → (∃ m₂, LCg.NsObj oC m₂) → (∀ p ∈ X, p.1 ≠ D ∧ p.1 ≠ C) → D ≠ C → RR (.ref D) C (.ok .next) (c.at k' tk')) :
    wpAny c.M c.A (newList []) (fun acc s₃ => wpAny c.M c.A (newFunctionEnv scope c.env.globals cl [] c.env.qual none .none (some c.env)) (fun cenv s₄ =>
      codeAny c.M c.A (.compStart (.ListComp elt [⟨.Name x px, iter, [], 0⟩] scope pos) 0 (.ref I) acc { cenv with scope := relabel scope c.env }) (RR acc cenv.locals) s₄) E s₃) E (c.at k tk) := by
  refine wpAny_newObj_type (wpAny_newFunctionEnv hcell (by intro y hy; simp at hy) (fun h₁ hns₁ hsb₁ => ?_) hkind)
  dsimp only at hns₁ hsb₁ ⊢
  generalize hD : k.h.objs.size = D at *
  generalize hH2 : k.h.push { cls := .type "list", dict := none, data := .seq ([] : List Value).toArray } = H2 at hns₁ hsb₁ ⊢
  have hC : H2.objs.size = D + 1 := by rw [← hH2, Heap.size_push, hD]
  rw [hC] at hns₁ hsb₁ ⊢
  obtain ⟨oC, hoC, hNs⟩ := LCg.ns_obj hns₁
  have hsame : ∀ b, b ≠ D + 1 → ∀ o, H2.get? b = some o → h₁.get? b = some o := fun b hb o e => hsb₁.extBut b o hb (Heap.get?_push_of_some _ e)
  have old : ∀ b o, k.h.get? b = some o → h₁.get? b = some o := fun b o e => hsame b (by
    have h1 : @LT.lt Nat _ b D := hD ▸ Heap.lt_size e
    intro q; have q' : @Eq Nat b (D + 1) := q; omega) o (hH2 ▸ Heap.get?_push_of_some _ e)
  have hacc : h₁.get? D = some (lisO [] 0) := hsame D (by intro q; have q' : @Eq Nat D (D + 1) := q; omega) _ (by
    rw [← hH2, ← hD]; exact Heap.get?_push_size _ rfl)
  have nD : k.h.get? D = none := fresh_at (by rw [hD]; exact Nat.le_refl _)
  have nC : k.h.get? (D + 1) = none := fresh_at (by rw [hD]; exact Nat.le_succ _)
  have hIlt : k.h.get? I ≠ none := fun e => by
    have := (R.N (I, oI) (List.mem_append_right _ (List.mem_append_right _ (List.mem_append_right _ (.head _))))).1
    rw [e] at this; cases this
  have hCI : D + 1 ≠ I := fun e => hIlt (e ▸ nC)
  have hDI : I ≠ D := fun e => hIlt (e ▸ nD)
  have R₁ : Rel c ([(D + 1, oC), (I, oI), (D, lisO [] 0)] ++ X) { k with h := h₁ } σ := (R.addX old (Y := [(D + 1, oC), (D, lisO [] 0)]) fun p hp => by
    rcases List.mem_cons.mp hp with rfl | hp
    · exact ⟨hoC, nC⟩
    · rw [List.mem_singleton.mp hp]; exact ⟨hacc, nD⟩).permX fun p hp => by
    rcases List.mem_cons.mp hp with rfl | hp
    · exact .head _
    · rcases List.mem_cons.mp hp with rfl | hp
      · exact .tail _ (.tail _ (.head _))
      · rcases List.mem_cons.mp hp with rfl | hp
        · exact .tail _ (.head _)
        · exact .tail _ (.tail _ (.tail _ hp))
  have hX : ∀ p ∈ X, p.1 ≠ D + 1 ∧ p.1 ≠ I ∧ p.1 ≠ D := fun p hp => ⟨R.offX (.tail _ hp) nC, hXI p hp, R.offX (.tail _ hp) nD⟩
  have haz : D + 1 ∉ c.zs := R.offZ nC
  have loop : ∀ s₃ : Shared, s₃ = c.at { k with h := h₁ } (tk + ([] : List (Str × Value)).length) →
      codeAny c.M c.A (.compLoop (.ListComp elt [⟨.Name x px, iter, [], 0⟩] scope pos) 0 (.ref I) (.ref D) (compEnvC scope cl (D + 1) c.env)) (RR (.ref D) (D + 1)) s₃ := by
    rintro s₃ rfl
    refine comp_core (k := { k with h := h₁ }) ok (keeps_dict hkind hx) haz (he (D + 1) (ok.inn (.inl rfl) haz (by simpa [compEnvC, relabel] using hkind) ok.eg ok.eb)) W hn hsz hS hP hX ⟨hCI, by intro q; have q' : @Eq Nat (D + 1) D := q; omega, hDI⟩ hf hJ ⟨_, hNs⟩ R₁ ?_
    intro ys σ' k' oa oI' rs m hK R' G' hys hv h' tk₂ hk'
    have R'' : Rel c ([(D + 1, oa)] ++ ([(D, lisO rs m)] ++ X)) { k' with h := h' } σ' := Rel.leave (Y := [(I, oI')]) (X := [(D + 1, oa)] ++ ([(D, lisO rs m)] ++ X)) (R'.permX fun p hp => by
      rcases List.mem_cons.mp hp with rfl | hp
      · exact .tail _ (.head _)
      · rcases List.mem_cons.mp hp with rfl | hp
        · exact .head _
        · exact .tail _ (.tail _ hp)) [I] (fun b hb => hb) (fun p hp hm => by
      have hm' : p.1 = I := List.mem_singleton.mp hm
      rcases List.mem_cons.mp hp with rfl | hp
      · exact hCI hm'
      · rcases List.mem_cons.mp hp with rfl | hp
        · exact hDI hm'.symm
        · exact (hX p hp).2.1 hm') (fun b o hb e => hk' b o (fun q => hb (q ▸ .head _)) e)
    exact fin ys σ' { k' with h := h' } tk₂ D (D + 1) oa rs m hK R'' ⟨fun p hp => G'.h p hp, fun i b e => G'.a i b e⟩ hys hv (fun p hp => ⟨(hX p hp).2.2, (hX p hp).1⟩) (by intro q; have q' : @Eq Nat D (D + 1) := q; omega)
  exact codeAny_compStart_list (loop _ rfl) (W.self 0 _ _ _ _ hJ (R₁.N _ (List.mem_append_right _ (List.mem_append_right _ (List.mem_append_right _ (.tail _ (.head _)))))).1 (fun p hp => (R₁.N p (R₁.inH (hS p hp))).1) (loop _ rfl))
/-- the block of a comprehension whose name is a cell -/
theorem comp_runC {elt iter : Expr} {x : Str} {px pos : Pos} {scope : Scope} {cl : List (Str × Addr)} {g : ET} (ok : c.Ok) (hp : ∀ h, pushCells h scope.names = h.push { cls := .type "cell", data := .cell none }) (hc : ∀ n, cellsFrom n scope.names cl = (x, n) :: cl)
    (hkind : scope.kind = .function) (hx : ∀ C cc, (compEnvC scope ((x, cc) :: cl) C c.env).kindOf x = some .cell)
    (he : ∀ C cc, (c.inn x (compEnvC scope ((x, cc) :: cl) C c.env) (.cell cc) cc).Ok → SE (c.inn x (compEnvC scope ((x, cc) :: cl) C c.env) (.cell cc) cc) (eval elt (compEnvC scope ((x, cc) :: cl) C c.env)) g)
    {I : Addr} {n : Nat} {P : Nat → Value → Prop} {S : Led} {J : Nat → Obj → Prop} (W : Drw c I n P S J) {vs : List PV} (hn : vs.length = n) (hsz : n ≤ 1000) {X : Led} {k : Cf} {σ : St} {tk : Nat} {oI : Obj} {K : List PV → St → Prop} {RR : Value → Addr → Result → Shared → Prop} {E : Value → Shared → Prop}
    (hS : ∀ p ∈ S, p ∈ k.H) (hP : ∀ i v, i < n → P i v → ∃ pv, vs[i]? = some pv ∧ VR k.H [] pv v) (hXI : ∀ p ∈ X, p.1 ≠ I) (hf : compGo g vs [] σ K) (hJ : J 0 oI) (R : Rel c ([(I, oI)] ++ X) k σ)
    (fin : ∀ (ys : List PV) (σ' : St) (k' : Cf) (tk' : Nat) (D C : Addr) (oC : Obj) (rs : List Value) (m : Nat), K ys σ' → Rel c ([(C, oC)] ++ ([(D, lisO rs m)] ++ X)) k' σ' → Grow k k' → VRs k'.H [] ys rs → (∃ m₂, LCg.NsObj oC m₂) → (∀ p ∈ X, p.1 ≠ D ∧ p.1 ≠ C) → D ≠ C → RR (.ref D) C (.ok .next) (c.at k' tk')) :
    wpAny c.M c.A (newList []) (fun acc s₃ => wpAny c.M c.A (newFunctionEnv scope c.env.globals cl [] c.env.qual none .none (some c.env)) (fun cenv s₄ =>
      codeAny c.M c.A (.compStart (.ListComp elt [⟨.Name x px, iter, [], 0⟩] scope pos) 0 (.ref I) acc { cenv with scope := relabel scope c.env }) (RR acc cenv.locals) s₄) E s₃) E (c.at k tk) := by
  refine wpAny_newObj_type (newEnv_one hp hc ?_)
  dsimp only
  generalize hD : k.h.objs.size = D at *
  generalize hH1 : k.h.push { cls := .type "list", dict := none, data := .seq ([] : List Value).toArray } = H1 at *
  have hs1 : H1.objs.size = D + 1 := by rw [← hH1, Heap.size_push, hD]
  generalize hH2 : H1.push { cls := .type "dict", data := .dict #[] } = H2 at *
  have hs2 : H2.objs.size = D + 2 := by rw [← hH2, Heap.size_push, hs1]
  generalize hH3 : H2.push { cls := .type "cell", data := .cell none } = h₁ at *
  rw [hs1]
  have old : ∀ b o, k.h.get? b = some o → h₁.get? b = some o := fun b o e => by
    rw [← hH3, ← hH2, ← hH1]
    exact Heap.get?_push_of_some _ (Heap.get?_push_of_some _ (Heap.get?_push_of_some _ e))
  have hacc : h₁.get? D = some (lisO [] 0) := by
    rw [← hH3, ← hH2]
    refine Heap.get?_push_of_some _ (Heap.get?_push_of_some _ ?_)
    rw [← hH1, ← hD]
    exact Heap.get?_push_size _ rfl
  have hns : h₁.Ns (D + 1) (fun _ => none) := by
    have h1 := Heap.Ns.new H1 (.type "dict")
    rw [hs1] at h1
    have e : h₁ = (H1.push { cls := .type "dict", data := .dict #[] }).push { cls := .type "cell", data := .cell none } := by rw [← hH3, ← hH2]
    rw [e]
    exact h1.keeps fun b o e => Heap.get?_push_of_some _ e
  obtain ⟨oC, hoC, hNs⟩ := LCg.ns_obj hns
  have hcc : h₁.get? (D + 2) = some { cls := .type "cell", data := .cell none } := by
    rw [← hH3, ← hs2]
    exact Heap.get?_push_size _ rfl
  have nD : k.h.get? D = none := fresh_at (by rw [hD]; exact Nat.le_refl _)
  have nC : k.h.get? (D + 1) = none := fresh_at (by rw [hD]; exact Nat.le_succ _)
  have nc : k.h.get? (D + 2) = none := fresh_at (by rw [hD]; show D ≤ D + 2; omega)
  have hIlt : k.h.get? I ≠ none := fun e => by
    have := (R.N (I, oI) (List.mem_append_right _ (List.mem_append_right _ (List.mem_append_right _ (.head _))))).1
    rw [e] at this; cases this
  have hCI : D + 1 ≠ I := fun e => hIlt (e ▸ nC)
  have hcI : D + 2 ≠ I := fun e => hIlt (e ▸ nc)
  have hDI : I ≠ D := fun e => hIlt (e ▸ nD)
  have R₁ : Rel c ([(D + 2, ({ cls := .type "cell", data := .cell none } : Obj)), (I, oI), (D, lisO [] 0)] ++ ([(D + 1, oC)] ++ X)) { k with h := h₁ } σ := (R.addX old (Y := [(D + 2, ({ cls := .type "cell", data := .cell none } : Obj)), (D, lisO [] 0), (D + 1, oC)]) fun p hp => by
    rcases List.mem_cons.mp hp with rfl | hp
    · exact ⟨hcc, nc⟩
    · rcases List.mem_cons.mp hp with rfl | hp
      · exact ⟨hacc, nD⟩
      · rw [List.mem_singleton.mp hp]; exact ⟨hoC, nC⟩).permX fun p hp => by
    rcases List.mem_cons.mp hp with rfl | hp
    · exact .head _
    · rcases List.mem_cons.mp hp with rfl | hp
      · exact .tail _ (.tail _ (.tail _ (.head _)))
      · rcases List.mem_cons.mp hp with rfl | hp
        · exact .tail _ (.head _)
        · rcases List.mem_cons.mp hp with rfl | hp
          · exact .tail _ (.tail _ (.head _))
          · exact .tail _ (.tail _ (.tail _ (.tail _ hp)))
  have hX : ∀ p ∈ X, p.1 ≠ D + 2 ∧ p.1 ≠ I ∧ p.1 ≠ D ∧ p.1 ≠ D + 1 := fun p hp => ⟨R.offX (.tail _ hp) nc, hXI p hp, R.offX (.tail _ hp) nD, R.offX (.tail _ hp) nC⟩
  have hX' : ∀ p ∈ [(D + 1, oC)] ++ X, p.1 ≠ D + 2 ∧ p.1 ≠ I ∧ p.1 ≠ D := fun p hp => by
    rcases List.mem_cons.mp hp with rfl | hp
    · exact ⟨by intro q; have q' : @Eq Nat (D + 1) (D + 2) := q; omega, hCI, by intro q; have q' : @Eq Nat (D + 1) D := q; omega⟩
    · have z := hX p hp; exact ⟨z.1, z.2.1, z.2.2.1⟩
  have haz : D + 2 ∉ c.zs := R.offZ nc
  have loop : ∀ (tk₁ : Nat) (s₃ : Shared), s₃ = c.at { k with h := h₁ } tk₁ →
      codeAny c.M c.A (.compLoop (.ListComp elt [⟨.Name x px, iter, [], 0⟩] scope pos) 0 (.ref I) (.ref D) (compEnvC scope ((x, D + 2) :: cl) (D + 1) c.env)) (RR (.ref D) (D + 1)) s₃ := by
    rintro tk₁ s₃ rfl
    refine comp_core (k := { k with h := h₁ }) ok (keeps_cell hkind (hx _ _)) haz (he (D + 1) (D + 2) (ok.inn (.inr rfl) haz (by simpa [compEnvC, relabel] using hkind) ok.eg ok.eb)) W hn hsz hS hP hX' ⟨hcI, by intro q; have q' : @Eq Nat (D + 2) D := q; omega, hDI⟩ hf hJ ⟨_, rfl⟩ R₁ ?_
    intro ys σ' k' oa oI' rs m hK R' G' hys hv h' tk₂ hk'
    have R'' : Rel c ([(D + 1, oC)] ++ ([(D, lisO rs m)] ++ X)) { k' with h := h' } σ' := Rel.leave (Y := [(I, oI')]) (X := [(D + 1, oC)] ++ ([(D, lisO rs m)] ++ X)) (R'.permX fun p hp => by
      rcases List.mem_cons.mp hp with rfl | hp
      · exact .tail _ (.head _)
      · rcases List.mem_cons.mp hp with rfl | hp
        · exact .tail _ (.tail _ (.tail _ (.head _)))
        · rcases List.mem_cons.mp hp with rfl | hp
          · exact .tail _ (.tail _ (.head _))
          · exact .tail _ (.tail _ (.tail _ (.tail _ hp)))) [I] (fun b hb => hb) (fun p hp hm => by
      have hm' : p.1 = I := List.mem_singleton.mp hm
      rcases List.mem_cons.mp hp with rfl | hp
      · exact hCI hm'
      · rcases List.mem_cons.mp hp with rfl | hp
        · exact hDI hm'.symm
        · exact (hX p hp).2.1 hm') (fun b o hb e => hk' b o (fun q => hb (q ▸ .head _)) e)
    exact fin ys σ' { k' with h := h' } tk₂ D (D + 1) oC rs m hK R'' ⟨fun p hp => G'.h p hp, fun i b e => G'.a i b e⟩ hys ⟨_, hNs⟩ (fun p hp => ⟨(hX p hp).2.2.1, (hX p hp).2.2.2⟩) (by intro q; have q' : @Eq Nat D (D + 1) := q; omega)
  exact codeAny_compStart_list (loop _ _ rfl) (W.self 0 _ _ _ _ hJ (R₁.N _ (List.mem_append_right _ (List.mem_append_right _ (List.mem_append_right _ (.tail _ (.head _)))))).1 (fun p hp => (R₁.N p (R₁.inH (hS p hp))).1) (loop _ _ rfl))
/-- the end of a comprehension whose list is handed on -/
theorem comp_fin {X : Led} {k : Cf} {K : List PV → St → Prop} {Q : Value → Shared → Prop} {E : Value → Shared → Prop} (fin : ∀ (ys : List PV) (σ' : St) (k' : Cf) (tk' : Nat) (D : Addr) (rs : List Value) (m : Nat), K ys σ' → Rel c ([(D, lisO rs m)] ++ X) k' σ' → Grow k k' → VRs k'.H [] ys rs → (∀ p ∈ X, p.1 ≠ D) → Q (.ref D) (c.at k' tk'))
    (ys : List PV) (σ' : St) (k' : Cf) (tk' : Nat) (D C : Addr) (oC : Obj) (rs : List Value) (m : Nat) (hK : K ys σ') (R : Rel c ([(C, oC)] ++ ([(D, lisO rs m)] ++ X)) k' σ') (G : Grow k k') (V : VRs k'.H [] ys rs) (hC : ∃ m₂, LCg.NsObj oC m₂) (hX : ∀ p ∈ X, p.1 ≠ D ∧ p.1 ≠ C) (hDC : D ≠ C) :
    compPost c.M c.A E none Q (.ref D) C (.ok .next) (c.at k' tk') := by
  obtain ⟨m₂, h₂⟩ := hC
  refine ⟨m₂, h₂.ns (R.N _ (List.mem_append_right _ (List.mem_append_right _ (List.mem_append_right _ (.head _))))).1, fun h'' hs'' => ?_⟩
  refine fin ys σ' { k' with h := h'' } tk' D rs m hK (Rel.leave R [C] (fun b hb => hb) (fun p hp hm => ?_) fun b o hb e => (hs''.2 b (fun q => hb (q ▸ .head _))).trans e) ⟨fun p hp => G.h p hp, fun i b e => G.a i b e⟩ V fun p hp => (hX p hp).1
  have hm' : p.1 = C := List.mem_singleton.mp hm
  rcases List.mem_cons.mp hp with rfl | hp
  · exact hDC hm'
  · exact (hX p hp).2 hm'
/-- the end of a comprehension whose list is stored first -/
theorem comp_finU {y : Str} {py : Pos} {h : PV → UT} (hst : STt c (storeName c.env y) h) {X : Led} {k : Cf} {Φ : Fl → St → Prop} {Q : Flow → Shared → Prop} {E : Value → Shared → Prop} (post : Post c X k FlR Φ Q)
    (ys : List PV) (σ' : St) (k' : Cf) (tk' : Nat) (D C : Addr) (oC : Obj) (rs : List Value) (m : Nat) (hK : h (.lis ys) σ' fun _ σ'' => Φ .next σ'') (R : Rel c ([(C, oC)] ++ ([(D, lisO rs m)] ++ X)) k' σ') (G : Grow k k') (V : VRs k'.H [] ys rs) (hC : ∃ m₂, LCg.NsObj oC m₂) (hX : ∀ p ∈ X, p.1 ≠ D ∧ p.1 ≠ C) (hDC : D ≠ C) :
    compPost c.M c.A E (some (assign (.Name y py) c.env)) (fun _ => Q .next) (.ref D) C (.ok .next) (c.at k' tk') := by
  obtain ⟨m₂, h₂⟩ := hC
  have R₁ : Rel c ([(C, oC)] ++ X) { k' with H := (D, lisO rs m) :: k'.H } σ' := (R.permX (X' := [(D, lisO rs m)] ++ ([(C, oC)] ++ X)) fun p hp => by
    rcases List.mem_cons.mp hp with rfl | hp
    · exact .tail _ (.head _)
    · rcases List.mem_cons.mp hp with rfl | hp
      · exact .head _
      · exact .tail _ (.tail _ hp)).takeH fun p hp => by
    rcases List.mem_cons.mp hp with rfl | hp
    · exact Ne.symm hDC
    · exact (hX p hp).1
  refine PyProof.Rows.assign_Name (hst _ { k' with H := (D, lisO rs m) :: k'.H } σ' tk' (.lis ys) (.ref D) _ _ E hK R₁ (.lis (.head _) (V.mono (fun p hp => .tail _ hp) fun _ _ h => h)) fun _ σ₂ k₂ tk₂ _ hf₂ R₂ G₂ _ => ?_)
  refine ⟨m₂, h₂.ns (R₂.N _ (List.mem_append_right _ (List.mem_append_right _ (List.mem_append_right _ (.head _))))).1, fun h'' hs'' => ?_⟩
  exact post _ _ { k₂ with h := h'' } _ _ hf₂ (Rel.leave R₂ [C] (fun b hb => hb) (fun p hp hm => (hX p hp).2 (List.mem_singleton.mp hm)) fun b o hb e => (hs''.2 b (fun q => hb (q ▸ .head _))).trans e)
    ⟨fun p hp => G₂.h p (.tail _ (G.h p hp)), fun i b e => G₂.a i b (G.a i b e)⟩ .next
theorem comp_finH {X : Led} {k : Cf} {Φ : PV → St → Prop} {Q : Value → Shared → Prop} (post : Post c X k VV Φ Q) (ys : List PV) (σ' : St) (k' : Cf) (tk' : Nat) (D : Addr) (rs : List Value) (m : Nat) (hK : Φ (.lis ys) σ') (R : Rel c ([(D, lisO rs m)] ++ X) k' σ') (G : Grow k k') (V : VRs k'.H [] ys rs) (hX : ∀ p ∈ X, p.1 ≠ D) : Q (.ref D) (c.at k' tk') :=
  post _ _ { k' with H := (D, lisO rs m) :: k'.H } _ _ hK (R.takeH hX) ⟨fun p hp => .tail _ (G.h p hp), G.a⟩ (.lis (.head _) (V.mono (fun p hp => .tail _ hp) fun _ _ h => h))
theorem comp_finO {X : Led} {k : Cf} {Φ : PV → St → Prop} {Q : Value → Shared → Prop} (post : Post c X k VV Φ Q) (ys : List PV) (σ' : St) (k' : Cf) (tk' : Nat) (D : Addr) (rs : List Value) (m : Nat) (hK : newLW ys σ' Φ) (R : Rel c ([(D, lisO rs m)] ++ X) k' σ') (G : Grow k k') (V : VRs k'.H [] ys rs) (hX : ∀ p ∈ X, p.1 ≠ D) : Q (.ref D) (c.at k' tk') :=
  post _ _ { k' with O := k'.O ++ [(D, lisO rs m)] } _ _ (newLW_eq ▸ hK).2 (R.takeO hX (V.mono (fun _ h => h) fun _ _ h => by simp at h)) (G.trans (Grow.newO (h' := k'.h))) (.own (own_at R.ol))
theorem se_comp {elt iter : Expr} {x : Str} {px pos : Pos} {scope : Scope} {cl : List (Str × Addr)} {f g : ET} (ok : c.Ok) (hi : SE c (eval iter c.env) f) (hclos : closureFor scope c.env = pure cl) (hcell : ∀ y ∈ scope.names, y.2 ≠ .cell) (hkind : scope.kind = .function) (hnames : ∀ y ∈ scope.names, y.2 = .local → scope.names.lookup y.1 = some .local) (hx : scope.names.lookup x = some .local)
    (he : ∀ C, (c.inn x (compEnvC scope cl C c.env) (.dict C) C).Ok → SE (c.inn x (compEnvC scope cl C c.env) (.dict C) C) (eval elt (compEnvC scope cl C c.env)) g) (hs : ∀ x, foldedSetIterable iter c.env x = pure x) :
    SE c (eval (.ListComp elt [⟨.Name x px, iter, [], 0⟩] scope pos) c.env) (compW f g) := by
  intro X k σ tk Φ Q E hf R post
  rw [eval_ListComp]
  refine wpAny_comprehension_free (use := none) rfl hs hclos hkind hnames (hi.run hf R fun v σ₁ k₁ tk₁ r hf₁ R₁ G₁ V₁ => iter_run hf₁ R₁ V₁ fun I n P S J oI vs h' hf₂ W hn hsz hS hP hJ nI R₂ => ?_)
  exact comp_run ok hcell hkind hx he W hn hsz hS hP (fun p hp => R₁.offX hp nI) hf₂ hJ R₂ (comp_fin (comp_finH (post.up (G₁.trans .heap))))
theorem se_compO {elt iter : Expr} {x : Str} {px pos : Pos} {scope : Scope} {cl : List (Str × Addr)} {f g : ET} (ok : c.Ok) (hi : SE c (eval iter c.env) f) (hclos : closureFor scope c.env = pure cl) (hcell : ∀ y ∈ scope.names, y.2 ≠ .cell) (hkind : scope.kind = .function) (hnames : ∀ y ∈ scope.names, y.2 = .local → scope.names.lookup y.1 = some .local) (hx : scope.names.lookup x = some .local)
    (he : ∀ C, (c.inn x (compEnvC scope cl C c.env) (.dict C) C).Ok → SE (c.inn x (compEnvC scope cl C c.env) (.dict C) C) (eval elt (compEnvC scope cl C c.env)) g) (hs : ∀ x, foldedSetIterable iter c.env x = pure x) :
    SE c (eval (.ListComp elt [⟨.Name x px, iter, [], 0⟩] scope pos) c.env) (compOW f g) := by
  intro X k σ tk Φ Q E hf R post
  rw [eval_ListComp]
  refine wpAny_comprehension_free (use := none) rfl hs hclos hkind hnames (hi.run hf R fun v σ₁ k₁ tk₁ r hf₁ R₁ G₁ V₁ => iter_run hf₁ R₁ V₁ fun I n P S J oI vs h' hf₂ W hn hsz hS hP hJ nI R₂ => ?_)
  exact comp_run ok hcell hkind hx he W hn hsz hS hP (fun p hp => R₁.offX hp nI) hf₂ hJ R₂ (comp_fin (comp_finO (post.up (G₁.trans .heap))))
theorem se_compC {elt iter : Expr} {x : Str} {px pos : Pos} {scope : Scope} {cl : List (Str × Addr)} {f g : ET} (ok : c.Ok) (hi : SE c (eval iter c.env) f) (hclos : closureFor scope c.env = pure cl) (hp : ∀ h, pushCells h scope.names = h.push { cls := .type "cell", data := .cell none }) (hc : ∀ n, cellsFrom n scope.names cl = (x, n) :: cl)
    (hkind : scope.kind = .function) (hnames : ∀ y ∈ scope.names, y.2 = .local → scope.names.lookup y.1 = some .local) (hx : ∀ C cc, (compEnvC scope ((x, cc) :: cl) C c.env).kindOf x = some .cell)
    (he : ∀ C cc, (c.inn x (compEnvC scope ((x, cc) :: cl) C c.env) (.cell cc) cc).Ok → SE (c.inn x (compEnvC scope ((x, cc) :: cl) C c.env) (.cell cc) cc) (eval elt (compEnvC scope ((x, cc) :: cl) C c.env)) g) (hs : ∀ x, foldedSetIterable iter c.env x = pure x) :
    SE c (eval (.ListComp elt [⟨.Name x px, iter, [], 0⟩] scope pos) c.env) (compW f g) := by
  intro X k σ tk Φ Q E hf R post
  rw [eval_ListComp]
  refine wpAny_comprehension_free (use := none) rfl hs hclos hkind hnames (hi.run hf R fun v σ₁ k₁ tk₁ r hf₁ R₁ G₁ V₁ => iter_run hf₁ R₁ V₁ fun I n P S J oI vs h' hf₂ W hn hsz hS hP hJ nI R₂ => ?_)
  exact comp_runC ok hp hc hkind hx he W hn hsz hS hP (fun p hp => R₁.offX hp nI) hf₂ hJ R₂ (comp_fin (comp_finH (post.up (G₁.trans .heap))))
/-- name = [..], the name stored before the block is left -/
def compUW (f g : ET) (h : PV → UT) : ST := fun σ Φ => f σ fun v σ₁ => itemsW v σ₁ fun vs σ₂ => compGo g vs [] σ₂ fun ys σ₃ => h (.lis ys) σ₃ fun _ σ₄ => Φ .next σ₄
theorem ss_comp {y : Str} {py spos : Pos} {h : PV → UT} {elt iter : Expr} {x : Str} {px pos : Pos} {scope : Scope} {cl : List (Str × Addr)} {f g : ET} (ok : c.Ok) (hst : STt c (storeName c.env y) h) (hsw : swapsWith (.ListComp elt [⟨.Name x px, iter, [], 0⟩] scope pos) (some (.Name y py)) spos.line c.env = pure true)
    (hi : SE c (eval iter c.env) f) (hclos : closureFor scope c.env = pure cl) (hcell : ∀ y ∈ scope.names, y.2 ≠ .cell) (hkind : scope.kind = .function) (hnames : ∀ y ∈ scope.names, y.2 = .local → scope.names.lookup y.1 = some .local) (hx : scope.names.lookup x = some .local)
    (he : ∀ C, (c.inn x (compEnvC scope cl C c.env) (.dict C) C).Ok → SE (c.inn x (compEnvC scope cl C c.env) (.dict C) C) (eval elt (compEnvC scope cl C c.env)) g) (hs : ∀ x, foldedSetIterable iter c.env x = pure x) :
    SS c (exec (.Assign [.Name y py] (.ListComp elt [⟨.Name x px, iter, [], 0⟩] scope pos) spos) c.env) (compUW f g h) := by
  intro X k σ tk Φ Q E hf R post
  rw [exec_Assign_Name_used _ _ _ _ hsw]
  refine wpAny_bind (wpAny_standAt (wpAny_bind ?_))
  show wpAny _ c.A (do let _ ← comprehension (.ListComp elt [⟨.Name x px, iter, [], 0⟩] scope pos) scope c.env _ (newList []) false (eval iter c.env) (some (assign (.Name y py) c.env))) _ _ _
  refine wpAny_bind (wpAny_mono (wpAny_comprehension_free (use := some (assign (.Name y py) c.env)) (Q := fun _ s' => Q .next s') (E := E) rfl hs hclos hkind hnames (hi.run hf R fun v σ₁ k₁ tk₁ r hf₁ R₁ G₁ V₁ => iter_run hf₁ R₁ V₁ fun I n P S J oI vs h' hf₂ W hn hsz hS hP hJ nI R₂ => ?_)) (fun _ s' hq => wpAny_pure (wpAny_pure hq)) fun _ _ e => e)
  exact comp_run ok hcell hkind hx he W hn hsz hS hP (fun p hp => R₁.offX hp nI) hf₂ hJ R₂ (comp_finU hst (post.up (G₁.trans .heap)))
end
/-! the text -/
def stAt (n : Nat) : Stmt := (PySem.Challenge.pw_xw0113_01.main.body[n]?).getD (.Pass ⟨0, 0, 0, 0⟩)
def dArgs (n : Nat) : Arguments := match stAt n with
  | .FunctionDef _ a _ _ _ _ _ _ _ _ => a
  | _ => ⟨[], [], none, [], [], none, []⟩
def dBody (n : Nat) : List Stmt := match stAt n with
  | .FunctionDef _ _ b _ _ _ _ _ _ _ => b
  | _ => []
def dScope (n : Nat) : Scope := match stAt n with
  | .FunctionDef _ _ _ _ _ _ s _ _ _ => s
  | _ => ⟨.module, [], false, false, []⟩
theorem plc_frame {scope : Scope} {x : Str} (h : scope.names.lookup x = some .local) {L : Addr} : plc scope L x = .frame := by
  unfold plc; rw [h]
theorem plc_cell {scope : Scope} {x : Str} {a : Addr} {cl : List (Str × Addr)} (h : scope.names.lookup x = some .cell) {L : Addr} (hc : cellsFrom (L + 1) scope.names [] = cl) (ha : cl.lookup x = some a) : plc scope L x = .cell a := by
  unfold plc; rw [h, hc, ha]; rfl
theorem slOf_nil {scope : Scope} {L : Addr} : slOf scope L [] = [] := rfl
theorem slOf_cons {scope : Scope} {L : Addr} {x : Str} {xs : List Str} {p : Place} {l : List (Str × Place)} (h : plc scope L x = p) (h2 : slOf scope L xs = l) : slOf scope L (x :: xs) = (x, p) :: l := by
  rw [← h, ← h2]; rfl
/-! shapes of transformers -/
def cutsW (f : ET) (g : Option ET) : ET := fun σ Φ => f σ fun a σ₁ => partW g σ₁ fun b σ₂ => cutW a b σ₂ Φ
def ownsW (f : LT) : ET := fun σ Φ => f σ fun vs σ' => newLW vs σ' Φ
def froW (f : LT) : ET := fun σ Φ => f σ fun vs σ' => newFW vs σ' Φ
def tupsW (f : LT) : ET := fun σ Φ => f σ fun vs σ' => newTW vs σ' Φ
/-! a call that changes the one own list handed in -/
abbrev NW := List PV → List PV → (Int → List PV → Prop) → Prop
structure MeetsN (D : Rn) (f : Addr) (d : Nat) (W : NW) : Prop where
  fn : FnIn D.K f
  run : ∀ (dp un : Nat) (gd : Option (List Code)) (cn : Str) (cs : Scope) (a : Addr) (ccd : Value) (cl : List (Str × Addr)) (outer : List Env) (A₀ : Around) (base h₀ : Heap) (L : Addr) (m : Str → Option Value) (s : Shared)
    (Q E : Value → Shared → Prop) (H : Led) (y : Addr) (ys : List Value) (n : Nat) (us vs : List PV) (rs : List Value) (φ : Int → List PV → Prop),
    Below A₀ base outer h₀ → Fr h₀ L s.heap m → D.K.In h₀ → News h₀ L s.heap ((y, lisO ys n) :: H) → (∀ p ∈ H, y ≠ p.1) → TopRead D.p D.loose D.mg D.mb h₀ → cs.kind = .function → dp + d < recursionLimit → un + 8 * d < cLine →
    (∀ p ∈ D.fx, p ∈ H) → W vs us φ → VRs H [y] vs rs → VRs H [] us ys →
    (∀ x t us' ys' n' H' h' tk', φ x us' → Fr h₀ L h' m → (∀ b o, b ≠ y → s.heap.get? b = some o → h'.get? b = some o) → h'.get? y = some (lisO ys' n') → News h₀ L h' H' → (∀ p ∈ H, p ∈ H') → (∀ p ∈ H', p ∈ H ∨ s.heap.get? p.1 = none) → VRs H' [] us' ys' → Q (.int x t) { s with heap := h', toks := tk' }) →
    wpAny (model D.prog D.w) (ktrTop dp un gd cn cs L a ccd cl outer) (call (.ref f) rs) Q E s
def goN (W : NW) (vs : List PV) : ET := fun σ Φ => match vs, σ with
  | [.own i, .int z], ⟨l, o, true⟩ => match o[i]? with
    | some us => fzsC [] us fun us' => W [.own 0, .int z] us' fun x us₂ => chgW i us₂ ⟨l, o, true⟩ (Φ (.int x))
    | none => False
  | _, _ => False
theorem sa_goN {c : Cx} {a : Addr} {d : Nat} {W : NW} (ok : c.Ok) (M : MeetsN c.D a d W) (hd : d ≤ c.d) : SA c (cal (.ref a)) (goN W) := by
  intro X k σ tk vs rs Φ Q E hf R V post
  unfold goN at hf
  split at hf
  · rename_i i z l o
    split at hf
    · rename_i us hu
      cases V with
      | cons v V =>
      cases V with
      | cons v' V =>
      cases V
      cases v' with
      | int z t =>
      obtain ⟨x, ss, n, rfl, hO, hV⟩ := R.own (i := i) hu v
      obtain ⟨us', hu1, hw⟩ := fzsC_of hf
      have h1 := ok.hd
      have h2 := ok.hu
      have hm := List.mem_of_getElem? hO
      refine M.run _ _ _ _ _ _ _ _ _ _ _ _ _ _ _ _ _ k.H x ss n us' [.own 0, .int z] _ _ ok.B R.F ok.K (fun p hp => ?_) (fun p hp => R.oh rfl _ hm p hp) ok.T ok.k (by omega) (by omega) R.fx hw (.cons (.own rfl) (.cons (.int z t) .nil)) (mapM_vrs (fz0_vr 9) hu1 hV) fun y t' us₂ ys' n' H' h' tk' hv F' hk ho N' hH new V' => ?_
      · rcases List.mem_cons.mp hp with rfl | hp
        · exact R.N _ (R.inO hm)
        · exact R.N p (R.inH hp)
      · rw [chgW_eq] at hv
        refine post (.int y) _ { k with H := H', O := swp x (lisO ys' n') k.O, h := h' } tk' _ hv (R.setOH rfl hO (V'.mono (fun _ h => h) fun _ _ h => by simp at h) hk ho hH N' new) ⟨hH, fun i b h => ?_⟩ (.int _ _)
        show ((swp x (lisO ys' n') k.O).map (·.1))[i]? = some b
        rw [swp_map]; exact h
    · exact hf.elim
  · exact hf.elim
def finN (φ : Int → List PV → Prop) : Fl → St → Prop := fun fl σ => match fl, σ with
  | .ret (.int x), ⟨_, [us], true⟩ => fzsC [] us fun us' => φ x us'
  | _, _ => False
def defN (n m : Nat) (f : ST) : NW := fun vs us φ => vs.length = n ∧ startC vs m fun l => f ⟨l, [us], true⟩ (finN φ)
theorem startN_of {vs us : List PV} {n : Nat} {g : ST} {Φ : Fl → St → Prop} (h : startC vs n fun l => g ⟨l, [us], true⟩ Φ) : g { startSt vs n with obs := [us] } Φ := by rw [startC_eq] at h; exact h
theorem meetsN_of {D : Rn} {f : Addr} {d : Nat} {name : Str} {params : Arguments} {body : List Stmt} {scope : Scope} {cdv : Value} {ps os : List Str} {g : ST} {sl : Addr → List (Str × Place)} {cl : Addr → List (Str × Addr)} (hD : DefIn D.K f name params body scope cdv)
    (hbind : ∀ (rs : List Value) (doc pm : Value) (an : Option Addr), rs.length = ps.length → bindArgs (fnOf name name params body scope .none .none doc pm an cdv .none) ⟨rs, []⟩ = pure (ps.zip rs))
    (hkind : ((ps ++ os).all fun y => scope.names.lookup y == some .local || scope.names.lookup y == some .cell) = true) (hnd : (ps ++ os).Nodup) (hnc : ((cellsFrom 0 scope.names []).map (·.1)).Nodup)
    (hco : scope.isCoroutine = false) (hgen : scope.isGenerator = false) (hk : scope.kind = .function) (hcl : ∀ L, cellsFrom (L + 1) scope.names [] = cl L) (hsl : ∀ L, slOf scope L (ps ++ os) = sl L)
    (hbody : ∀ (dp un : Nat) (gd : Option (List Code)) (outer : List Env) (gg base : Heap) (A₀ : Around) (s0 : Shared) (L : Addr), (mkC D dp un gd outer gg base A₀ s0 d name scope L f cdv (cl L) (sl L) ((cl L).map (·.2))).Ok →
      SS (mkC D dp un gd outer gg base A₀ s0 d name scope L f cdv (cl L) (sl L) ((cl L).map (·.2))) (execs body (envX name scope L f cdv (cl L))) g) : MeetsN D f (d + 1) (defN ps.length os.length g) := by
  obtain ⟨oc, od, osl, doc, pm, an, hK⟩ := hD.at'
  refine ⟨⟨oc, od, _, osl, hK⟩, ?_⟩
  intro dp un gd cn cs a ccd cl' outer A₀ base h₀ L m s Q E H yy ys ny us vs rs φ B F Xi N hyH T hck hd hu fx hW V VU' ret
  have RET : ∀ gg, gg = hideAll s.heap (((yy, lisO ys ny) :: H).map (fun x : Addr × Obj => x.1)) → ∀ (x : Int) (t : Tok) s', (∃ h tk m' Y ys' n' us', s' = { s with heap := h, toks := tk } ∧ Fr gg s.heap.objs.size h m' ∧ News gg s.heap.objs.size h ((yy, lisO ys' n') :: Y) ∧ (∀ p ∈ H, p ∈ Y) ∧ (∀ p ∈ Y, yy ≠ p.1) ∧ φ x us' ∧ VRs Y [] us' ys') →
      LeaveK h₀ L m gg (fun r s' => match r with | .ok (.ret v) => Q v s' | .ok _ => False | .error e => E e s') (.int x t) s' := by
    rintro gg rfl x t s' ⟨hh, tk, m', Y, ys', n', us', rfl, F', N', hX, hne, hp, hv⟩
    refine ⟨s.heap.objs.size, m', (yy, lisO ys' n') :: Y, F', N', fun F₂ N₂ => ?_⟩
    refine ret x t us' ys' n' Y hh tk hp F₂ (fun b o hb e => ?_) (N' _ (.head _)).1 (fun p hp => N₂ p (.tail _ hp)) hX (fun q hq => ?_) hv
    · by_cases hm : b ∈ ((yy, lisO ys ny) :: H).map (fun x : Addr × Obj => x.1)
      · obtain ⟨q, hq, rfl⟩ := List.mem_map.mp hm
        have h1 := (N q hq).1
        rw [e] at h1
        cases h1
        rcases List.mem_cons.mp hq with rfl | hq
        · exact absurd rfl hb
        · exact (N' q (.tail _ (hX q hq))).1
      · exact F'.keep b o (hideAll_get _ e hm)
    · have h1 := (N' q (.tail _ hq)).2.2
      by_cases hm : q.1 ∈ ((yy, lisO ys ny) :: H).map (fun x : Addr × Obj => x.1)
      · left
        obtain ⟨p, hp, e⟩ := List.mem_map.mp hm
        rcases List.mem_cons.mp hp with rfl | hp
        · exact absurd e (hne q hq)
        · have e1 := (N' p (.tail _ (hX p hp))).1
          have e2 := (N' q (.tail _ hq)).1
          rw [e] at e1
          have e1' := e1.symm.trans e2
          have : p = q := Prod.ext e (Option.some.inj e1')
          exact this ▸ hp
      · right
        cases e : s.heap.get? q.1 with
        | none => rfl
        | some o => rw [hideAll_get _ e hm] at h1; cases h1
  refine wpAny_call ?_
  obtain ⟨FG, BG, st, lv⟩ := groundX (R := fun r s' => match r with | .ok (.ret v) => Q v s' | .ok _ => False | .error e => E e s') (A := ktrTop dp un gd cn cs L a ccd cl' outer) (env := envX cn cs L a ccd cl') B F N rfl rfl hck
  have hkinds := kindsX' hkind
  have hlen : rs.length = ps.length := V.len ▸ hW.1
  refine codeAny_call_function (Nat.lt_of_le_of_lt (by show dp ≤ dp + (d + 1); omega) hd) ((Xi.keeps F.keep) _ _ hK) rfl hco hgen rfl (codeRec_of (Xi.keeps F.keep) hD.cd) ((BindsTo.of_eq (hbind rs doc pm an hlen)) _ _ _ _ ?_)
  refine wpAny_newFunctionEnv_cells hk (fun x hx => hkinds _ _ (List.mem_append_left _ (List.of_mem_zip (a := x.1) (b := x.2) hx).1)) fun env' he s' x => ?_
  subst he
  refine ⟨(T.nolimit.keeps F.keep).keeps x.toInCall.keep, codeAny_func ?_⟩
  obtain ⟨h₁, tk, rfl, _⟩ := x.done
  have hk₁ := x.toInCall.keep
  obtain ⟨cells, NC, Y⟩ := Cl.news (h₀ := s.heap) (Nat.le_refl _) fun n c hm => ⟨x.cell n c (lookup_of_mem_nodup (cellsFrom_names scope.names 0 (s.heap.objs.size + 1) [] [] rfl ▸ hnc) hm), x.above n c hm⟩
  have apart : (cellsFrom (s.heap.objs.size + 1) scope.names []).Pairwise fun x y => x.2 ≠ y.2 := x.apart
  have hmap := cellsAre_map Y
  have hN₁ : News (hideAll s.heap (((yy, lisO ys ny) :: H).map (fun x : Addr × Obj => x.1))) s.heap.objs.size h₁ (cells ++ ([(yy, lisO ys ny)] ++ (H ++ []))) := by
    intro p hp
    rcases List.mem_append.mp hp with hp | hp
    · refine ⟨(NC p hp).1, (NC p hp).2.1, ?_⟩
      cases q : (hideAll s.heap (((yy, lisO ys ny) :: H).map (fun x : Addr × Obj => x.1))).get? p.1 with
      | none => rfl
      | some o => have := of_hideAll _ q; rw [(NC p hp).2.2] at this; cases this
    · rw [List.append_nil, List.singleton_append] at hp
      exact ⟨hk₁ _ _ (N p hp).1, Nat.ne_of_lt (Heap.lt_size (N p hp).1), hideAll_none _ (List.mem_map_of_mem hp)⟩
  have nodupA : ((cellsFrom (s.heap.objs.size + 1) scope.names []).map (·.2)).Nodup := List.pairwise_map.mpr apart
  have slmem : ∀ y b, (y, Place.cell b) ∈ slOf scope s.heap.objs.size (ps ++ os) → scope.names.lookup y = some .cell ∧ (y, b) ∈ cellsFrom (s.heap.objs.size + 1) scope.names [] := by
    intro y b hm
    obtain ⟨z, hz, e⟩ := List.mem_map.mp hm
    simp only [Prod.mk.injEq] at e
    obtain ⟨rfl, e⟩ := e
    unfold plc at e
    split at e
    · rename_i hc
      refine ⟨hc, ?_⟩
      rcases hkinds (s.heap.objs.size + 1) z hz with h | ⟨_, h⟩
      · rw [h] at hc; cases hc
      · obtain ⟨a', ha⟩ := Option.isSome_iff_exists.mp h
        cases e
        rw [ha]
        exact mem_of_lookup' ha
    · cases e
  have ok : (mkC D (dp + 1) (un + 3) gd (envX cn cs L a ccd cl' :: outer) (hideAll s.heap (((yy, lisO ys ny) :: H).map (fun x : Addr × Obj => x.1))) base (ktrTop dp un gd cn cs L a ccd cl' outer) s d name scope s.heap.objs.size f cdv (cl s.heap.objs.size) (sl s.heap.objs.size) ((cl s.heap.objs.size).map (·.2))).Ok := {
    B := BG, K := Xi.keeps st, T := T.keeps st, k := hk, hd := by show dp + 1 + d < _; omega, hu := by show un + 3 + 8 * d < _; omega, ek := hk, eg := rfl, eb := rfl
    sd := by
      show (sl s.heap.objs.size).Nodup
      rw [← hsl]
      unfold slOf
      have h1 : ((slOf scope s.heap.objs.size (ps ++ os)).map (·.1)).Nodup := by
        unfold slOf
        rw [List.map_map]
        show ((ps ++ os).map id).Nodup
        rw [List.map_id]
        exact hnd
      exact List.Pairwise.of_map (·.1) (fun a b h e => h (e ▸ rfl)) h1
    zd := by
      show ((cl s.heap.objs.size).map (·.2)).Nodup
      rw [← hcl]; exact nodupA
    cz := fun y z b hy hz => by
      have hy' : (y, Place.cell b) ∈ sl s.heap.objs.size := hy
      have hz' : (z, Place.cell b) ∈ sl s.heap.objs.size := hz
      rw [← hsl] at hy' hz'
      have h1 := (slmem y b hy').2
      have h2 := (slmem z b hz').2
      exact congrArg Prod.fst (inj_of_apart apart h1 h2 rfl)
    dz := fun y z b _ hz => by
      have hz' : (z, Place.dict b) ∈ sl s.heap.objs.size := hz
      rw [← hsl] at hz'
      obtain ⟨w, hw, e⟩ := List.mem_map.mp hz'
      simp only [Prod.mk.injEq] at e
      have e2 := e.2
      unfold plc at e2
      split at e2 <;> cases e2
    sz := fun y b hy => by
      show b ∈ (cl s.heap.objs.size).map (·.2)
      rw [← hcl]
      rcases hy with hy | hy
      · have hy' : (y, Place.cell b) ∈ sl s.heap.objs.size := hy
        rw [← hsl] at hy'
        exact List.mem_map_of_mem (slmem y b hy').2
      · have hz' : (y, Place.dict b) ∈ sl s.heap.objs.size := hy
        rw [← hsl] at hz'
        obtain ⟨w, hw, e⟩ := List.mem_map.mp hz'
        simp only [Prod.mk.injEq] at e
        have e2 := e.2
        unfold plc at e2
        split at e2 <;> cases e2 }
  have hb := hbody (dp + 1) (un + 3) gd (envX cn cs L a ccd cl' :: outer) (hideAll s.heap (((yy, lisO ys ny) :: H).map (fun x : Addr × Obj => x.1))) base (ktrTop dp un gd cn cs L a ccd cl' outer) s s.heap.objs.size ok
  have hcl' := hcl s.heap.objs.size
  have R : Rel (mkC D (dp + 1) (un + 3) gd (envX cn cs L a ccd cl' :: outer) (hideAll s.heap (((yy, lisO ys ny) :: H).map (fun x : Addr × Obj => x.1))) base (ktrTop dp un gd cn cs L a ccd cl' outer) s d name scope s.heap.objs.size f cdv (cl s.heap.objs.size) (sl s.heap.objs.size) ((cl s.heap.objs.size).map (·.2)))
      [] ⟨H, [(yy, lisO ys ny)], cells, bindL (envOfC name scope s.heap.objs.size f cdv).kindOf (ps.zip rs) fun _ => none, h₁⟩ { startSt vs os.length with obs := [us] } := {
    F := ⟨x.toInCall.ns, fun b o e => hk₁ b o (of_hideAll _ e), Nat.le_of_eq (hideAll_size _ _)⟩
    N := hN₁, fx := fx
    za := by
      show cells.map (·.1) = (cl s.heap.objs.size).map (·.2)
      rw [← hcl]; exact hmap
    ll := by
      show (startSt vs os.length).loc.length = (sl s.heap.objs.size).length
      rw [← hsl]
      simp [startSt, slOf, hW.1]
    ol := rfl
    ob := fun i vs h => by
      match i, h with
      | 0, h =>
        cases h
        exact ⟨yy, ys, ny, rfl, VU'.mono (fun _ h => h) fun _ _ h => by simp at h⟩
      | i + 1, h => simp at h
    lo := fun i y pl v hy hv => by
      have hy' : (sl s.heap.objs.size)[i]? = some (y, pl) := hy
      rw [← hsl] at hy'
      unfold slOf at hy'
      rw [List.getElem?_map, Option.map_eq_some_iff] at hy'
      obtain ⟨y', hy1, e⟩ := hy'
      simp only [Prod.mk.injEq] at e
      obtain ⟨rfl, rfl⟩ := e
      have hi : i < vs.length := by
        false_or_by_contra
        rename_i hc
        simp only [startSt] at hv
        rw [List.getElem?_append_right (by rw [List.length_map]; omega)] at hv
        have := List.mem_of_getElem? hv
        have := (List.mem_replicate.mp this).2
        cases this
      have hv' : vs[i]? = some v := by
        simp only [startSt] at hv
        rw [List.getElem?_append_left (by rw [List.length_map]; omega), List.getElem?_map, Option.map_eq_some_iff] at hv
        obtain ⟨v', h1, h2⟩ := hv
        cases h2; exact h1
      obtain ⟨r, hr, Vr⟩ := V.at hv'
      have hps : ps[i]? = some y' := by
        have hi' : i < ps.length := by rw [← hW.1]; exact hi
        rw [List.getElem?_append_left hi'] at hy1
        exact hy1
      have hnp : ps.Nodup := (List.nodup_append.mp hnd).1
      refine ⟨r, ?_, Vr⟩
      unfold plc
      split
      · rename_i hc
        rcases hkinds (s.heap.objs.size + 1) y' (List.mem_append_left _ (List.mem_of_getElem? hps)) with h | ⟨_, h⟩
        · rw [h] at hc; cases hc
        · obtain ⟨a', ha⟩ := Option.isSome_iff_exists.mp h
          rw [ha]
          obtain ⟨o, h1, h2⟩ := cellsAre_at Y (mem_of_lookup' ha)
          exact ⟨o, h1, h2.trans (congrArg Data.cell (bindC_at hnp hc hps hr))⟩
      · rename_i hc
        rcases hkinds (s.heap.objs.size + 1) y' (List.mem_append_left _ (List.mem_of_getElem? hps)) with h | ⟨h, _⟩
        · exact bindL_at hnp h hps hr
        · exact absurd h hc
    ce := fun y b hm => by
      have hm' : (y, Place.cell b) ∈ sl s.heap.objs.size := hm
      rw [← hsl] at hm'
      obtain ⟨o, h1, h2⟩ := cellsAre_at Y (slmem y b hm').2
      exact ⟨o, _, h1, h2⟩
    nd := by simp [Cf.As]
    zo := fun p hp q hq => by
      rw [List.append_nil, List.singleton_append] at hq
      intro e
      have h1 := (NC p hp).2.2
      rw [e, (N q hq).1] at h1
      cases h1
    xo := fun p hp => by cases hp
    oh := fun _ p hp q hq => by
      rcases List.mem_cons.mp hp with rfl | hp
      · exact hyH q hq
      · cases hp }
  have hwp := hb.run (tk := tk) (Φ := finN φ) (Q := fun fl s' => LeaveK h₀ L m (hideAll s.heap (((yy, lisO ys ny) :: H).map (fun x : Addr × Obj => x.1))) (fun r s' => match r with | .ok (.ret v) => Q v s' | .ok _ => False | .error e => E e s') (match fl with | .ret v => v | _ => .none) s') (E := fun _ _ => False) (startN_of hW.2) R (fun fl σ' k' tk' r hf R' G' V' => ?_)
  · have hwp' : wpAny (model D.prog D.w) ((ktrTop dp un gd cn cs L a ccd cl' outer).deeper (envX name scope s.heap.objs.size f cdv (cellsFrom (s.heap.objs.size + 1) scope.names []))) (execs body (envX name scope s.heap.objs.size f cdv (cellsFrom (s.heap.objs.size + 1) scope.names [])))
        (fun fl s' => LeaveK h₀ L m (hideAll s.heap (((yy, lisO ys ny) :: H).map (fun x : Addr × Obj => x.1))) (fun r s' => match r with | .ok (.ret v) => Q v s' | .ok _ => False | .error e => E e s') (match fl with | .ret v => v | _ => .none) s') (fun _ _ => False) { s with heap := h₁, toks := tk } := by
      rw [hcl']; exact hwp
    exact wpAny_mono hwp' (fun fl s' hl => lv _ _ hl) fun _ _ y => y.elim
  · unfold finN at hf
    split at hf
    · rename_i x l us₁
      cases V' with
      | ret xx =>
      cases xx with
      | int x t =>
      obtain ⟨us', hu1, hu2⟩ := fzsC_of hf
      have hlen : k'.O.length = 1 := R'.ol
      obtain ⟨q, hO⟩ := List.length_eq_one_iff.mp hlen
      obtain ⟨a', rs', n', hO1, hV'⟩ := R'.ob 0 us₁ rfl
      have ha' : a' = yy := by
        have h1 := G'.a 0 yy rfl
        rw [Cf.As, List.getElem?_map, hO1] at h1
        simpa using h1
      subst ha'
      refine RET _ rfl x t _ ⟨k'.h, tk', k'.m, k'.H, rs', n', us', rfl, R'.F, fun p hp => ?_, G'.h, fun p hp => R'.oh rfl _ (List.mem_of_getElem? hO1) p hp, hu2, mapM_vrs (fz0_vr 9) hu1 hV'⟩
      rcases List.mem_cons.mp hp with rfl | hp
      · exact R'.N _ (R'.inO (List.mem_of_getElem? hO1))
      · exact R'.N p (R'.inH hp)
    · exact hf.elim

/-! kept shut -/
@[irreducible] def hidW (f : ET) : ET := f
theorem hid_eq {f : ET} : hidW f = f := by unfold hidW; rfl
theorem se_hid {c : Cx} {t : Sem Value} {f : ET} (h : SE c t f) : SE c t (hidW f) := by rw [hid_eq]; exact h
@[irreducible] def hidS (f : ST) : ST := f
theorem hidS_eq {f : ST} : hidS f = f := by unfold hidS; rfl
theorem ss_hid {c : Cx} {t : Sem Flow} {f : ST} (h : SS c t f) : SS c t (hidS f) := by rw [hidS_eq]; exact h
/-! != of two equal numbers -/
@[irreducible] def neTW (a b : PV) : ET := fun σ Φ => (∃ (x : Bool) (ns : List Int), a = .tup [.raw (.bool x), .lis (ns.map .int)]) ∧ a = b ∧ Φ (.raw (.bool false)) σ
theorem ints_carried {H : Led} {As : List Addr} : ∀ {ns : List Int} {rs : List Value}, VRs H As (ns.map .int) rs → CarriedAll rs (ns.map PyData.int)
  | [], _, h => by rw [h.nils]; exact .nil
  | _ :: _, _, .cons x y => by
    cases x with
    | int i t => exact .cons (.int _ t) (ints_carried y)
theorem num_reads {c : Cx} {X : Led} {k : Cf} {σ : St} {x : Bool} {ns : List Int} {r : Value} (R : Rel c X k σ) (V : VV k (.tup [.raw (.bool x), .lis (ns.map .int)]) r) : ∃ a as, r = .ref a ∧ Reads k.h (.ref a) (.tuple [.bool x, .list (ns.map PyData.int)]) as := by
  cases V with
  | tup m V =>
  cases V with
  | cons v V =>
  cases V with
  | cons v' V =>
  cases V
  cases v
  cases v' with
  | lis m' V' =>
  have hl : k.h.IsList _ _ := News.isList R.N (R.inH m')
  have hr := reads_newData hl (ints_carried V')
  exact ⟨_, _, rfl, reads_tuple_at ((R.N _ (R.inH m)).1) rfl rfl (.cons (.bool x) (.cons hr .nil))⟩
theorem so_neT {c : Cx} (ok : c.Ok) (hd : 8 < c.d) : SO c (compareOp .NotEq) neTW := by
  intro X k σ tk a b ra rb Φ Q E hf R Va Vb post
  unfold neTW at hf
  obtain ⟨⟨x, ns, rfl⟩, rfl, hf⟩ := hf
  obtain ⟨a₁, as, rfl, r1⟩ := num_reads R Va
  obtain ⟨a₂, bs, rfl, r2⟩ := num_reads R Vb
  have hs : SeqAt.shaped (.tuple [.bool x, .list (ns.map PyData.int)]) = true := by
    simp [SeqAt.shaped, PyData.canLay0, PyData.canLayAll0, PyData.depth, PyData.depthAll, ke_canLayAll0, ke_depthAll]
  have h2 := ok.hu
  refine ne_dataH r1 r2 hs hs ?_ ?_
  · show c.un + 64 < cLine
    omega
  · have e : PyData.eqv (.tuple [.bool x, .list (ns.map PyData.int)]) (.tuple [.bool x, .list (ns.map PyData.int)]) = true := by
      simp [PyData.eqv, PyData.eqvAll, ked_eqvAll]
    rw [e]
    exact post _ _ _ _ _ hf R .rfl' (.raw _)
theorem neT_of {x : Bool} {ns : List Int} {a b : PV} {σ : St} {Φ : PV → St → Prop} (ha : a = .tup [.raw (.bool x), .lis (ns.map .int)]) (e : a = b) (h : Φ (.raw (.bool false)) σ) : neTW a b σ Φ := by
  unfold neTW; exact ⟨⟨x, ns, ha⟩, e, h⟩
theorem start_of {D : Rn} {f : Addr} {d : Nat} {name : Str} {params : Arguments} {body : List Stmt} {scope : Scope} {cdv : Value} {ps os : List Str} {g : ST} {sl : Addr → List (Str × Place)} {cl : Addr → List (Str × Addr)} (hD : DefIn D.K f name params body scope cdv)
    (hbind : ∀ (rs : List Value) (doc pm : Value) (an : Option Addr), rs.length = ps.length → bindArgs (fnOf name name params body scope .none .none doc pm an cdv .none) ⟨rs, []⟩ = pure (ps.zip rs))
    (hkind : ((ps ++ os).all fun y => scope.names.lookup y == some .local || scope.names.lookup y == some .cell) = true) (hnd : (ps ++ os).Nodup) (hnc : ((cellsFrom 0 scope.names []).map (·.1)).Nodup)
    (hco : scope.isCoroutine = false) (hgen : scope.isGenerator = false) (hk : scope.kind = .function) (hcl : ∀ L, cellsFrom (L + 1) scope.names [] = cl L) (hsl : ∀ L, slOf scope L (ps ++ os) = sl L)
    (hbody : ∀ (dp un : Nat) (gd : Option (List Code)) (outer : List Env) (gg base : Heap) (A₀ : Around) (s0 : Shared) (L : Addr), (mkC D dp un gd outer gg base A₀ s0 d name scope L f cdv (cl L) (sl L) ((cl L).map (·.2))).Ok →
      SS (mkC D dp un gd outer gg base A₀ s0 d name scope L f cdv (cl L) (sl L) ((cl L).map (·.2))) (execs body (envX name scope L f cdv (cl L))) g) {s : Shared} {RR : Result → Shared → Prop} {H : Led} {vs : List PV} {rs : List Value} {φ : PV → Prop} (hH : ∀ p ∈ H, s.heap.get? p.1 = some p.2) (hS : ∀ p ∈ H, ∀ es n, p.2.data ≠ .dict es n) (Xi : D.K.In s.heap) (hoff : ∀ a o, D.K.lookup a = some o → a ∉ H.map (fun x : Addr × Obj => x.1))
    (T : TopRead D.p D.loose D.mg D.mb s.heap) (fx : ∀ p ∈ D.fx, p ∈ H) (hd : 1 + claimMargin + (d + 1) < recursionLimit) (hu : 4 + 8 * (d + 1) < cLine) (hW : defW ps.length os.length g vs φ) (V : VRs H [] vs rs)
    (ret : ∀ v r Y h' tk' L m, φ v → Fr s.heap L h' m → VR Y [] v r → RR (.ok (.ret r)) { s with heap := h', toks := tk' }) : codeAny (model D.prog D.w) callerA (.call (.ref f) ⟨rs, []⟩) RR s := by
  obtain ⟨oc, od, osl, doc, pm, an, hK⟩ := hD.at'
  have SA : SeqAt s.heap (H.map (fun x : Addr × Obj => x.1)) := fun b hb o ho es n => by
    obtain ⟨p, hp, rfl⟩ := List.mem_map.mp hb
    rw [hH p hp] at ho
    cases ho
    exact hS p hp es n
  have st : D.K.In (hideAll s.heap (H.map (fun x : Addr × Obj => x.1))) := fun a o e => hideAll_get _ (Xi a o e) (hoff a o e)
  have Tg : TopRead D.p D.loose D.mg D.mb (hideAll s.heap (H.map (fun x : Addr × Obj => x.1))) := topRead_hide SA T
  have BG : Below callerA (hideAll s.heap (H.map (fun x : Addr × Obj => x.1))) [] (hideAll s.heap (H.map (fun x : Addr × Obj => x.1))) := below_caller _
  have hkinds := kindsX' hkind
  have hlen : rs.length = ps.length := V.len ▸ hW.1
  refine codeAny_call_function (by show 1 + claimMargin < _; omega) (Xi _ _ hK) rfl hco hgen rfl (codeRec_of Xi hD.cd) ((BindsTo.of_eq (hbind rs doc pm an hlen)) _ _ _ _ ?_)
  refine wpAny_newFunctionEnv_cells hk (fun x hx => hkinds _ _ (List.mem_append_left _ (List.of_mem_zip (a := x.1) (b := x.2) hx).1)) fun env' he s' x => ?_
  subst he
  refine ⟨T.nolimit.keeps x.toInCall.keep, codeAny_func ?_⟩
  obtain ⟨h₁, tk, rfl, _⟩ := x.done
  have hk₁ := x.toInCall.keep
  obtain ⟨cells, NC, Y⟩ := Cl.news (h₀ := s.heap) (Nat.le_refl _) fun n c hm => ⟨x.cell n c (lookup_of_mem_nodup (cellsFrom_names scope.names 0 (s.heap.objs.size + 1) [] [] rfl ▸ hnc) hm), x.above n c hm⟩
  have apart : (cellsFrom (s.heap.objs.size + 1) scope.names []).Pairwise fun x y => x.2 ≠ y.2 := x.apart
  have hmap := cellsAre_map Y
  have hN₁ : News (hideAll s.heap (H.map (fun x : Addr × Obj => x.1))) s.heap.objs.size h₁ (cells ++ ([] ++ (H ++ []))) := by
    intro p hp
    rcases List.mem_append.mp hp with hp | hp
    · refine ⟨(NC p hp).1, (NC p hp).2.1, ?_⟩
      cases q : (hideAll s.heap (H.map (·.1))).get? p.1 with
      | none => rfl
      | some o => have := of_hideAll _ q; rw [(NC p hp).2.2] at this; cases this
    · rw [List.nil_append, List.append_nil] at hp
      exact ⟨hk₁ _ _ (hH p hp), Nat.ne_of_lt (Heap.lt_size (hH p hp)), hideAll_none _ (List.mem_map_of_mem hp)⟩
  have nodupA : ((cellsFrom (s.heap.objs.size + 1) scope.names []).map (·.2)).Nodup := List.pairwise_map.mpr apart
  have slmem : ∀ y b, (y, Place.cell b) ∈ slOf scope s.heap.objs.size (ps ++ os) → scope.names.lookup y = some .cell ∧ (y, b) ∈ cellsFrom (s.heap.objs.size + 1) scope.names [] := by
    intro y b hm
    obtain ⟨z, hz, e⟩ := List.mem_map.mp hm
    simp only [Prod.mk.injEq] at e
    obtain ⟨rfl, e⟩ := e
    unfold plc at e
    split at e
    · rename_i hc
      refine ⟨hc, ?_⟩
      rcases hkinds (s.heap.objs.size + 1) z hz with h | ⟨_, h⟩
      · rw [h] at hc; cases hc
      · obtain ⟨a', ha⟩ := Option.isSome_iff_exists.mp h
        cases e
        rw [ha]
        exact mem_of_lookup' ha
    · cases e
  have ok : (mkC D (1 + claimMargin + 1) (4 + 3) (some []) [] (hideAll s.heap (H.map (fun x : Addr × Obj => x.1))) (hideAll s.heap (H.map (fun x : Addr × Obj => x.1))) callerA s d name scope s.heap.objs.size f cdv (cl s.heap.objs.size) (sl s.heap.objs.size) ((cl s.heap.objs.size).map (·.2))).Ok := {
    B := BG, K := st, T := Tg, k := hk, hd := by show 1 + claimMargin + 1 + d < _; omega, hu := by show 4 + 3 + 8 * d < _; omega, ek := hk, eg := rfl, eb := rfl
    sd := by
      show (sl s.heap.objs.size).Nodup
      rw [← hsl]
      unfold slOf
      have h1 : ((slOf scope s.heap.objs.size (ps ++ os)).map (·.1)).Nodup := by
        unfold slOf
        rw [List.map_map]
        show ((ps ++ os).map id).Nodup
        rw [List.map_id]
        exact hnd
      exact List.Pairwise.of_map (·.1) (fun a b h e => h (e ▸ rfl)) h1
    zd := by
      show ((cl s.heap.objs.size).map (·.2)).Nodup
      rw [← hcl]; exact nodupA
    cz := fun y z b hy hz => by
      have hy' : (y, Place.cell b) ∈ sl s.heap.objs.size := hy
      have hz' : (z, Place.cell b) ∈ sl s.heap.objs.size := hz
      rw [← hsl] at hy' hz'
      have h1 := (slmem y b hy').2
      have h2 := (slmem z b hz').2
      exact congrArg Prod.fst (inj_of_apart apart h1 h2 rfl)
    dz := fun y z b _ hz => by
      have hz' : (z, Place.dict b) ∈ sl s.heap.objs.size := hz
      rw [← hsl] at hz'
      obtain ⟨w, hw, e⟩ := List.mem_map.mp hz'
      simp only [Prod.mk.injEq] at e
      have e2 := e.2
      unfold plc at e2
      split at e2 <;> cases e2
    sz := fun y b hy => by
      show b ∈ (cl s.heap.objs.size).map (·.2)
      rw [← hcl]
      rcases hy with hy | hy
      · have hy' : (y, Place.cell b) ∈ sl s.heap.objs.size := hy
        rw [← hsl] at hy'
        exact List.mem_map_of_mem (slmem y b hy').2
      · have hz' : (y, Place.dict b) ∈ sl s.heap.objs.size := hy
        rw [← hsl] at hz'
        obtain ⟨w, hw, e⟩ := List.mem_map.mp hz'
        simp only [Prod.mk.injEq] at e
        have e2 := e.2
        unfold plc at e2
        split at e2 <;> cases e2 }
  have hb := hbody (1 + claimMargin + 1) (4 + 3) (some []) [] (hideAll s.heap (H.map (fun x : Addr × Obj => x.1))) (hideAll s.heap (H.map (fun x : Addr × Obj => x.1))) callerA s s.heap.objs.size ok
  have hcl' := hcl s.heap.objs.size
  have R : Rel (mkC D (1 + claimMargin + 1) (4 + 3) (some []) [] (hideAll s.heap (H.map (fun x : Addr × Obj => x.1))) (hideAll s.heap (H.map (fun x : Addr × Obj => x.1))) callerA s d name scope s.heap.objs.size f cdv (cl s.heap.objs.size) (sl s.heap.objs.size) ((cl s.heap.objs.size).map (·.2)))
      [] ⟨H, [], cells, bindL (envOfC name scope s.heap.objs.size f cdv).kindOf (ps.zip rs) fun _ => none, h₁⟩ (startSt vs os.length) := {
    F := ⟨x.toInCall.ns, fun b o e => hk₁ b o (of_hideAll _ e), Nat.le_of_eq (hideAll_size _ _)⟩
    N := hN₁, fx := fx
    za := by
      show cells.map (·.1) = (cl s.heap.objs.size).map (·.2)
      rw [← hcl]; exact hmap
    ll := by
      show (startSt vs os.length).loc.length = (sl s.heap.objs.size).length
      rw [← hsl]
      simp [startSt, slOf, hW.1]
    ol := rfl
    ob := fun i vs h => by simp [startSt] at h
    lo := fun i y pl v hy hv => by
      have hy' : (sl s.heap.objs.size)[i]? = some (y, pl) := hy
      rw [← hsl] at hy'
      unfold slOf at hy'
      rw [List.getElem?_map, Option.map_eq_some_iff] at hy'
      obtain ⟨y', hy1, e⟩ := hy'
      simp only [Prod.mk.injEq] at e
      obtain ⟨rfl, rfl⟩ := e
      have hi : i < vs.length := by
        false_or_by_contra
        rename_i hc
        simp only [startSt] at hv
        rw [List.getElem?_append_right (by rw [List.length_map]; omega)] at hv
        have := List.mem_of_getElem? hv
        have := (List.mem_replicate.mp this).2
        cases this
      have hv' : vs[i]? = some v := by
        simp only [startSt] at hv
        rw [List.getElem?_append_left (by rw [List.length_map]; omega), List.getElem?_map, Option.map_eq_some_iff] at hv
        obtain ⟨v', h1, h2⟩ := hv
        cases h2; exact h1
      obtain ⟨r, hr, Vr⟩ := V.at hv'
      have hps : ps[i]? = some y' := by
        have hi' : i < ps.length := by rw [← hW.1]; exact hi
        rw [List.getElem?_append_left hi'] at hy1
        exact hy1
      have hnp : ps.Nodup := (List.nodup_append.mp hnd).1
      refine ⟨r, ?_, Vr⟩
      unfold plc
      split
      · rename_i hc
        rcases hkinds (s.heap.objs.size + 1) y' (List.mem_append_left _ (List.mem_of_getElem? hps)) with h | ⟨_, h⟩
        · rw [h] at hc; cases hc
        · obtain ⟨a', ha⟩ := Option.isSome_iff_exists.mp h
          rw [ha]
          obtain ⟨o, h1, h2⟩ := cellsAre_at Y (mem_of_lookup' ha)
          exact ⟨o, h1, h2.trans (congrArg Data.cell (bindC_at hnp hc hps hr))⟩
      · rename_i hc
        rcases hkinds (s.heap.objs.size + 1) y' (List.mem_append_left _ (List.mem_of_getElem? hps)) with h | ⟨h, _⟩
        · exact bindL_at hnp h hps hr
        · exact absurd h hc
    ce := fun y b hm => by
      have hm' : (y, Place.cell b) ∈ sl s.heap.objs.size := hm
      rw [← hsl] at hm'
      obtain ⟨o, h1, h2⟩ := cellsAre_at Y (slmem y b hm').2
      exact ⟨o, _, h1, h2⟩
    nd := .nil
    zo := fun p hp q hq => by
      rw [List.nil_append, List.append_nil] at hq
      intro e
      have h1 := (NC p hp).2.2
      rw [e, hH q hq] at h1
      cases h1
    xo := fun p hp => by cases hp
    oh := fun _ p hp => by cases hp }
  have hwp := hb.run (tk := tk) (Φ := finW φ) (Q := fun fl s' => RR (.ok (.ret (match fl with | .ret v => v | _ => .none))) s') (E := fun _ _ => False) (startC_of hW.2) R (fun fl σ' k' tk' r hf R' G' V' => ?_)
  · have hwp' : wpAny (model D.prog D.w) (callerA.deeper (envX name scope s.heap.objs.size f cdv (cellsFrom (s.heap.objs.size + 1) scope.names []))) (execs body (envX name scope s.heap.objs.size f cdv (cellsFrom (s.heap.objs.size + 1) scope.names [])))
        (fun fl s' => RR (.ok (.ret (match fl with | .ret v => v | _ => .none))) s') (fun _ _ => False) { s with heap := h₁, toks := tk } := by
      rw [hcl']; exact hwp
    exact wpAny_mono hwp' (fun fl s' hl => hl) fun _ _ y => y.elim
  · have fin : ∀ (v' : PV) (rv : Value), φ v' → VR (k'.O ++ k'.H) [] v' rv → RR (.ok (.ret rv)) { s with heap := k'.h, toks := tk' } := fun v' rv hp hv =>
      ret v' rv _ _ _ _ _ hp ⟨R'.F.ns, fun b o e => by
        by_cases hm : b ∈ H.map (fun x : Addr × Obj => x.1)
        · obtain ⟨p, hp, rfl⟩ := List.mem_map.mp hm
          rw [hH p hp] at e
          cases e
          exact (R'.N p (R'.inH (G'.h p hp))).1
        · exact R'.F.keep b o (hideAll_get _ e hm), Nat.le_refl _⟩ hv
    cases V' with
    | ret xx =>
      obtain ⟨v', h1, h2⟩ := fzC_of 9 _ _ hf
      exact fin v' _ h2 (fz_vr R' 9 _ _ _ h1 xx)
    | next => exact fin _ _ hf (.raw _)
    | brk => exact fin _ _ hf (.raw _)
    | cont => exact fin _ _ hf (.raw _)
-- names
theorem nd_a : ((Str.ofString "a") == Str.ofString "__debug__") = false := by decide +kernel
theorem nd_at : ((Str.ofString "at") == Str.ofString "__debug__") = false := by decide +kernel
theorem nd_b : ((Str.ofString "b") == Str.ofString "__debug__") = false := by decide +kernel
theorem nd_base : ((Str.ofString "base") == Str.ofString "__debug__") = false := by decide +kernel
theorem nd_before : ((Str.ofString "before") == Str.ofString "__debug__") = false := by decide +kernel
theorem nd_borrow : ((Str.ofString "borrow") == Str.ofString "__debug__") = false := by decide +kernel
theorem nd_both : ((Str.ofString "both") == Str.ofString "__debug__") = false := by decide +kernel
theorem nd_carry : ((Str.ofString "carry") == Str.ofString "__debug__") = false := by decide +kernel
theorem nd_column : ((Str.ofString "column") == Str.ofString "__debug__") = false := by decide +kernel
theorem nd_columns : ((Str.ofString "columns") == Str.ofString "__debug__") = false := by decide +kernel
theorem nd_cross : ((Str.ofString "cross") == Str.ofString "__debug__") = false := by decide +kernel
theorem nd_cut : ((Str.ofString "cut") == Str.ofString "__debug__") = false := by decide +kernel
theorem nd_divrem : ((Str.ofString "divrem") == Str.ofString "__debug__") = false := by decide +kernel
theorem nd_due : ((Str.ofString "due") == Str.ofString "__debug__") = false := by decide +kernel
theorem nd_end : ((Str.ofString "end") == Str.ofString "__debug__") = false := by decide +kernel
theorem nd_first : ((Str.ofString "first") == Str.ofString "__debug__") = false := by decide +kernel
theorem nd_found : ((Str.ofString "found") == Str.ofString "__debug__") = false := by decide +kernel
theorem nd_head : ((Str.ofString "head") == Str.ofString "__debug__") = false := by decide +kernel
theorem nd_here : ((Str.ofString "here") == Str.ofString "__debug__") = false := by decide +kernel
theorem nd_is_below : ((Str.ofString "is_below") == Str.ofString "__debug__") = false := by decide +kernel
theorem nd_is_odd : ((Str.ofString "is_odd") == Str.ofString "__debug__") = false := by decide +kernel
theorem nd_last : ((Str.ofString "last") == Str.ofString "__debug__") = false := by decide +kernel
theorem nd_limb : ((Str.ofString "limb") == Str.ofString "__debug__") = false := by decide +kernel
theorem nd_lines : ((Str.ofString "lines") == Str.ofString "__debug__") = false := by decide +kernel
theorem nd_many : ((Str.ofString "many") == Str.ofString "__debug__") = false := by decide +kernel
theorem nd_mask : ((Str.ofString "mask") == Str.ofString "__debug__") = false := by decide +kernel
theorem nd_mul : ((Str.ofString "mul") == Str.ofString "__debug__") = false := by decide +kernel
theorem nd_nat : ((Str.ofString "nat") == Str.ofString "__debug__") = false := by decide +kernel
theorem nd_number : ((Str.ofString "number") == Str.ofString "__debug__") = false := by decide +kernel
theorem nd_one : ((Str.ofString "one") == Str.ofString "__debug__") = false := by decide +kernel
theorem nd_other : ((Str.ofString "other") == Str.ofString "__debug__") = false := by decide +kernel
theorem nd_own : ((Str.ofString "own") == Str.ofString "__debug__") = false := by decide +kernel
theorem nd_pair : ((Str.ofString "pair") == Str.ofString "__debug__") = false := by decide +kernel
theorem nd_pivot : ((Str.ofString "pivot") == Str.ofString "__debug__") = false := by decide +kernel
theorem nd_places : ((Str.ofString "places") == Str.ofString "__debug__") = false := by decide +kernel
theorem nd_plain : ((Str.ofString "plain") == Str.ofString "__debug__") = false := by decide +kernel
theorem nd_pole : ((Str.ofString "pole") == Str.ofString "__debug__") = false := by decide +kernel
theorem nd_quotient : ((Str.ofString "quotient") == Str.ofString "__debug__") = false := by decide +kernel
theorem nd_rest : ((Str.ofString "rest") == Str.ofString "__debug__") = false := by decide +kernel
theorem nd_row : ((Str.ofString "row") == Str.ofString "__debug__") = false := by decide +kernel
theorem nd_rows : ((Str.ofString "rows") == Str.ofString "__debug__") = false := by decide +kernel
theorem nd_script : ((Str.ofString "script") == Str.ofString "__debug__") = false := by decide +kernel
theorem nd_second : ((Str.ofString "second") == Str.ofString "__debug__") = false := by decide +kernel
theorem nd_spot : ((Str.ofString "spot") == Str.ofString "__debug__") = false := by decide +kernel
theorem nd_squares : ((Str.ofString "squares") == Str.ofString "__debug__") = false := by decide +kernel
theorem nd_there : ((Str.ofString "there") == Str.ofString "__debug__") = false := by decide +kernel
theorem nd_top : ((Str.ofString "top") == Str.ofString "__debug__") = false := by decide +kernel
theorem nd_total : ((Str.ofString "total") == Str.ofString "__debug__") = false := by decide +kernel
theorem nd_value : ((Str.ofString "value") == Str.ofString "__debug__") = false := by decide +kernel
theorem nd_w : ((Str.ofString "w") == Str.ofString "__debug__") = false := by decide +kernel
theorem nd_x : ((Str.ofString "x") == Str.ofString "__debug__") = false := by decide +kernel
theorem nd_y : ((Str.ofString "y") == Str.ofString "__debug__") = false := by decide +kernel
theorem nd_yard : ((Str.ofString "yard") == Str.ofString "__debug__") = false := by decide +kernel
theorem nd_normal : ((Str.ofString "normal") == Str.ofString "__debug__") = false := by decide +kernel
theorem nd_nat_of : ((Str.ofString "nat_of") == Str.ofString "__debug__") = false := by decide +kernel
theorem nd_compare : ((Str.ofString "compare") == Str.ofString "__debug__") = false := by decide +kernel
theorem nd_add : ((Str.ofString "add") == Str.ofString "__debug__") = false := by decide +kernel
theorem nd_sub : ((Str.ofString "sub") == Str.ofString "__debug__") = false := by decide +kernel
theorem nd_divrem_limb : ((Str.ofString "divrem_limb") == Str.ofString "__debug__") = false := by decide +kernel
theorem nd_signed : ((Str.ofString "signed") == Str.ofString "__debug__") = false := by decide +kernel
theorem nd_s_of : ((Str.ofString "s_of") == Str.ofString "__debug__") = false := by decide +kernel
theorem nd_s_neg : ((Str.ofString "s_neg") == Str.ofString "__debug__") = false := by decide +kernel
theorem nd_s_sign : ((Str.ofString "s_sign") == Str.ofString "__debug__") = false := by decide +kernel
theorem nd_s_add : ((Str.ofString "s_add") == Str.ofString "__debug__") = false := by decide +kernel
theorem nd_s_sub : ((Str.ofString "s_sub") == Str.ofString "__debug__") = false := by decide +kernel
theorem nd_s_mul : ((Str.ofString "s_mul") == Str.ofString "__debug__") = false := by decide +kernel
theorem nd_tdiv : ((Str.ofString "tdiv") == Str.ofString "__debug__") = false := by decide +kernel
theorem nd_m_of : ((Str.ofString "m_of") == Str.ofString "__debug__") = false := by decide +kernel
theorem nd_m_turned : ((Str.ofString "m_turned") == Str.ofString "__debug__") = false := by decide +kernel
theorem nd_inner : ((Str.ofString "inner") == Str.ofString "__debug__") = false := by decide +kernel
theorem nd_m_mul : ((Str.ofString "m_mul") == Str.ofString "__debug__") = false := by decide +kernel
theorem nd_exact : ((Str.ofString "exact") == Str.ofString "__debug__") = false := by decide +kernel
theorem nd_pivot_row : ((Str.ofString "pivot_row") == Str.ofString "__debug__") = false := by decide +kernel
theorem nd_cleared : ((Str.ofString "cleared") == Str.ofString "__debug__") = false := by decide +kernel
theorem nd_steps_down : ((Str.ofString "steps_down") == Str.ofString "__debug__") = false := by decide +kernel
theorem nd_det_bareiss : ((Str.ofString "det_bareiss") == Str.ofString "__debug__") = false := by decide +kernel
theorem nd_mul_school : ((Str.ofString "mul_school") == Str.ofString "__debug__") = false := by decide +kernel
theorem nd_divrem_small : ((Str.ofString "divrem_small") == Str.ofString "__debug__") = false := by decide +kernel
theorem nd_divrem_school : ((Str.ofString "divrem_school") == Str.ofString "__debug__") = false := by decide +kernel
theorem nd_law_next : ((Str.ofString "_law_next") == Str.ofString "__debug__") = false := by decide +kernel
theorem nd_law_limbs : ((Str.ofString "_law_limbs") == Str.ofString "__debug__") = false := by decide +kernel
theorem nd_law_signed : ((Str.ofString "_law_signed") == Str.ofString "__debug__") = false := by decide +kernel
theorem nd_NOUGHT : ((Str.ofString "NOUGHT") == Str.ofString "__debug__") = false := by decide +kernel
theorem nd_UNIT : ((Str.ofString "UNIT") == Str.ofString "__debug__") = false := by decide +kernel
theorem nd_len : ((Str.ofString "len") == Str.ofString "__debug__") = false := by decide +kernel
theorem nd_abs : ((Str.ofString "abs") == Str.ofString "__debug__") = false := by decide +kernel
theorem nd_int : ((Str.ofString "int") == Str.ofString "__debug__") = false := by decide +kernel
theorem nd_range : ((Str.ofString "range") == Str.ofString "__debug__") = false := by decide +kernel
theorem nd_enumerate : ((Str.ofString "enumerate") == Str.ofString "__debug__") = false := by decide +kernel
theorem nn_len : (Str.ofString "len") ≠ Str.ofString "__name__" := by decide +kernel
theorem boot_len : bootBuiltins (Str.ofString "len") = some (.builtin "len") := by decide +kernel
theorem nn_abs : (Str.ofString "abs") ≠ Str.ofString "__name__" := by decide +kernel
theorem boot_abs : bootBuiltins (Str.ofString "abs") = some (.builtin "abs") := by decide +kernel
theorem nn_int : (Str.ofString "int") ≠ Str.ofString "__name__" := by decide +kernel
theorem boot_int : bootBuiltins (Str.ofString "int") = some (.type "int") := by decide +kernel
theorem nn_range : (Str.ofString "range") ≠ Str.ofString "__name__" := by decide +kernel
theorem boot_range : bootBuiltins (Str.ofString "range") = some (.type "range") := by decide +kernel
theorem nn_enumerate : (Str.ofString "enumerate") ≠ Str.ofString "__name__" := by decide +kernel
theorem boot_enumerate : bootBuiltins (Str.ofString "enumerate") = some (.type "enumerate") := by decide +kernel
theorem len1 {P : List Value → Prop} (h : ∀ a0, P [a0]) : ∀ rs : List Value, rs.length = 1 → P rs
  | [a0], _ => h a0
  | [], q => by cases q
  | _ :: _ :: _, q => by simp at q
theorem len2 {P : List Value → Prop} (h : ∀ a0 a1, P [a0, a1]) : ∀ rs : List Value, rs.length = 2 → P rs
  | [], q => by cases q
  | a0 :: l, q => len1 (P := fun l => P (a0 :: l)) (fun a1 => h a0 a1) l (Nat.succ.inj q)
theorem len3 {P : List Value → Prop} (h : ∀ a0 a1 a2, P [a0, a1, a2]) : ∀ rs : List Value, rs.length = 3 → P rs
  | [], q => by cases q
  | a0 :: l, q => len2 (P := fun l => P (a0 :: l)) (fun a1 a2 => h a0 a1 a2) l (Nat.succ.inj q)
theorem len4 {P : List Value → Prop} (h : ∀ a0 a1 a2 a3, P [a0, a1, a2, a3]) : ∀ rs : List Value, rs.length = 4 → P rs
  | [], q => by cases q
  | a0 :: l, q => len3 (P := fun l => P (a0 :: l)) (fun a1 a2 a3 => h a0 a1 a2 a3) l (Nat.succ.inj q)
theorem len5 {P : List Value → Prop} (h : ∀ a0 a1 a2 a3 a4, P [a0, a1, a2, a3, a4]) : ∀ rs : List Value, rs.length = 5 → P rs
  | [], q => by cases q
  | a0 :: l, q => len4 (P := fun l => P (a0 :: l)) (fun a1 a2 a3 a4 => h a0 a1 a2 a3 a4) l (Nat.succ.inj q)
theorem len6 {P : List Value → Prop} (h : ∀ a0 a1 a2 a3 a4 a5, P [a0, a1, a2, a3, a4, a5]) : ∀ rs : List Value, rs.length = 6 → P rs
  | [], q => by cases q
  | a0 :: l, q => len5 (P := fun l => P (a0 :: l)) (fun a1 a2 a3 a4 a5 => h a0 a1 a2 a3 a4 a5) l (Nat.succ.inj q)
theorem len7 {P : List Value → Prop} (h : ∀ a0 a1 a2 a3 a4 a5 a6, P [a0, a1, a2, a3, a4, a5, a6]) : ∀ rs : List Value, rs.length = 7 → P rs
  | [], q => by cases q
  | a0 :: l, q => len6 (P := fun l => P (a0 :: l)) (fun a1 a2 a3 a4 a5 a6 => h a0 a1 a2 a3 a4 a5 a6) l (Nat.succ.inj q)
structure KOk (D : Rn) : Prop where
  g_normal : nsIn D.K mainGlobals (Str.ofString "normal") = some (some (.ref 58))
  d_normal : DefIn D.K 58 (Str.ofString "normal") (dArgs 4) (dBody 4) (dScope 4) (.ref 57)
  g_nat_of : nsIn D.K mainGlobals (Str.ofString "nat_of") = some (some (.ref 65))
  d_nat_of : DefIn D.K 65 (Str.ofString "nat_of") (dArgs 5) (dBody 5) (dScope 5) (.ref 64)
  g_compare : nsIn D.K mainGlobals (Str.ofString "compare") = some (some (.ref 72))
  d_compare : DefIn D.K 72 (Str.ofString "compare") (dArgs 6) (dBody 6) (dScope 6) (.ref 71)
  g_add : nsIn D.K mainGlobals (Str.ofString "add") = some (some (.ref 79))
  d_add : DefIn D.K 79 (Str.ofString "add") (dArgs 7) (dBody 7) (dScope 7) (.ref 78)
  g_sub : nsIn D.K mainGlobals (Str.ofString "sub") = some (some (.ref 86))
  d_sub : DefIn D.K 86 (Str.ofString "sub") (dArgs 8) (dBody 8) (dScope 8) (.ref 85)
  g_divrem_limb : nsIn D.K mainGlobals (Str.ofString "divrem_limb") = some (some (.ref 93))
  d_divrem_limb : DefIn D.K 93 (Str.ofString "divrem_limb") (dArgs 9) (dBody 9) (dScope 9) (.ref 92)
  g_signed : nsIn D.K mainGlobals (Str.ofString "signed") = some (some (.ref 121))
  d_signed : DefIn D.K 121 (Str.ofString "signed") (dArgs 14) (dBody 14) (dScope 14) (.ref 120)
  g_s_of : nsIn D.K mainGlobals (Str.ofString "s_of") = some (some (.ref 128))
  d_s_of : DefIn D.K 128 (Str.ofString "s_of") (dArgs 15) (dBody 15) (dScope 15) (.ref 127)
  g_s_neg : nsIn D.K mainGlobals (Str.ofString "s_neg") = some (some (.ref 135))
  d_s_neg : DefIn D.K 135 (Str.ofString "s_neg") (dArgs 16) (dBody 16) (dScope 16) (.ref 134)
  g_s_sign : nsIn D.K mainGlobals (Str.ofString "s_sign") = some (some (.ref 142))
  d_s_sign : DefIn D.K 142 (Str.ofString "s_sign") (dArgs 17) (dBody 17) (dScope 17) (.ref 141)
  g_s_add : nsIn D.K mainGlobals (Str.ofString "s_add") = some (some (.ref 149))
  d_s_add : DefIn D.K 149 (Str.ofString "s_add") (dArgs 18) (dBody 18) (dScope 18) (.ref 148)
  g_s_sub : nsIn D.K mainGlobals (Str.ofString "s_sub") = some (some (.ref 156))
  d_s_sub : DefIn D.K 156 (Str.ofString "s_sub") (dArgs 19) (dBody 19) (dScope 19) (.ref 155)
  g_s_mul : nsIn D.K mainGlobals (Str.ofString "s_mul") = some (some (.ref 163))
  d_s_mul : DefIn D.K 163 (Str.ofString "s_mul") (dArgs 20) (dBody 20) (dScope 20) (.ref 162)
  g_tdiv : nsIn D.K mainGlobals (Str.ofString "tdiv") = some (some (.ref 170))
  d_tdiv : DefIn D.K 170 (Str.ofString "tdiv") (dArgs 21) (dBody 21) (dScope 21) (.ref 169)
  g_m_of : nsIn D.K mainGlobals (Str.ofString "m_of") = some (some (.ref 179))
  d_m_of : DefIn D.K 179 (Str.ofString "m_of") (dArgs 25) (dBody 25) (dScope 25) (.ref 178)
  g_m_turned : nsIn D.K mainGlobals (Str.ofString "m_turned") = some (some (.ref 184))
  d_m_turned : DefIn D.K 184 (Str.ofString "m_turned") (dArgs 26) (dBody 26) (dScope 26) (.ref 183)
  g_inner : nsIn D.K mainGlobals (Str.ofString "inner") = some (some (.ref 191))
  d_inner : DefIn D.K 191 (Str.ofString "inner") (dArgs 27) (dBody 27) (dScope 27) (.ref 190)
  g_m_mul : nsIn D.K mainGlobals (Str.ofString "m_mul") = some (some (.ref 196))
  d_m_mul : DefIn D.K 196 (Str.ofString "m_mul") (dArgs 28) (dBody 28) (dScope 28) (.ref 195)
  g_exact : nsIn D.K mainGlobals (Str.ofString "exact") = some (some (.ref 203))
  d_exact : DefIn D.K 203 (Str.ofString "exact") (dArgs 29) (dBody 29) (dScope 29) (.ref 202)
  g_pivot_row : nsIn D.K mainGlobals (Str.ofString "pivot_row") = some (some (.ref 210))
  d_pivot_row : DefIn D.K 210 (Str.ofString "pivot_row") (dArgs 30) (dBody 30) (dScope 30) (.ref 209)
  g_cleared : nsIn D.K mainGlobals (Str.ofString "cleared") = some (some (.ref 217))
  d_cleared : DefIn D.K 217 (Str.ofString "cleared") (dArgs 31) (dBody 31) (dScope 31) (.ref 216)
  g_steps_down : nsIn D.K mainGlobals (Str.ofString "steps_down") = some (some (.ref 222))
  d_steps_down : DefIn D.K 222 (Str.ofString "steps_down") (dArgs 32) (dBody 32) (dScope 32) (.ref 221)
  g_det_bareiss : nsIn D.K mainGlobals (Str.ofString "det_bareiss") = some (some (.ref 229))
  d_det_bareiss : DefIn D.K 229 (Str.ofString "det_bareiss") (dArgs 33) (dBody 33) (dScope 33) (.ref 228)
  g_mul_school : nsIn D.K mainGlobals (Str.ofString "mul_school") = some (some (.ref 236))
  d_mul_school : DefIn D.K 236 (Str.ofString "mul_school") (dArgs 35) (dBody 35) (dScope 35) (.ref 235)
  g_divrem_small : nsIn D.K mainGlobals (Str.ofString "divrem_small") = some (some (.ref 243))
  d_divrem_small : DefIn D.K 243 (Str.ofString "divrem_small") (dArgs 36) (dBody 36) (dScope 36) (.ref 242)
  g_divrem_school : nsIn D.K mainGlobals (Str.ofString "divrem_school") = some (some (.ref 278))
  d_divrem_school : DefIn D.K 278 (Str.ofString "divrem_school") (dArgs 41) (dBody 41) (dScope 41) (.ref 277)
  g_law_next : nsIn D.K mainGlobals (Str.ofString "_law_next") = some (some (.ref 285))
  d_law_next : DefIn D.K 285 (Str.ofString "_law_next") (dArgs 43) (dBody 43) (dScope 43) (.ref 284)
  g_law_limbs : nsIn D.K mainGlobals (Str.ofString "_law_limbs") = some (some (.ref 292))
  d_law_limbs : DefIn D.K 292 (Str.ofString "_law_limbs") (dArgs 44) (dBody 44) (dScope 44) (.ref 291)
  g_law_signed : nsIn D.K mainGlobals (Str.ofString "_law_signed") = some (some (.ref 299))
  d_law_signed : DefIn D.K 299 (Str.ofString "_law_signed") (dArgs 45) (dBody 45) (dScope 45) (.ref 298)
  g_law : nsIn D.K mainGlobals (Str.ofString "law") = some (some (.ref 304))
  d_law : DefIn D.K 304 (Str.ofString "law") (dArgs 46) (dBody 46) (dScope 46) (.ref 303)
  g_NOUGHT : nsIn D.K mainGlobals (Str.ofString "NOUGHT") = some (some (.ref 172))
  f_NOUGHT : VR D.fx [] (.tup [.raw (.bool false), .lis []]) (.ref 172)
  g_UNIT : nsIn D.K mainGlobals (Str.ofString "UNIT") = some (some (.ref 174))
  f_UNIT : VR D.fx [] (.tup [.raw (.bool false), .lis [.int 1]]) (.ref 174)
  g_len : nsIn D.K mainGlobals (Str.ofString "len") = some none
  g_abs : nsIn D.K mainGlobals (Str.ofString "abs") = some none
  g_int : nsIn D.K mainGlobals (Str.ofString "int") = some none
  g_range : nsIn D.K mainGlobals (Str.ofString "range") = some none
  g_enumerate : nsIn D.K mainGlobals (Str.ofString "enumerate") = some none
/-! normal -/
theorem k_normal_a : (dScope 4).names.lookup (Str.ofString "a") = some .local := by decide +kernel
theorem k_normal_end : (dScope 4).names.lookup (Str.ofString "end") = some .local := by decide +kernel
theorem k_normal_len : (dScope 4).names.lookup (Str.ofString "len") = some .globalImplicit := by decide +kernel
def normal_W : ST :=
  (seqW (asgW (argsW (consW (locW 0) nilW) lenW) (stW 1)) (seqW (whileGo (ifW (tstW (twoW (locW 1) (intW 0) (c2W fun x y => decide (y < x)))) (ifW (tstW (twoW (twoW (locW 0) (twoW (locW 1) (intW 1) (i2I Any2 (· - ·))) idxW) (intW 0) (e2W false))) (yesW true) (yesW false)) (yesW false)) (seqW (augW 1 (intW 1) (i2I Any2 (· - ·))) (yesW .next)) 6) (seqW (retW (cutsW (locW 0) (some (locW 1)))) (yesW .next))))
@[irreducible] def normal_D : DW := defW 1 1 normal_W
theorem normal_go {vs : List PV} {φ : PV → Prop} (h : vs.length = 1 ∧ startC vs 1 fun l => normal_W ⟨l, [], true⟩ (finW φ)) : normal_D vs φ := by unfold normal_D; exact h
theorem normal_cl (L : Addr) : cellsFrom (L + 1) (dScope 4).names [] = [] := rfl
theorem normal_M {D : Rn} (hK : KOk D) : Meets D 58 1 normal_D := by
  unfold normal_D
  exact meets_of (ps := [(Str.ofString "a")]) (os := [(Str.ofString "end")]) (sl := fun L => [((Str.ofString "a"), .frame), ((Str.ofString "end"), .frame)]) (cl := fun L => []) hK.d_normal (fun rs doc pm an h => len1 (P := fun rs => bindArgs (fnOf (Str.ofString "normal") (Str.ofString "normal") (dArgs 4) (dBody 4) (dScope 4) .none .none doc pm an (.ref 57) .none) ⟨rs, []⟩ = pure (List.zip [(Str.ofString "a")] rs)) (fun r0 => rfl) rs h) (by decide +kernel) (by decide +kernel) (by decide +kernel) rfl rfl rfl normal_cl (fun L => (slOf_cons (plc_frame k_normal_a) (slOf_cons (plc_frame k_normal_end) slOf_nil)))
    (fun dp un gd outer gg base A₀ s0 L ok =>
      (ss_cons (ss_name (se_builtin (se_boot ok hK.g_len boot_len nn_len k_normal_len nd_len) (sl_cons rfl (se_frame (i := 0) ok rfl rfl k_normal_a nd_a) sl_nil) sa_len rfl rfl) (st_frame (i := 1) ok rfl rfl k_normal_end) rfl) (ss_cons (ss_while 6 (sb_and (sb_cmp (se_frame (i := 1) ok rfl rfl k_normal_end nd_end) se_int so_gt rfl) (sb_and (sb_cmp (se_sub (se_frame (i := 0) ok rfl rfl k_normal_a nd_a) (se_bin (se_frame (i := 1) ok rfl rfl k_normal_end nd_end) se_int (so_I so_sub)) (so_idx (fun _ _ _ => rfl))) se_int so_eq rfl) sb_and_nil)) (ss_cons (ss_aug (i := 1) ok rfl rfl k_normal_end se_int (so_I so_isub)) ss_nil)) (ss_cons (ss_ret (se_cut (fb := some (locW 1)) (se_frame (i := 0) ok rfl rfl k_normal_a nd_a) (se_frame (i := 1) ok rfl rfl k_normal_end nd_end) (fun _ _ => rfl))) ss_nil))))
/-! nat_of -/
theorem k_nat_of_number : (dScope 5).names.lookup (Str.ofString "number") = some .local := by decide +kernel
theorem k_nat_of_w : (dScope 5).names.lookup (Str.ofString "w") = some .local := by decide +kernel
theorem k_nat_of_found : (dScope 5).names.lookup (Str.ofString "found") = some .local := by decide +kernel
theorem k_nat_of_mask : (dScope 5).names.lookup (Str.ofString "mask") = some .local := by decide +kernel
def nat_of_W : ST :=
  (seqW (ifW (tstW (twoW (locW 0) (intW 0) (c2W fun x y => decide (x < y)))) noW (yesW .next)) (seqW (swpW (tupsW (consW (ownsW nilW) (consW (twoW (twoW (intW 1) (locW 1) (i2W Shift (fun x k => x * 2 ^ k.toNat))) (intW 1) (i2W Any2 (· - ·))) nilW))) [(stW 3), (stW 2)]) (seqW (whileGo (tstW (twoW (locW 0) (intW 0) (c2W fun x y => decide (y < x)))) (seqW (appW (locW 2) (twoW (locW 0) (locW 3) (i2W Any2 Builtin.bitAnd))) (seqW (augW 0 (locW 1) (i2W (fun _ k => 0 ≤ k) (fun x k => x / (2 ^ k.toNat)))) (yesW .next))) 6) (seqW (retW (locW 2)) (yesW .next)))))
@[irreducible] def nat_of_D : DW := defW 2 2 nat_of_W
theorem nat_of_go {vs : List PV} {φ : PV → Prop} (h : vs.length = 2 ∧ startC vs 2 fun l => nat_of_W ⟨l, [], true⟩ (finW φ)) : nat_of_D vs φ := by unfold nat_of_D; exact h
theorem nat_of_cl (L : Addr) : cellsFrom (L + 1) (dScope 5).names [] = [] := rfl
theorem nat_of_M {D : Rn} (hK : KOk D) : Meets D 65 1 nat_of_D := by
  unfold nat_of_D
  exact meets_of (ps := [(Str.ofString "number"), (Str.ofString "w")]) (os := [(Str.ofString "found"), (Str.ofString "mask")]) (sl := fun L => [((Str.ofString "number"), .frame), ((Str.ofString "w"), .frame), ((Str.ofString "found"), .frame), ((Str.ofString "mask"), .frame)]) (cl := fun L => []) hK.d_nat_of (fun rs doc pm an h => len2 (P := fun rs => bindArgs (fnOf (Str.ofString "nat_of") (Str.ofString "nat_of") (dArgs 5) (dBody 5) (dScope 5) .none .none doc pm an (.ref 64) .none) ⟨rs, []⟩ = pure (List.zip [(Str.ofString "number"), (Str.ofString "w")] rs)) (fun r0 r1 => rfl) rs h) (by decide +kernel) (by decide +kernel) (by decide +kernel) rfl rfl rfl nat_of_cl (fun L => (slOf_cons (plc_frame k_nat_of_number) (slOf_cons (plc_frame k_nat_of_w) (slOf_cons (plc_frame k_nat_of_found) (slOf_cons (plc_frame k_nat_of_mask) slOf_nil)))))
    (fun dp un gd outer gg base A₀ s0 L ok =>
      (ss_cons (ss_if (sb_cmp (se_frame (i := 0) ok rfl rfl k_nat_of_number nd_number) se_int so_lt rfl) sss_never ss_nil) (ss_cons (ss_swap (names := [(Str.ofString "found"), (Str.ofString "mask")]) (se_tuple (sl_cons rfl (se_list sl_nil) (sl_cons rfl (se_bin (se_bin se_int (se_frame (i := 1) ok rfl rfl k_nat_of_w nd_w) so_shl) se_int so_sub) sl_nil))) (.cons (st_bind (st_frame (i := 3) ok rfl rfl k_nat_of_mask)) (.cons (st_bind (st_frame (i := 2) ok rfl rfl k_nat_of_found)) STs.nil)) rfl rfl) (ss_cons (ss_while 6 (sb_cmp (se_frame (i := 0) ok rfl rfl k_nat_of_number nd_number) se_int so_gt rfl) (ss_cons (ss_append (se_frame (i := 2) ok rfl rfl k_nat_of_found nd_found) (se_bin (se_frame (i := 0) ok rfl rfl k_nat_of_number nd_number) (se_frame (i := 3) ok rfl rfl k_nat_of_mask nd_mask) so_and) rfl rfl rfl rfl rfl rfl) (ss_cons (ss_aug (i := 0) ok rfl rfl k_nat_of_number (se_frame (i := 1) ok rfl rfl k_nat_of_w nd_w) so_ishr) ss_nil))) (ss_cons (ss_ret (se_frame (i := 2) ok rfl rfl k_nat_of_found nd_found)) ss_nil)))))
/-! compare -/
theorem k_compare_a : (dScope 6).names.lookup (Str.ofString "a") = some .local := by decide +kernel
theorem k_compare_b : (dScope 6).names.lookup (Str.ofString "b") = some .local := by decide +kernel
theorem k_compare_at : (dScope 6).names.lookup (Str.ofString "at") = some .local := by decide +kernel
theorem k_compare_len : (dScope 6).names.lookup (Str.ofString "len") = some .globalImplicit := by decide +kernel
theorem k_compare_range : (dScope 6).names.lookup (Str.ofString "range") = some .globalImplicit := by decide +kernel
def compare_W : ST :=
  (seqW (ifW (tstW (twoW (argsW (consW (locW 0) nilW) lenW) (argsW (consW (locW 1) nilW) lenW) (e2W true))) (seqW (retW (ifW (tstW (twoW (argsW (consW (locW 0) nilW) lenW) (argsW (consW (locW 1) nilW) lenW) (c2W fun x y => decide (x < y)))) (negW (intW 1)) (intW 1))) (yesW .next)) (yesW .next)) (seqW (forW (argsW (consW (twoW (argsW (consW (locW 0) nilW) lenW) (intW 1) (i2I Any2 (· - ·))) (consW (negW (intW 1)) (consW (negW (intW 1)) nilW))) rangeW) (stW 2) (seqW (ifW (tstW (twoW (twoW (locW 0) (locW 2) idxW) (twoW (locW 1) (locW 2) idxW) (e2W true))) (seqW (retW (ifW (tstW (twoW (twoW (locW 0) (locW 2) idxW) (twoW (locW 1) (locW 2) idxW) (c2W fun x y => decide (x < y)))) (negW (intW 1)) (intW 1))) (yesW .next)) (yesW .next)) (yesW .next))) (seqW (retW (intW 0)) (yesW .next))))
@[irreducible] def compare_D : DW := defW 2 1 compare_W
theorem compare_go {vs : List PV} {φ : PV → Prop} (h : vs.length = 2 ∧ startC vs 1 fun l => compare_W ⟨l, [], true⟩ (finW φ)) : compare_D vs φ := by unfold compare_D; exact h
theorem compare_cl (L : Addr) : cellsFrom (L + 1) (dScope 6).names [] = [] := rfl
theorem compare_M {D : Rn} (hK : KOk D) : Meets D 72 1 compare_D := by
  unfold compare_D
  exact meets_of (ps := [(Str.ofString "a"), (Str.ofString "b")]) (os := [(Str.ofString "at")]) (sl := fun L => [((Str.ofString "a"), .frame), ((Str.ofString "b"), .frame), ((Str.ofString "at"), .frame)]) (cl := fun L => []) hK.d_compare (fun rs doc pm an h => len2 (P := fun rs => bindArgs (fnOf (Str.ofString "compare") (Str.ofString "compare") (dArgs 6) (dBody 6) (dScope 6) .none .none doc pm an (.ref 71) .none) ⟨rs, []⟩ = pure (List.zip [(Str.ofString "a"), (Str.ofString "b")] rs)) (fun r0 r1 => rfl) rs h) (by decide +kernel) (by decide +kernel) (by decide +kernel) rfl rfl rfl compare_cl (fun L => (slOf_cons (plc_frame k_compare_a) (slOf_cons (plc_frame k_compare_b) (slOf_cons (plc_frame k_compare_at) slOf_nil))))
    (fun dp un gd outer gg base A₀ s0 L ok =>
      (ss_cons (ss_if (sb_cmp (se_builtin (se_boot ok hK.g_len boot_len nn_len k_compare_len nd_len) (sl_cons rfl (se_frame (i := 0) ok rfl rfl k_compare_a nd_a) sl_nil) sa_len rfl rfl) (se_builtin (se_boot ok hK.g_len boot_len nn_len k_compare_len nd_len) (sl_cons rfl (se_frame (i := 1) ok rfl rfl k_compare_b nd_b) sl_nil) sa_len rfl rfl) so_ne rfl) (ss_cons (ss_ret (se_ifexp (sb_cmp (se_builtin (se_boot ok hK.g_len boot_len nn_len k_compare_len nd_len) (sl_cons rfl (se_frame (i := 0) ok rfl rfl k_compare_a nd_a) sl_nil) sa_len rfl rfl) (se_builtin (se_boot ok hK.g_len boot_len nn_len k_compare_len nd_len) (sl_cons rfl (se_frame (i := 1) ok rfl rfl k_compare_b nd_b) sl_nil) sa_len rfl rfl) so_lt rfl) (se_neg se_int) se_int)) ss_nil) ss_nil) (ss_cons (ss_for (se_type (se_boot ok hK.g_range boot_range nn_range k_compare_range nd_range) (sl_cons rfl (se_bin (se_builtin (se_boot ok hK.g_len boot_len nn_len k_compare_len nd_len) (sl_cons rfl (se_frame (i := 0) ok rfl rfl k_compare_a nd_a) sl_nil) sa_len rfl rfl) se_int (so_I so_sub)) (sl_cons rfl (se_neg se_int) (sl_cons rfl (se_neg se_int) sl_nil))) sa_range rfl rfl) (st_frame (i := 2) ok rfl rfl k_compare_at) (ss_cons (ss_if (sb_cmp (se_sub (se_frame (i := 0) ok rfl rfl k_compare_a nd_a) (se_frame (i := 2) ok rfl rfl k_compare_at nd_at) (so_idx (fun _ _ _ => rfl))) (se_sub (se_frame (i := 1) ok rfl rfl k_compare_b nd_b) (se_frame (i := 2) ok rfl rfl k_compare_at nd_at) (so_idx (fun _ _ _ => rfl))) so_ne rfl) (ss_cons (ss_ret (se_ifexp (sb_cmp (se_sub (se_frame (i := 0) ok rfl rfl k_compare_a nd_a) (se_frame (i := 2) ok rfl rfl k_compare_at nd_at) (so_idx (fun _ _ _ => rfl))) (se_sub (se_frame (i := 1) ok rfl rfl k_compare_b nd_b) (se_frame (i := 2) ok rfl rfl k_compare_at nd_at) (so_idx (fun _ _ _ => rfl))) so_lt rfl) (se_neg se_int) se_int)) ss_nil) ss_nil) ss_nil) (fun _ => rfl)) (ss_cons (ss_ret se_int) ss_nil))))
/-! add -/
theorem k_add_a : (dScope 7).names.lookup (Str.ofString "a") = some .local := by decide +kernel
theorem k_add_b : (dScope 7).names.lookup (Str.ofString "b") = some .local := by decide +kernel
theorem k_add_w : (dScope 7).names.lookup (Str.ofString "w") = some .local := by decide +kernel
theorem k_add_found : (dScope 7).names.lookup (Str.ofString "found") = some .local := by decide +kernel
theorem k_add_carry : (dScope 7).names.lookup (Str.ofString "carry") = some .local := by decide +kernel
theorem k_add_mask : (dScope 7).names.lookup (Str.ofString "mask") = some .local := by decide +kernel
theorem k_add_at : (dScope 7).names.lookup (Str.ofString "at") = some .local := by decide +kernel
theorem k_add_len : (dScope 7).names.lookup (Str.ofString "len") = some .globalImplicit := by decide +kernel
theorem k_add_range : (dScope 7).names.lookup (Str.ofString "range") = some .globalImplicit := by decide +kernel
def add_W : ST :=
  (seqW (ifW (tstW (twoW (argsW (consW (locW 0) nilW) lenW) (argsW (consW (locW 1) nilW) lenW) (c2W fun x y => decide (x < y)))) (seqW (swpW (tupsW (consW (locW 1) (consW (locW 0) nilW))) [(stW 1), (stW 0)]) (yesW .next)) (yesW .next)) (seqW (swpW (tupsW (consW (ownsW nilW) (consW (intW 0) (consW (twoW (twoW (intW 1) (locW 2) (i2W Shift (fun x k => x * 2 ^ k.toNat))) (intW 1) (i2W Any2 (· - ·))) nilW)))) [(stW 5), (stW 4), (stW 3)]) (seqW (forW (argsW (consW (argsW (consW (locW 1) nilW) lenW) nilW) rangeW) (stW 6) (seqW (augW 4 (twoW (twoW (locW 0) (locW 6) idxW) (twoW (locW 1) (locW 6) idxW) (i2W Any2 (· + ·))) (i2W Any2 (· + ·))) (seqW (appW (locW 3) (twoW (locW 4) (locW 5) (i2W Any2 Builtin.bitAnd))) (seqW (augW 4 (locW 2) (i2W (fun _ k => 0 ≤ k) (fun x k => x / (2 ^ k.toNat)))) (yesW .next))))) (seqW (forW (argsW (consW (argsW (consW (locW 1) nilW) lenW) (consW (argsW (consW (locW 0) nilW) lenW) nilW)) rangeW) (stW 6) (seqW (augW 4 (twoW (locW 0) (locW 6) idxW) (i2W Any2 (· + ·))) (seqW (appW (locW 3) (twoW (locW 4) (locW 5) (i2W Any2 Builtin.bitAnd))) (seqW (augW 4 (locW 2) (i2W (fun _ k => 0 ≤ k) (fun x k => x / (2 ^ k.toNat)))) (yesW .next))))) (seqW (ifW (tstW (twoW (locW 4) (intW 0) (c2W fun x y => decide (y < x)))) (seqW (appW (locW 3) (locW 4)) (yesW .next)) (yesW .next)) (seqW (retW (locW 3)) (yesW .next)))))))
@[irreducible] def add_D : DW := defW 3 4 add_W
theorem add_go {vs : List PV} {φ : PV → Prop} (h : vs.length = 3 ∧ startC vs 4 fun l => add_W ⟨l, [], true⟩ (finW φ)) : add_D vs φ := by unfold add_D; exact h
theorem add_cl (L : Addr) : cellsFrom (L + 1) (dScope 7).names [] = [] := rfl
theorem add_M {D : Rn} (hK : KOk D) : Meets D 79 1 add_D := by
  unfold add_D
  exact meets_of (ps := [(Str.ofString "a"), (Str.ofString "b"), (Str.ofString "w")]) (os := [(Str.ofString "found"), (Str.ofString "carry"), (Str.ofString "mask"), (Str.ofString "at")]) (sl := fun L => [((Str.ofString "a"), .frame), ((Str.ofString "b"), .frame), ((Str.ofString "w"), .frame), ((Str.ofString "found"), .frame), ((Str.ofString "carry"), .frame), ((Str.ofString "mask"), .frame), ((Str.ofString "at"), .frame)]) (cl := fun L => []) hK.d_add (fun rs doc pm an h => len3 (P := fun rs => bindArgs (fnOf (Str.ofString "add") (Str.ofString "add") (dArgs 7) (dBody 7) (dScope 7) .none .none doc pm an (.ref 78) .none) ⟨rs, []⟩ = pure (List.zip [(Str.ofString "a"), (Str.ofString "b"), (Str.ofString "w")] rs)) (fun r0 r1 r2 => rfl) rs h) (by decide +kernel) (by decide +kernel) (by decide +kernel) rfl rfl rfl add_cl (fun L => (slOf_cons (plc_frame k_add_a) (slOf_cons (plc_frame k_add_b) (slOf_cons (plc_frame k_add_w) (slOf_cons (plc_frame k_add_found) (slOf_cons (plc_frame k_add_carry) (slOf_cons (plc_frame k_add_mask) (slOf_cons (plc_frame k_add_at) slOf_nil))))))))
    (fun dp un gd outer gg base A₀ s0 L ok =>
      (ss_cons (ss_if (sb_cmp (se_builtin (se_boot ok hK.g_len boot_len nn_len k_add_len nd_len) (sl_cons rfl (se_frame (i := 0) ok rfl rfl k_add_a nd_a) sl_nil) sa_len rfl rfl) (se_builtin (se_boot ok hK.g_len boot_len nn_len k_add_len nd_len) (sl_cons rfl (se_frame (i := 1) ok rfl rfl k_add_b nd_b) sl_nil) sa_len rfl rfl) so_lt rfl) (ss_cons (ss_swap (names := [(Str.ofString "a"), (Str.ofString "b")]) (se_tuple (sl_cons rfl (se_frame (i := 1) ok rfl rfl k_add_b nd_b) (sl_cons rfl (se_frame (i := 0) ok rfl rfl k_add_a nd_a) sl_nil))) (.cons (st_bind (st_frame (i := 1) ok rfl rfl k_add_b)) (.cons (st_bind (st_frame (i := 0) ok rfl rfl k_add_a)) STs.nil)) rfl rfl) ss_nil) ss_nil) (ss_cons (ss_swap (names := [(Str.ofString "found"), (Str.ofString "carry"), (Str.ofString "mask")]) (se_tuple (sl_cons rfl (se_list sl_nil) (sl_cons rfl se_int (sl_cons rfl (se_bin (se_bin se_int (se_frame (i := 2) ok rfl rfl k_add_w nd_w) so_shl) se_int so_sub) sl_nil)))) (.cons (st_bind (st_frame (i := 5) ok rfl rfl k_add_mask)) (.cons (st_bind (st_frame (i := 4) ok rfl rfl k_add_carry)) (.cons (st_bind (st_frame (i := 3) ok rfl rfl k_add_found)) STs.nil))) rfl rfl) (ss_cons (ss_for (se_type (se_boot ok hK.g_range boot_range nn_range k_add_range nd_range) (sl_cons rfl (se_builtin (se_boot ok hK.g_len boot_len nn_len k_add_len nd_len) (sl_cons rfl (se_frame (i := 1) ok rfl rfl k_add_b nd_b) sl_nil) sa_len rfl rfl) sl_nil) sa_range rfl rfl) (st_frame (i := 6) ok rfl rfl k_add_at) (ss_cons (ss_aug (i := 4) ok rfl rfl k_add_carry (se_bin (se_sub (se_frame (i := 0) ok rfl rfl k_add_a nd_a) (se_frame (i := 6) ok rfl rfl k_add_at nd_at) (so_idx (fun _ _ _ => rfl))) (se_sub (se_frame (i := 1) ok rfl rfl k_add_b nd_b) (se_frame (i := 6) ok rfl rfl k_add_at nd_at) (so_idx (fun _ _ _ => rfl))) so_add) so_iadd) (ss_cons (ss_append (se_frame (i := 3) ok rfl rfl k_add_found nd_found) (se_bin (se_frame (i := 4) ok rfl rfl k_add_carry nd_carry) (se_frame (i := 5) ok rfl rfl k_add_mask nd_mask) so_and) rfl rfl rfl rfl rfl rfl) (ss_cons (ss_aug (i := 4) ok rfl rfl k_add_carry (se_frame (i := 2) ok rfl rfl k_add_w nd_w) so_ishr) ss_nil))) (fun _ => rfl)) (ss_cons (ss_for (se_type (se_boot ok hK.g_range boot_range nn_range k_add_range nd_range) (sl_cons rfl (se_builtin (se_boot ok hK.g_len boot_len nn_len k_add_len nd_len) (sl_cons rfl (se_frame (i := 1) ok rfl rfl k_add_b nd_b) sl_nil) sa_len rfl rfl) (sl_cons rfl (se_builtin (se_boot ok hK.g_len boot_len nn_len k_add_len nd_len) (sl_cons rfl (se_frame (i := 0) ok rfl rfl k_add_a nd_a) sl_nil) sa_len rfl rfl) sl_nil)) sa_range rfl rfl) (st_frame (i := 6) ok rfl rfl k_add_at) (ss_cons (ss_aug (i := 4) ok rfl rfl k_add_carry (se_sub (se_frame (i := 0) ok rfl rfl k_add_a nd_a) (se_frame (i := 6) ok rfl rfl k_add_at nd_at) (so_idx (fun _ _ _ => rfl))) so_iadd) (ss_cons (ss_append (se_frame (i := 3) ok rfl rfl k_add_found nd_found) (se_bin (se_frame (i := 4) ok rfl rfl k_add_carry nd_carry) (se_frame (i := 5) ok rfl rfl k_add_mask nd_mask) so_and) rfl rfl rfl rfl rfl rfl) (ss_cons (ss_aug (i := 4) ok rfl rfl k_add_carry (se_frame (i := 2) ok rfl rfl k_add_w nd_w) so_ishr) ss_nil))) (fun _ => rfl)) (ss_cons (ss_if (sb_cmp (se_frame (i := 4) ok rfl rfl k_add_carry nd_carry) se_int so_gt rfl) (ss_cons (ss_append (se_frame (i := 3) ok rfl rfl k_add_found nd_found) (se_frame (i := 4) ok rfl rfl k_add_carry nd_carry) rfl rfl rfl rfl rfl rfl) ss_nil) ss_nil) (ss_cons (ss_ret (se_frame (i := 3) ok rfl rfl k_add_found nd_found)) ss_nil)))))))
/-! sub -/
theorem k_sub_a : (dScope 8).names.lookup (Str.ofString "a") = some .local := by decide +kernel
theorem k_sub_b : (dScope 8).names.lookup (Str.ofString "b") = some .local := by decide +kernel
theorem k_sub_w : (dScope 8).names.lookup (Str.ofString "w") = some .local := by decide +kernel
theorem k_sub_found : (dScope 8).names.lookup (Str.ofString "found") = some .local := by decide +kernel
theorem k_sub_borrow : (dScope 8).names.lookup (Str.ofString "borrow") = some .local := by decide +kernel
theorem k_sub_base : (dScope 8).names.lookup (Str.ofString "base") = some .local := by decide +kernel
theorem k_sub_at : (dScope 8).names.lookup (Str.ofString "at") = some .local := by decide +kernel
theorem k_sub_limb : (dScope 8).names.lookup (Str.ofString "limb") = some .local := by decide +kernel
theorem k_sub_compare : (dScope 8).names.lookup (Str.ofString "compare") = some .globalImplicit := by decide +kernel
theorem k_sub_len : (dScope 8).names.lookup (Str.ofString "len") = some .globalImplicit := by decide +kernel
theorem k_sub_normal : (dScope 8).names.lookup (Str.ofString "normal") = some .globalImplicit := by decide +kernel
theorem k_sub_range : (dScope 8).names.lookup (Str.ofString "range") = some .globalImplicit := by decide +kernel
def sub_W : ST :=
  (seqW (ifW (tstW (twoW (callW 72 (rawW (.ref 72)) (consW (locW 0) (consW (locW 1) nilW)) (goA compare_D)) (intW 0) (c2W fun x y => decide (x < y)))) noW (yesW .next)) (seqW (swpW (tupsW (consW (ownsW nilW) (consW (intW 0) (consW (twoW (intW 1) (locW 2) (i2W Shift (fun x k => x * 2 ^ k.toNat))) nilW)))) [(stW 5), (stW 4), (stW 3)]) (seqW (forW (argsW (consW (argsW (consW (locW 0) nilW) lenW) nilW) rangeW) (stW 6) (seqW (asgW (twoW (twoW (twoW (locW 0) (locW 6) idxW) (locW 4) (i2W Any2 (· - ·))) (ifW (tstW (twoW (locW 6) (argsW (consW (locW 1) nilW) lenW) (c2W fun x y => decide (x < y)))) (twoW (locW 1) (locW 6) idxW) (intW 0)) (i2W Any2 (· - ·))) (stW 7)) (seqW (asgW (ifW (tstW (twoW (locW 7) (intW 0) (c2W fun x y => decide (x < y)))) (intW 1) (intW 0)) (stW 4)) (seqW (appW (locW 3) (ifW (tstW (twoW (locW 7) (intW 0) (c2W fun x y => decide (x < y)))) (twoW (locW 7) (locW 5) (i2W Any2 (· + ·))) (locW 7))) (yesW .next))))) (seqW (retW (callW 58 (rawW (.ref 58)) (consW (locW 3) nilW) (goB normal_D))) (yesW .next)))))
@[irreducible] def sub_D : DW := defW 3 5 sub_W
theorem sub_go {vs : List PV} {φ : PV → Prop} (h : vs.length = 3 ∧ startC vs 5 fun l => sub_W ⟨l, [], true⟩ (finW φ)) : sub_D vs φ := by unfold sub_D; exact h
theorem sub_cl (L : Addr) : cellsFrom (L + 1) (dScope 8).names [] = [] := rfl
theorem sub_M {D : Rn} (hK : KOk D) : Meets D 86 2 sub_D := by
  unfold sub_D
  exact meets_of (ps := [(Str.ofString "a"), (Str.ofString "b"), (Str.ofString "w")]) (os := [(Str.ofString "found"), (Str.ofString "borrow"), (Str.ofString "base"), (Str.ofString "at"), (Str.ofString "limb")]) (sl := fun L => [((Str.ofString "a"), .frame), ((Str.ofString "b"), .frame), ((Str.ofString "w"), .frame), ((Str.ofString "found"), .frame), ((Str.ofString "borrow"), .frame), ((Str.ofString "base"), .frame), ((Str.ofString "at"), .frame), ((Str.ofString "limb"), .frame)]) (cl := fun L => []) hK.d_sub (fun rs doc pm an h => len3 (P := fun rs => bindArgs (fnOf (Str.ofString "sub") (Str.ofString "sub") (dArgs 8) (dBody 8) (dScope 8) .none .none doc pm an (.ref 85) .none) ⟨rs, []⟩ = pure (List.zip [(Str.ofString "a"), (Str.ofString "b"), (Str.ofString "w")] rs)) (fun r0 r1 r2 => rfl) rs h) (by decide +kernel) (by decide +kernel) (by decide +kernel) rfl rfl rfl sub_cl (fun L => (slOf_cons (plc_frame k_sub_a) (slOf_cons (plc_frame k_sub_b) (slOf_cons (plc_frame k_sub_w) (slOf_cons (plc_frame k_sub_found) (slOf_cons (plc_frame k_sub_borrow) (slOf_cons (plc_frame k_sub_base) (slOf_cons (plc_frame k_sub_at) (slOf_cons (plc_frame k_sub_limb) slOf_nil)))))))))
    (fun dp un gd outer gg base A₀ s0 L ok =>
      (ss_cons (ss_if (sb_cmp (se_call ok (compare_M hK).fn (se_glob ok hK.g_compare k_sub_compare nd_compare) (sl_cons rfl (se_frame (i := 0) ok rfl rfl k_sub_a nd_a) (sl_cons rfl (se_frame (i := 1) ok rfl rfl k_sub_b nd_b) sl_nil)) (sa_goA ok (compare_M hK) (Nat.le_of_ble_eq_true rfl)) rfl) se_int so_lt rfl) sss_never ss_nil) (ss_cons (ss_swap (names := [(Str.ofString "found"), (Str.ofString "borrow"), (Str.ofString "base")]) (se_tuple (sl_cons rfl (se_list sl_nil) (sl_cons rfl se_int (sl_cons rfl (se_bin se_int (se_frame (i := 2) ok rfl rfl k_sub_w nd_w) so_shl) sl_nil)))) (.cons (st_bind (st_frame (i := 5) ok rfl rfl k_sub_base)) (.cons (st_bind (st_frame (i := 4) ok rfl rfl k_sub_borrow)) (.cons (st_bind (st_frame (i := 3) ok rfl rfl k_sub_found)) STs.nil))) rfl rfl) (ss_cons (ss_for (se_type (se_boot ok hK.g_range boot_range nn_range k_sub_range nd_range) (sl_cons rfl (se_builtin (se_boot ok hK.g_len boot_len nn_len k_sub_len nd_len) (sl_cons rfl (se_frame (i := 0) ok rfl rfl k_sub_a nd_a) sl_nil) sa_len rfl rfl) sl_nil) sa_range rfl rfl) (st_frame (i := 6) ok rfl rfl k_sub_at) (ss_cons (ss_name (se_bin (se_bin (se_sub (se_frame (i := 0) ok rfl rfl k_sub_a nd_a) (se_frame (i := 6) ok rfl rfl k_sub_at nd_at) (so_idx (fun _ _ _ => rfl))) (se_frame (i := 4) ok rfl rfl k_sub_borrow nd_borrow) so_sub) (se_ifexp (sb_cmp (se_frame (i := 6) ok rfl rfl k_sub_at nd_at) (se_builtin (se_boot ok hK.g_len boot_len nn_len k_sub_len nd_len) (sl_cons rfl (se_frame (i := 1) ok rfl rfl k_sub_b nd_b) sl_nil) sa_len rfl rfl) so_lt rfl) (se_sub (se_frame (i := 1) ok rfl rfl k_sub_b nd_b) (se_frame (i := 6) ok rfl rfl k_sub_at nd_at) (so_idx (fun _ _ _ => rfl))) se_int) so_sub) (st_frame (i := 7) ok rfl rfl k_sub_limb) rfl) (ss_cons (ss_name (se_ifexp (sb_cmp (se_frame (i := 7) ok rfl rfl k_sub_limb nd_limb) se_int so_lt rfl) se_int se_int) (st_frame (i := 4) ok rfl rfl k_sub_borrow) rfl) (ss_cons (ss_append (se_frame (i := 3) ok rfl rfl k_sub_found nd_found) (se_ifexp (sb_cmp (se_frame (i := 7) ok rfl rfl k_sub_limb nd_limb) se_int so_lt rfl) (se_bin (se_frame (i := 7) ok rfl rfl k_sub_limb nd_limb) (se_frame (i := 5) ok rfl rfl k_sub_base nd_base) so_add) (se_frame (i := 7) ok rfl rfl k_sub_limb nd_limb)) rfl rfl rfl rfl rfl rfl) ss_nil))) (fun _ => rfl)) (ss_cons (ss_ret (se_call ok (normal_M hK).fn (se_glob ok hK.g_normal k_sub_normal nd_normal) (sl_cons rfl (se_frame (i := 3) ok rfl rfl k_sub_found nd_found) sl_nil) (sa_goB ok (normal_M hK) (Nat.le_of_ble_eq_true rfl)) rfl)) ss_nil)))))
/-! divrem_limb -/
theorem k_divrem_limb_a : (dScope 9).names.lookup (Str.ofString "a") = some .local := by decide +kernel
theorem k_divrem_limb_limb : (dScope 9).names.lookup (Str.ofString "limb") = some .local := by decide +kernel
theorem k_divrem_limb_w : (dScope 9).names.lookup (Str.ofString "w") = some .local := by decide +kernel
theorem k_divrem_limb_found : (dScope 9).names.lookup (Str.ofString "found") = some .local := by decide +kernel
theorem k_divrem_limb_rest : (dScope 9).names.lookup (Str.ofString "rest") = some .local := by decide +kernel
theorem k_divrem_limb_at : (dScope 9).names.lookup (Str.ofString "at") = some .local := by decide +kernel
theorem k_divrem_limb_len : (dScope 9).names.lookup (Str.ofString "len") = some .globalImplicit := by decide +kernel
theorem k_divrem_limb_normal : (dScope 9).names.lookup (Str.ofString "normal") = some .globalImplicit := by decide +kernel
theorem k_divrem_limb_range : (dScope 9).names.lookup (Str.ofString "range") = some .globalImplicit := by decide +kernel
def divrem_limb_W : ST :=
  (seqW (ifW (tstW (twoW (locW 1) (intW 0) (e2W false))) noW (yesW .next)) (seqW (swpW (tupsW (consW (twoW (froW (consW (intW 0) nilW)) (argsW (consW (locW 0) nilW) lenW) mulLW) (consW (intW 0) nilW))) [(stW 4), (stW 3)]) (seqW (forW (argsW (consW (twoW (argsW (consW (locW 0) nilW) lenW) (intW 1) (i2I Any2 (· - ·))) (consW (negW (intW 1)) (consW (negW (intW 1)) nilW))) rangeW) (stW 5) (seqW (asgW (twoW (twoW (locW 4) (locW 2) (i2W Shift (fun x k => x * 2 ^ k.toNat))) (twoW (locW 0) (locW 5) idxW) (i2W Any2 Builtin.bitOr)) (stW 4)) (seqW (setW (twoW (locW 4) (locW 1) (i2W (fun _ y => 0 < y ∧ y ≤ 4096) (· / ·))) (locW 3) (locW 5)) (seqW (augW 4 (locW 1) (i2W (fun _ y => 0 < y) (· % ·))) (yesW .next))))) (seqW (retW (tupsW (consW (callW 58 (rawW (.ref 58)) (consW (locW 3) nilW) (goB normal_D)) (consW (locW 4) nilW)))) (yesW .next)))))
@[irreducible] def divrem_limb_D : DW := defW 3 3 divrem_limb_W
theorem divrem_limb_go {vs : List PV} {φ : PV → Prop} (h : vs.length = 3 ∧ startC vs 3 fun l => divrem_limb_W ⟨l, [], true⟩ (finW φ)) : divrem_limb_D vs φ := by unfold divrem_limb_D; exact h
theorem divrem_limb_cl (L : Addr) : cellsFrom (L + 1) (dScope 9).names [] = [] := rfl
theorem divrem_limb_M {D : Rn} (hK : KOk D) : Meets D 93 2 divrem_limb_D := by
  unfold divrem_limb_D
  exact meets_of (ps := [(Str.ofString "a"), (Str.ofString "limb"), (Str.ofString "w")]) (os := [(Str.ofString "found"), (Str.ofString "rest"), (Str.ofString "at")]) (sl := fun L => [((Str.ofString "a"), .frame), ((Str.ofString "limb"), .frame), ((Str.ofString "w"), .frame), ((Str.ofString "found"), .frame), ((Str.ofString "rest"), .frame), ((Str.ofString "at"), .frame)]) (cl := fun L => []) hK.d_divrem_limb (fun rs doc pm an h => len3 (P := fun rs => bindArgs (fnOf (Str.ofString "divrem_limb") (Str.ofString "divrem_limb") (dArgs 9) (dBody 9) (dScope 9) .none .none doc pm an (.ref 92) .none) ⟨rs, []⟩ = pure (List.zip [(Str.ofString "a"), (Str.ofString "limb"), (Str.ofString "w")] rs)) (fun r0 r1 r2 => rfl) rs h) (by decide +kernel) (by decide +kernel) (by decide +kernel) rfl rfl rfl divrem_limb_cl (fun L => (slOf_cons (plc_frame k_divrem_limb_a) (slOf_cons (plc_frame k_divrem_limb_limb) (slOf_cons (plc_frame k_divrem_limb_w) (slOf_cons (plc_frame k_divrem_limb_found) (slOf_cons (plc_frame k_divrem_limb_rest) (slOf_cons (plc_frame k_divrem_limb_at) slOf_nil)))))))
    (fun dp un gd outer gg base A₀ s0 L ok =>
      (ss_cons (ss_if (sb_cmp (se_frame (i := 1) ok rfl rfl k_divrem_limb_limb nd_limb) se_int so_eq rfl) sss_never ss_nil) (ss_cons (ss_swap (names := [(Str.ofString "found"), (Str.ofString "rest")]) (se_tuple (sl_cons rfl (se_bin (se_listF (sl_cons rfl se_int sl_nil)) (se_builtin (se_boot ok hK.g_len boot_len nn_len k_divrem_limb_len nd_len) (sl_cons rfl (se_frame (i := 0) ok rfl rfl k_divrem_limb_a nd_a) sl_nil) sa_len rfl rfl) so_mulL) (sl_cons rfl se_int sl_nil))) (.cons (st_bind (st_frame (i := 4) ok rfl rfl k_divrem_limb_rest)) (.cons (st_bind (st_frame (i := 3) ok rfl rfl k_divrem_limb_found)) STs.nil)) rfl rfl) (ss_cons (ss_for (se_type (se_boot ok hK.g_range boot_range nn_range k_divrem_limb_range nd_range) (sl_cons rfl (se_bin (se_builtin (se_boot ok hK.g_len boot_len nn_len k_divrem_limb_len nd_len) (sl_cons rfl (se_frame (i := 0) ok rfl rfl k_divrem_limb_a nd_a) sl_nil) sa_len rfl rfl) se_int (so_I so_sub)) (sl_cons rfl (se_neg se_int) (sl_cons rfl (se_neg se_int) sl_nil))) sa_range rfl rfl) (st_frame (i := 5) ok rfl rfl k_divrem_limb_at) (ss_cons (ss_name (se_bin (se_bin (se_frame (i := 4) ok rfl rfl k_divrem_limb_rest nd_rest) (se_frame (i := 2) ok rfl rfl k_divrem_limb_w nd_w) so_shl) (se_sub (se_frame (i := 0) ok rfl rfl k_divrem_limb_a nd_a) (se_frame (i := 5) ok rfl rfl k_divrem_limb_at nd_at) (so_idx (fun _ _ _ => rfl))) so_or) (st_frame (i := 4) ok rfl rfl k_divrem_limb_rest) rfl) (ss_cons (ss_set (se_bin (se_frame (i := 4) ok rfl rfl k_divrem_limb_rest nd_rest) (se_frame (i := 1) ok rfl rfl k_divrem_limb_limb nd_limb) so_fdiv) (se_frame (i := 3) ok rfl rfl k_divrem_limb_found nd_found) (se_frame (i := 5) ok rfl rfl k_divrem_limb_at nd_at) rfl) (ss_cons (ss_aug (i := 4) ok rfl rfl k_divrem_limb_rest (se_frame (i := 1) ok rfl rfl k_divrem_limb_limb nd_limb) so_imod) ss_nil))) (fun _ => rfl)) (ss_cons (ss_ret (se_tuple (sl_cons rfl (se_call ok (normal_M hK).fn (se_glob ok hK.g_normal k_divrem_limb_normal nd_normal) (sl_cons rfl (se_frame (i := 3) ok rfl rfl k_divrem_limb_found nd_found) sl_nil) (sa_goB ok (normal_M hK) (Nat.le_of_ble_eq_true rfl)) rfl) (sl_cons rfl (se_frame (i := 4) ok rfl rfl k_divrem_limb_rest nd_rest) sl_nil)))) ss_nil)))))
/-! mul_school -/
theorem k_mul_school_a : (dScope 35).names.lookup (Str.ofString "a") = some .local := by decide +kernel
theorem k_mul_school_b : (dScope 35).names.lookup (Str.ofString "b") = some .local := by decide +kernel
theorem k_mul_school_w : (dScope 35).names.lookup (Str.ofString "w") = some .local := by decide +kernel
theorem k_mul_school_found : (dScope 35).names.lookup (Str.ofString "found") = some .local := by decide +kernel
theorem k_mul_school_mask : (dScope 35).names.lookup (Str.ofString "mask") = some .local := by decide +kernel
theorem k_mul_school_at : (dScope 35).names.lookup (Str.ofString "at") = some .local := by decide +kernel
theorem k_mul_school_limb : (dScope 35).names.lookup (Str.ofString "limb") = some .local := by decide +kernel
theorem k_mul_school_carry : (dScope 35).names.lookup (Str.ofString "carry") = some .local := by decide +kernel
theorem k_mul_school_spot : (dScope 35).names.lookup (Str.ofString "spot") = some .local := by decide +kernel
theorem k_mul_school_other : (dScope 35).names.lookup (Str.ofString "other") = some .local := by decide +kernel
theorem k_mul_school_enumerate : (dScope 35).names.lookup (Str.ofString "enumerate") = some .globalImplicit := by decide +kernel
theorem k_mul_school_len : (dScope 35).names.lookup (Str.ofString "len") = some .globalImplicit := by decide +kernel
theorem k_mul_school_normal : (dScope 35).names.lookup (Str.ofString "normal") = some .globalImplicit := by decide +kernel
def mul_school_W : ST :=
  (seqW (swpW (tupsW (consW (twoW (froW (consW (intW 0) nilW)) (twoW (argsW (consW (locW 0) nilW) lenW) (argsW (consW (locW 1) nilW) lenW) (i2I Any2 (· + ·))) mulLW) (consW (twoW (twoW (intW 1) (locW 2) (i2W Shift (fun x k => x * 2 ^ k.toNat))) (intW 1) (i2W Any2 (· - ·))) nilW))) [(stW 4), (stW 3)]) (seqW (forEW (locW 0) [(stW 5), (stW 6)] (seqW (asgW (intW 0) (stW 7)) (seqW (forEW (locW 1) [(stW 8), (stW 9)] (seqW (augW 7 (twoW (twoW (locW 3) (twoW (locW 5) (locW 8) (i2I Any2 (· + ·))) idxW) (twoW (locW 6) (locW 9) (i2W Small1 (· * ·))) (i2W Any2 (· + ·))) (i2W Any2 (· + ·))) (seqW (setW (twoW (locW 7) (locW 4) (i2W Any2 Builtin.bitAnd)) (locW 3) (twoW (locW 5) (locW 8) (i2I Any2 (· + ·)))) (seqW (augW 7 (locW 2) (i2W (fun _ k => 0 ≤ k) (fun x k => x / (2 ^ k.toNat)))) (yesW .next))))) (seqW (setW (locW 7) (locW 3) (twoW (locW 5) (argsW (consW (locW 1) nilW) lenW) (i2I Any2 (· + ·)))) (yesW .next))))) (seqW (retW (callW 58 (rawW (.ref 58)) (consW (locW 3) nilW) (goB normal_D))) (yesW .next))))
@[irreducible] def mul_school_D : DW := defW 3 7 mul_school_W
theorem mul_school_go {vs : List PV} {φ : PV → Prop} (h : vs.length = 3 ∧ startC vs 7 fun l => mul_school_W ⟨l, [], true⟩ (finW φ)) : mul_school_D vs φ := by unfold mul_school_D; exact h
theorem mul_school_cl (L : Addr) : cellsFrom (L + 1) (dScope 35).names [] = [] := rfl
theorem mul_school_M {D : Rn} (hK : KOk D) : Meets D 236 2 mul_school_D := by
  unfold mul_school_D
  exact meets_of (ps := [(Str.ofString "a"), (Str.ofString "b"), (Str.ofString "w")]) (os := [(Str.ofString "found"), (Str.ofString "mask"), (Str.ofString "at"), (Str.ofString "limb"), (Str.ofString "carry"), (Str.ofString "spot"), (Str.ofString "other")]) (sl := fun L => [((Str.ofString "a"), .frame), ((Str.ofString "b"), .frame), ((Str.ofString "w"), .frame), ((Str.ofString "found"), .frame), ((Str.ofString "mask"), .frame), ((Str.ofString "at"), .frame), ((Str.ofString "limb"), .frame), ((Str.ofString "carry"), .frame), ((Str.ofString "spot"), .frame), ((Str.ofString "other"), .frame)]) (cl := fun L => []) hK.d_mul_school (fun rs doc pm an h => len3 (P := fun rs => bindArgs (fnOf (Str.ofString "mul_school") (Str.ofString "mul_school") (dArgs 35) (dBody 35) (dScope 35) .none .none doc pm an (.ref 235) .none) ⟨rs, []⟩ = pure (List.zip [(Str.ofString "a"), (Str.ofString "b"), (Str.ofString "w")] rs)) (fun r0 r1 r2 => rfl) rs h) (by decide +kernel) (by decide +kernel) (by decide +kernel) rfl rfl rfl mul_school_cl (fun L => (slOf_cons (plc_frame k_mul_school_a) (slOf_cons (plc_frame k_mul_school_b) (slOf_cons (plc_frame k_mul_school_w) (slOf_cons (plc_frame k_mul_school_found) (slOf_cons (plc_frame k_mul_school_mask) (slOf_cons (plc_frame k_mul_school_at) (slOf_cons (plc_frame k_mul_school_limb) (slOf_cons (plc_frame k_mul_school_carry) (slOf_cons (plc_frame k_mul_school_spot) (slOf_cons (plc_frame k_mul_school_other) slOf_nil)))))))))))
    (fun dp un gd outer gg base A₀ s0 L ok =>
      (ss_cons (ss_swap (names := [(Str.ofString "found"), (Str.ofString "mask")]) (se_tuple (sl_cons rfl (se_bin (se_listF (sl_cons rfl se_int sl_nil)) (se_bin (se_builtin (se_boot ok hK.g_len boot_len nn_len k_mul_school_len nd_len) (sl_cons rfl (se_frame (i := 0) ok rfl rfl k_mul_school_a nd_a) sl_nil) sa_len rfl rfl) (se_builtin (se_boot ok hK.g_len boot_len nn_len k_mul_school_len nd_len) (sl_cons rfl (se_frame (i := 1) ok rfl rfl k_mul_school_b nd_b) sl_nil) sa_len rfl rfl) (so_I so_add)) so_mulL) (sl_cons rfl (se_bin (se_bin se_int (se_frame (i := 2) ok rfl rfl k_mul_school_w nd_w) so_shl) se_int so_sub) sl_nil))) (.cons (st_bind (st_frame (i := 4) ok rfl rfl k_mul_school_mask)) (.cons (st_bind (st_frame (i := 3) ok rfl rfl k_mul_school_found)) STs.nil)) rfl rfl) (ss_cons (ss_forE (se_boot ok hK.g_enumerate boot_enumerate nn_enumerate k_mul_school_enumerate nd_enumerate) (se_frame (i := 0) ok rfl rfl k_mul_school_a nd_a) rfl (.cons (st_name (st_frame (i := 5) ok rfl rfl k_mul_school_at)) (.cons (st_name (st_frame (i := 6) ok rfl rfl k_mul_school_limb)) STs.nil)) rfl rfl (ss_cons (ss_name se_int (st_frame (i := 7) ok rfl rfl k_mul_school_carry) rfl) (ss_cons (ss_forE (se_boot ok hK.g_enumerate boot_enumerate nn_enumerate k_mul_school_enumerate nd_enumerate) (se_frame (i := 1) ok rfl rfl k_mul_school_b nd_b) rfl (.cons (st_name (st_frame (i := 8) ok rfl rfl k_mul_school_spot)) (.cons (st_name (st_frame (i := 9) ok rfl rfl k_mul_school_other)) STs.nil)) rfl rfl (ss_cons (ss_aug (i := 7) ok rfl rfl k_mul_school_carry (se_bin (se_sub (se_frame (i := 3) ok rfl rfl k_mul_school_found nd_found) (se_bin (se_frame (i := 5) ok rfl rfl k_mul_school_at nd_at) (se_frame (i := 8) ok rfl rfl k_mul_school_spot nd_spot) (so_I so_add)) (so_idx (fun _ _ _ => rfl))) (se_bin (se_frame (i := 6) ok rfl rfl k_mul_school_limb nd_limb) (se_frame (i := 9) ok rfl rfl k_mul_school_other nd_other) so_mul) so_add) so_iadd) (ss_cons (ss_set (se_bin (se_frame (i := 7) ok rfl rfl k_mul_school_carry nd_carry) (se_frame (i := 4) ok rfl rfl k_mul_school_mask nd_mask) so_and) (se_frame (i := 3) ok rfl rfl k_mul_school_found nd_found) (se_bin (se_frame (i := 5) ok rfl rfl k_mul_school_at nd_at) (se_frame (i := 8) ok rfl rfl k_mul_school_spot nd_spot) (so_I so_add)) rfl) (ss_cons (ss_aug (i := 7) ok rfl rfl k_mul_school_carry (se_frame (i := 2) ok rfl rfl k_mul_school_w nd_w) so_ishr) ss_nil))) (fun _ => rfl)) (ss_cons (ss_set (se_frame (i := 7) ok rfl rfl k_mul_school_carry nd_carry) (se_frame (i := 3) ok rfl rfl k_mul_school_found nd_found) (se_bin (se_frame (i := 5) ok rfl rfl k_mul_school_at nd_at) (se_builtin (se_boot ok hK.g_len boot_len nn_len k_mul_school_len nd_len) (sl_cons rfl (se_frame (i := 1) ok rfl rfl k_mul_school_b nd_b) sl_nil) sa_len rfl rfl) (so_I so_add)) rfl) ss_nil))) (fun _ => rfl)) (ss_cons (ss_ret (se_call ok (normal_M hK).fn (se_glob ok hK.g_normal k_mul_school_normal nd_normal) (sl_cons rfl (se_frame (i := 3) ok rfl rfl k_mul_school_found nd_found) sl_nil) (sa_goB ok (normal_M hK) (Nat.le_of_ble_eq_true rfl)) rfl)) ss_nil))))
/-! divrem_small -/
theorem k_divrem_small_a : (dScope 36).names.lookup (Str.ofString "a") = some .local := by decide +kernel
theorem k_divrem_small_b : (dScope 36).names.lookup (Str.ofString "b") = some .local := by decide +kernel
theorem k_divrem_small_w : (dScope 36).names.lookup (Str.ofString "w") = some .local := by decide +kernel
theorem k_divrem_small_quotient : (dScope 36).names.lookup (Str.ofString "quotient") = some .local := by decide +kernel
theorem k_divrem_small_rest : (dScope 36).names.lookup (Str.ofString "rest") = some .local := by decide +kernel
theorem k_divrem_small_divrem_limb : (dScope 36).names.lookup (Str.ofString "divrem_limb") = some .globalImplicit := by decide +kernel
def divrem_small_W : ST :=
  (seqW (asgW (callW 93 (rawW (.ref 93)) (consW (locW 0) (consW (twoW (locW 1) (intW 0) idxW) (consW (locW 2) nilW))) (goA divrem_limb_D)) (unpW [(stW 3), (stW 4)])) (seqW (retW (tupsW (consW (locW 3) (consW (ifW (tstW (twoW (locW 4) (intW 0) (c2W fun x y => decide (y < x)))) (froW (consW (locW 4) nilW)) (froW nilW)) nilW)))) (yesW .next)))
@[irreducible] def divrem_small_D : DW := defW 3 2 divrem_small_W
theorem divrem_small_go {vs : List PV} {φ : PV → Prop} (h : vs.length = 3 ∧ startC vs 2 fun l => divrem_small_W ⟨l, [], true⟩ (finW φ)) : divrem_small_D vs φ := by unfold divrem_small_D; exact h
theorem divrem_small_cl (L : Addr) : cellsFrom (L + 1) (dScope 36).names [] = [] := rfl
theorem divrem_small_M {D : Rn} (hK : KOk D) : Meets D 243 3 divrem_small_D := by
  unfold divrem_small_D
  exact meets_of (ps := [(Str.ofString "a"), (Str.ofString "b"), (Str.ofString "w")]) (os := [(Str.ofString "quotient"), (Str.ofString "rest")]) (sl := fun L => [((Str.ofString "a"), .frame), ((Str.ofString "b"), .frame), ((Str.ofString "w"), .frame), ((Str.ofString "quotient"), .frame), ((Str.ofString "rest"), .frame)]) (cl := fun L => []) hK.d_divrem_small (fun rs doc pm an h => len3 (P := fun rs => bindArgs (fnOf (Str.ofString "divrem_small") (Str.ofString "divrem_small") (dArgs 36) (dBody 36) (dScope 36) .none .none doc pm an (.ref 242) .none) ⟨rs, []⟩ = pure (List.zip [(Str.ofString "a"), (Str.ofString "b"), (Str.ofString "w")] rs)) (fun r0 r1 r2 => rfl) rs h) (by decide +kernel) (by decide +kernel) (by decide +kernel) rfl rfl rfl divrem_small_cl (fun L => (slOf_cons (plc_frame k_divrem_small_a) (slOf_cons (plc_frame k_divrem_small_b) (slOf_cons (plc_frame k_divrem_small_w) (slOf_cons (plc_frame k_divrem_small_quotient) (slOf_cons (plc_frame k_divrem_small_rest) slOf_nil))))))
    (fun dp un gd outer gg base A₀ s0 L ok =>
      (ss_cons (ss_tuple (se_call ok (divrem_limb_M hK).fn (se_glob ok hK.g_divrem_limb k_divrem_small_divrem_limb nd_divrem_limb) (sl_cons rfl (se_frame (i := 0) ok rfl rfl k_divrem_small_a nd_a) (sl_cons rfl (se_sub (se_frame (i := 1) ok rfl rfl k_divrem_small_b nd_b) se_int (so_idx (fun _ _ _ => rfl))) (sl_cons rfl (se_frame (i := 2) ok rfl rfl k_divrem_small_w nd_w) sl_nil))) (sa_goA ok (divrem_limb_M hK) (Nat.le_of_ble_eq_true rfl)) rfl) (st_tuple (.cons (st_name (st_frame (i := 3) ok rfl rfl k_divrem_small_quotient)) (.cons (st_name (st_frame (i := 4) ok rfl rfl k_divrem_small_rest)) STs.nil)) rfl) rfl rfl) (ss_cons (ss_ret (se_tuple (sl_cons rfl (se_frame (i := 3) ok rfl rfl k_divrem_small_quotient nd_quotient) (sl_cons rfl (se_ifexp (sb_cmp (se_frame (i := 4) ok rfl rfl k_divrem_small_rest nd_rest) se_int so_gt rfl) (se_listF (sl_cons rfl (se_frame (i := 4) ok rfl rfl k_divrem_small_rest nd_rest) sl_nil)) (se_listF sl_nil)) sl_nil)))) ss_nil)))
/-! divrem_school -/
theorem k_divrem_school_a : (dScope 41).names.lookup (Str.ofString "a") = some .local := by decide +kernel
theorem k_divrem_school_b : (dScope 41).names.lookup (Str.ofString "b") = some .local := by decide +kernel
theorem k_divrem_school_w : (dScope 41).names.lookup (Str.ofString "w") = some .local := by decide +kernel
theorem k_divrem_school_shift : (dScope 41).names.lookup (Str.ofString "shift") = some .local := by decide +kernel
theorem k_divrem_school_divisor : (dScope 41).names.lookup (Str.ofString "divisor") = some .local := by decide +kernel
theorem k_divrem_school_rest : (dScope 41).names.lookup (Str.ofString "rest") = some .local := by decide +kernel
theorem k_divrem_school_quotient : (dScope 41).names.lookup (Str.ofString "quotient") = some .local := by decide +kernel
theorem k_divrem_school_compare : (dScope 41).names.lookup (Str.ofString "compare") = some .globalImplicit := by decide +kernel
theorem k_divrem_school_divrem_small : (dScope 41).names.lookup (Str.ofString "divrem_small") = some .globalImplicit := by decide +kernel
theorem k_divrem_school_len : (dScope 41).names.lookup (Str.ofString "len") = some .globalImplicit := by decide +kernel
def divrem_school_W : ST :=
  (seqW (ifW (tstW (twoW (argsW (consW (locW 1) nilW) lenW) (intW 0) (e2W false))) noW (yesW .next)) (seqW (ifW (tstW (twoW (callW 72 (rawW (.ref 72)) (consW (locW 0) (consW (locW 1) nilW)) (goA compare_D)) (intW 0) (c2W fun x y => decide (x < y)))) (seqW (retW (tupsW (consW (froW nilW) (consW (cutsW (locW 0) none) nilW)))) (yesW .next)) (yesW .next)) (seqW (ifW (tstW (twoW (argsW (consW (locW 1) nilW) lenW) (intW 1) (e2W false))) (seqW (retW (callW 243 (rawW (.ref 243)) (consW (locW 0) (consW (locW 1) (consW (locW 2) nilW))) (goA divrem_small_D))) (yesW .next)) (yesW .next)) noW)))
@[irreducible] def divrem_school_D : DW := defW 3 4 divrem_school_W
theorem divrem_school_go {vs : List PV} {φ : PV → Prop} (h : vs.length = 3 ∧ startC vs 4 fun l => divrem_school_W ⟨l, [], true⟩ (finW φ)) : divrem_school_D vs φ := by unfold divrem_school_D; exact h
theorem divrem_school_cl (L : Addr) : cellsFrom (L + 1) (dScope 41).names [] = [] := rfl
theorem divrem_school_M {D : Rn} (hK : KOk D) : Meets D 278 4 divrem_school_D := by
  unfold divrem_school_D
  exact meets_of (ps := [(Str.ofString "a"), (Str.ofString "b"), (Str.ofString "w")]) (os := [(Str.ofString "shift"), (Str.ofString "divisor"), (Str.ofString "rest"), (Str.ofString "quotient")]) (sl := fun L => [((Str.ofString "a"), .frame), ((Str.ofString "b"), .frame), ((Str.ofString "w"), .frame), ((Str.ofString "shift"), .frame), ((Str.ofString "divisor"), .frame), ((Str.ofString "rest"), .frame), ((Str.ofString "quotient"), .frame)]) (cl := fun L => []) hK.d_divrem_school (fun rs doc pm an h => len3 (P := fun rs => bindArgs (fnOf (Str.ofString "divrem_school") (Str.ofString "divrem_school") (dArgs 41) (dBody 41) (dScope 41) .none .none doc pm an (.ref 277) .none) ⟨rs, []⟩ = pure (List.zip [(Str.ofString "a"), (Str.ofString "b"), (Str.ofString "w")] rs)) (fun r0 r1 r2 => rfl) rs h) (by decide +kernel) (by decide +kernel) (by decide +kernel) rfl rfl rfl divrem_school_cl (fun L => (slOf_cons (plc_frame k_divrem_school_a) (slOf_cons (plc_frame k_divrem_school_b) (slOf_cons (plc_frame k_divrem_school_w) (slOf_cons (plc_frame k_divrem_school_shift) (slOf_cons (plc_frame k_divrem_school_divisor) (slOf_cons (plc_frame k_divrem_school_rest) (slOf_cons (plc_frame k_divrem_school_quotient) slOf_nil))))))))
    (fun dp un gd outer gg base A₀ s0 L ok =>
      (ss_cons (ss_if (sb_cmp (se_builtin (se_boot ok hK.g_len boot_len nn_len k_divrem_school_len nd_len) (sl_cons rfl (se_frame (i := 1) ok rfl rfl k_divrem_school_b nd_b) sl_nil) sa_len rfl rfl) se_int so_eq rfl) sss_never ss_nil) (ss_cons (ss_if (sb_cmp (se_call ok (compare_M hK).fn (se_glob ok hK.g_compare k_divrem_school_compare nd_compare) (sl_cons rfl (se_frame (i := 0) ok rfl rfl k_divrem_school_a nd_a) (sl_cons rfl (se_frame (i := 1) ok rfl rfl k_divrem_school_b nd_b) sl_nil)) (sa_goA ok (compare_M hK) (Nat.le_of_ble_eq_true rfl)) rfl) se_int so_lt rfl) (ss_cons (ss_ret (se_tuple (sl_cons rfl (se_listF sl_nil) (sl_cons rfl (se_cut (fb := none) (se_frame (i := 0) ok rfl rfl k_divrem_school_a nd_a) trivial (fun _ _ => rfl)) sl_nil)))) ss_nil) ss_nil) (ss_cons (ss_if (sb_cmp (se_builtin (se_boot ok hK.g_len boot_len nn_len k_divrem_school_len nd_len) (sl_cons rfl (se_frame (i := 1) ok rfl rfl k_divrem_school_b nd_b) sl_nil) sa_len rfl rfl) se_int so_eq rfl) (ss_cons (ss_ret (se_call ok (divrem_small_M hK).fn (se_glob ok hK.g_divrem_small k_divrem_school_divrem_small nd_divrem_small) (sl_cons rfl (se_frame (i := 0) ok rfl rfl k_divrem_school_a nd_a) (sl_cons rfl (se_frame (i := 1) ok rfl rfl k_divrem_school_b nd_b) (sl_cons rfl (se_frame (i := 2) ok rfl rfl k_divrem_school_w nd_w) sl_nil))) (sa_goA ok (divrem_small_M hK) (Nat.le_of_ble_eq_true rfl)) rfl)) ss_nil) ss_nil) sss_never))))
/-! signed -/
theorem k_signed_is_below : (dScope 14).names.lookup (Str.ofString "is_below") = some .local := by decide +kernel
theorem k_signed_nat : (dScope 14).names.lookup (Str.ofString "nat") = some .local := by decide +kernel
theorem k_signed_len : (dScope 14).names.lookup (Str.ofString "len") = some .globalImplicit := by decide +kernel
def signed_W : ST :=
  (seqW (retW (tupsW (consW (and2W (locW 0) (twoW (argsW (consW (locW 1) nilW) lenW) (intW 0) (c2W fun x y => decide (y < x)))) (consW (locW 1) nilW)))) (yesW .next))
@[irreducible] def signed_D : DW := defW 2 0 signed_W
theorem signed_go {vs : List PV} {φ : PV → Prop} (h : vs.length = 2 ∧ startC vs 0 fun l => signed_W ⟨l, [], true⟩ (finW φ)) : signed_D vs φ := by unfold signed_D; exact h
theorem signed_cl (L : Addr) : cellsFrom (L + 1) (dScope 14).names [] = [] := rfl
theorem signed_M {D : Rn} (hK : KOk D) : Meets D 121 1 signed_D := by
  unfold signed_D
  exact meets_of (ps := [(Str.ofString "is_below"), (Str.ofString "nat")]) (os := []) (sl := fun L => [((Str.ofString "is_below"), .frame), ((Str.ofString "nat"), .frame)]) (cl := fun L => []) hK.d_signed (fun rs doc pm an h => len2 (P := fun rs => bindArgs (fnOf (Str.ofString "signed") (Str.ofString "signed") (dArgs 14) (dBody 14) (dScope 14) .none .none doc pm an (.ref 120) .none) ⟨rs, []⟩ = pure (List.zip [(Str.ofString "is_below"), (Str.ofString "nat")] rs)) (fun r0 r1 => rfl) rs h) (by decide +kernel) (by decide +kernel) (by decide +kernel) rfl rfl rfl signed_cl (fun L => (slOf_cons (plc_frame k_signed_is_below) (slOf_cons (plc_frame k_signed_nat) slOf_nil)))
    (fun dp un gd outer gg base A₀ s0 L ok =>
      (ss_cons (ss_ret (se_tuple (sl_cons rfl (se_and (se_frame (i := 0) ok rfl rfl k_signed_is_below nd_is_below) (se_cmp (se_builtin (se_boot ok hK.g_len boot_len nn_len k_signed_len nd_len) (sl_cons rfl (se_frame (i := 1) ok rfl rfl k_signed_nat nd_nat) sl_nil) sa_len rfl rfl) se_int so_gt rfl)) (sl_cons rfl (se_frame (i := 1) ok rfl rfl k_signed_nat nd_nat) sl_nil)))) ss_nil))
/-! s_of -/
theorem k_s_of_number : (dScope 15).names.lookup (Str.ofString "number") = some .local := by decide +kernel
theorem k_s_of_w : (dScope 15).names.lookup (Str.ofString "w") = some .local := by decide +kernel
theorem k_s_of_abs : (dScope 15).names.lookup (Str.ofString "abs") = some .globalImplicit := by decide +kernel
theorem k_s_of_nat_of : (dScope 15).names.lookup (Str.ofString "nat_of") = some .globalImplicit := by decide +kernel
def s_of_W : ST :=
  (seqW (retW (tupsW (consW (twoW (locW 0) (intW 0) (c2W fun x y => decide (x < y))) (consW (callW 65 (rawW (.ref 65)) (consW (argsW (consW (locW 0) nilW) absW) (consW (locW 1) nilW)) (goA nat_of_D)) nilW)))) (yesW .next))
@[irreducible] def s_of_D : DW := defW 2 0 s_of_W
theorem s_of_go {vs : List PV} {φ : PV → Prop} (h : vs.length = 2 ∧ startC vs 0 fun l => s_of_W ⟨l, [], true⟩ (finW φ)) : s_of_D vs φ := by unfold s_of_D; exact h
theorem s_of_cl (L : Addr) : cellsFrom (L + 1) (dScope 15).names [] = [] := rfl
theorem s_of_M {D : Rn} (hK : KOk D) : Meets D 128 2 s_of_D := by
  unfold s_of_D
  exact meets_of (ps := [(Str.ofString "number"), (Str.ofString "w")]) (os := []) (sl := fun L => [((Str.ofString "number"), .frame), ((Str.ofString "w"), .frame)]) (cl := fun L => []) hK.d_s_of (fun rs doc pm an h => len2 (P := fun rs => bindArgs (fnOf (Str.ofString "s_of") (Str.ofString "s_of") (dArgs 15) (dBody 15) (dScope 15) .none .none doc pm an (.ref 127) .none) ⟨rs, []⟩ = pure (List.zip [(Str.ofString "number"), (Str.ofString "w")] rs)) (fun r0 r1 => rfl) rs h) (by decide +kernel) (by decide +kernel) (by decide +kernel) rfl rfl rfl s_of_cl (fun L => (slOf_cons (plc_frame k_s_of_number) (slOf_cons (plc_frame k_s_of_w) slOf_nil)))
    (fun dp un gd outer gg base A₀ s0 L ok =>
      (ss_cons (ss_ret (se_tuple (sl_cons rfl (se_cmp (se_frame (i := 0) ok rfl rfl k_s_of_number nd_number) se_int so_lt rfl) (sl_cons rfl (se_call ok (nat_of_M hK).fn (se_glob ok hK.g_nat_of k_s_of_nat_of nd_nat_of) (sl_cons rfl (se_builtin (se_boot ok hK.g_abs boot_abs nn_abs k_s_of_abs nd_abs) (sl_cons rfl (se_frame (i := 0) ok rfl rfl k_s_of_number nd_number) sl_nil) sa_abs rfl rfl) (sl_cons rfl (se_frame (i := 1) ok rfl rfl k_s_of_w nd_w) sl_nil)) (sa_goA ok (nat_of_M hK) (Nat.le_of_ble_eq_true rfl)) rfl) sl_nil)))) ss_nil))
/-! s_neg -/
theorem k_s_neg_x : (dScope 16).names.lookup (Str.ofString "x") = some .local := by decide +kernel
theorem k_s_neg_signed : (dScope 16).names.lookup (Str.ofString "signed") = some .globalImplicit := by decide +kernel
def s_neg_W : ST :=
  (seqW (retW (callW 121 (rawW (.ref 121)) (consW (notvW (twoW (locW 0) (intW 0) idxW)) (consW (twoW (locW 0) (intW 1) idxW) nilW)) (goA signed_D))) (yesW .next))
@[irreducible] def s_neg_D : DW := defW 1 0 s_neg_W
theorem s_neg_go {vs : List PV} {φ : PV → Prop} (h : vs.length = 1 ∧ startC vs 0 fun l => s_neg_W ⟨l, [], true⟩ (finW φ)) : s_neg_D vs φ := by unfold s_neg_D; exact h
theorem s_neg_cl (L : Addr) : cellsFrom (L + 1) (dScope 16).names [] = [] := rfl
theorem s_neg_M {D : Rn} (hK : KOk D) : Meets D 135 2 s_neg_D := by
  unfold s_neg_D
  exact meets_of (ps := [(Str.ofString "x")]) (os := []) (sl := fun L => [((Str.ofString "x"), .frame)]) (cl := fun L => []) hK.d_s_neg (fun rs doc pm an h => len1 (P := fun rs => bindArgs (fnOf (Str.ofString "s_neg") (Str.ofString "s_neg") (dArgs 16) (dBody 16) (dScope 16) .none .none doc pm an (.ref 134) .none) ⟨rs, []⟩ = pure (List.zip [(Str.ofString "x")] rs)) (fun r0 => rfl) rs h) (by decide +kernel) (by decide +kernel) (by decide +kernel) rfl rfl rfl s_neg_cl (fun L => (slOf_cons (plc_frame k_s_neg_x) slOf_nil))
    (fun dp un gd outer gg base A₀ s0 L ok =>
      (ss_cons (ss_ret (se_call ok (signed_M hK).fn (se_glob ok hK.g_signed k_s_neg_signed nd_signed) (sl_cons rfl (se_not (se_sub (se_frame (i := 0) ok rfl rfl k_s_neg_x nd_x) se_int (so_idx (fun _ _ _ => rfl)))) (sl_cons rfl (se_sub (se_frame (i := 0) ok rfl rfl k_s_neg_x nd_x) se_int (so_idx (fun _ _ _ => rfl))) sl_nil)) (sa_goA ok (signed_M hK) (Nat.le_of_ble_eq_true rfl)) rfl)) ss_nil))
/-! s_sign -/
theorem k_s_sign_x : (dScope 17).names.lookup (Str.ofString "x") = some .local := by decide +kernel
theorem k_s_sign_len : (dScope 17).names.lookup (Str.ofString "len") = some .globalImplicit := by decide +kernel
def s_sign_W : ST :=
  (seqW (ifW (tstW (twoW (argsW (consW (twoW (locW 0) (intW 1) idxW) nilW) lenW) (intW 0) (e2W false))) (seqW (retW (intW 0)) (yesW .next)) (yesW .next)) (seqW (retW (ifW (tstW (twoW (locW 0) (intW 0) idxW)) (negW (intW 1)) (intW 1))) (yesW .next)))
@[irreducible] def s_sign_D : DW := defW 1 0 s_sign_W
theorem s_sign_go {vs : List PV} {φ : PV → Prop} (h : vs.length = 1 ∧ startC vs 0 fun l => s_sign_W ⟨l, [], true⟩ (finW φ)) : s_sign_D vs φ := by unfold s_sign_D; exact h
theorem s_sign_cl (L : Addr) : cellsFrom (L + 1) (dScope 17).names [] = [] := rfl
theorem s_sign_M {D : Rn} (hK : KOk D) : Meets D 142 1 s_sign_D := by
  unfold s_sign_D
  exact meets_of (ps := [(Str.ofString "x")]) (os := []) (sl := fun L => [((Str.ofString "x"), .frame)]) (cl := fun L => []) hK.d_s_sign (fun rs doc pm an h => len1 (P := fun rs => bindArgs (fnOf (Str.ofString "s_sign") (Str.ofString "s_sign") (dArgs 17) (dBody 17) (dScope 17) .none .none doc pm an (.ref 141) .none) ⟨rs, []⟩ = pure (List.zip [(Str.ofString "x")] rs)) (fun r0 => rfl) rs h) (by decide +kernel) (by decide +kernel) (by decide +kernel) rfl rfl rfl s_sign_cl (fun L => (slOf_cons (plc_frame k_s_sign_x) slOf_nil))
    (fun dp un gd outer gg base A₀ s0 L ok =>
      (ss_cons (ss_if (sb_cmp (se_builtin (se_boot ok hK.g_len boot_len nn_len k_s_sign_len nd_len) (sl_cons rfl (se_sub (se_frame (i := 0) ok rfl rfl k_s_sign_x nd_x) se_int (so_idx (fun _ _ _ => rfl))) sl_nil) sa_len rfl rfl) se_int so_eq rfl) (ss_cons (ss_ret se_int) ss_nil) ss_nil) (ss_cons (ss_ret (se_ifexp (sb_plain rfl (se_sub (se_frame (i := 0) ok rfl rfl k_s_sign_x nd_x) se_int (so_idx (fun _ _ _ => rfl)))) (se_neg se_int) se_int)) ss_nil)))
/-! s_add -/
theorem k_s_add_x : (dScope 18).names.lookup (Str.ofString "x") = some .local := by decide +kernel
theorem k_s_add_y : (dScope 18).names.lookup (Str.ofString "y") = some .local := by decide +kernel
theorem k_s_add_w : (dScope 18).names.lookup (Str.ofString "w") = some .local := by decide +kernel
theorem k_s_add_add : (dScope 18).names.lookup (Str.ofString "add") = some .globalImplicit := by decide +kernel
theorem k_s_add_compare : (dScope 18).names.lookup (Str.ofString "compare") = some .globalImplicit := by decide +kernel
theorem k_s_add_signed : (dScope 18).names.lookup (Str.ofString "signed") = some .globalImplicit := by decide +kernel
theorem k_s_add_sub : (dScope 18).names.lookup (Str.ofString "sub") = some .globalImplicit := by decide +kernel
def s_add_W : ST :=
  (seqW (ifW (tstW (twoW (twoW (locW 0) (intW 0) idxW) (twoW (locW 1) (intW 0) idxW) (e2W false))) (seqW (retW (callW 121 (rawW (.ref 121)) (consW (twoW (locW 0) (intW 0) idxW) (consW (callW 79 (rawW (.ref 79)) (consW (twoW (locW 0) (intW 1) idxW) (consW (twoW (locW 1) (intW 1) idxW) (consW (locW 2) nilW))) (goA add_D)) nilW)) (goA signed_D))) (yesW .next)) (yesW .next)) (seqW (ifW (tstW (twoW (callW 72 (rawW (.ref 72)) (consW (twoW (locW 0) (intW 1) idxW) (consW (twoW (locW 1) (intW 1) idxW) nilW)) (goA compare_D)) (intW 0) (c2W fun x y => decide (x < y)))) (seqW (retW (callW 121 (rawW (.ref 121)) (consW (twoW (locW 1) (intW 0) idxW) (consW (callW 86 (rawW (.ref 86)) (consW (twoW (locW 1) (intW 1) idxW) (consW (twoW (locW 0) (intW 1) idxW) (consW (locW 2) nilW))) (goA sub_D)) nilW)) (goA signed_D))) (yesW .next)) (yesW .next)) (seqW (retW (callW 121 (rawW (.ref 121)) (consW (twoW (locW 0) (intW 0) idxW) (consW (callW 86 (rawW (.ref 86)) (consW (twoW (locW 0) (intW 1) idxW) (consW (twoW (locW 1) (intW 1) idxW) (consW (locW 2) nilW))) (goA sub_D)) nilW)) (goA signed_D))) (yesW .next))))
@[irreducible] def s_add_D : DW := defW 3 0 s_add_W
theorem s_add_go {vs : List PV} {φ : PV → Prop} (h : vs.length = 3 ∧ startC vs 0 fun l => s_add_W ⟨l, [], true⟩ (finW φ)) : s_add_D vs φ := by unfold s_add_D; exact h
theorem s_add_cl (L : Addr) : cellsFrom (L + 1) (dScope 18).names [] = [] := rfl
theorem s_add_M {D : Rn} (hK : KOk D) : Meets D 149 3 s_add_D := by
  unfold s_add_D
  exact meets_of (ps := [(Str.ofString "x"), (Str.ofString "y"), (Str.ofString "w")]) (os := []) (sl := fun L => [((Str.ofString "x"), .frame), ((Str.ofString "y"), .frame), ((Str.ofString "w"), .frame)]) (cl := fun L => []) hK.d_s_add (fun rs doc pm an h => len3 (P := fun rs => bindArgs (fnOf (Str.ofString "s_add") (Str.ofString "s_add") (dArgs 18) (dBody 18) (dScope 18) .none .none doc pm an (.ref 148) .none) ⟨rs, []⟩ = pure (List.zip [(Str.ofString "x"), (Str.ofString "y"), (Str.ofString "w")] rs)) (fun r0 r1 r2 => rfl) rs h) (by decide +kernel) (by decide +kernel) (by decide +kernel) rfl rfl rfl s_add_cl (fun L => (slOf_cons (plc_frame k_s_add_x) (slOf_cons (plc_frame k_s_add_y) (slOf_cons (plc_frame k_s_add_w) slOf_nil))))
    (fun dp un gd outer gg base A₀ s0 L ok =>
      (ss_cons (ss_if (sb_cmp (se_sub (se_frame (i := 0) ok rfl rfl k_s_add_x nd_x) se_int (so_idx (fun _ _ _ => rfl))) (se_sub (se_frame (i := 1) ok rfl rfl k_s_add_y nd_y) se_int (so_idx (fun _ _ _ => rfl))) so_eq rfl) (ss_cons (ss_ret (se_call ok (signed_M hK).fn (se_glob ok hK.g_signed k_s_add_signed nd_signed) (sl_cons rfl (se_sub (se_frame (i := 0) ok rfl rfl k_s_add_x nd_x) se_int (so_idx (fun _ _ _ => rfl))) (sl_cons rfl (se_call ok (add_M hK).fn (se_glob ok hK.g_add k_s_add_add nd_add) (sl_cons rfl (se_sub (se_frame (i := 0) ok rfl rfl k_s_add_x nd_x) se_int (so_idx (fun _ _ _ => rfl))) (sl_cons rfl (se_sub (se_frame (i := 1) ok rfl rfl k_s_add_y nd_y) se_int (so_idx (fun _ _ _ => rfl))) (sl_cons rfl (se_frame (i := 2) ok rfl rfl k_s_add_w nd_w) sl_nil))) (sa_goA ok (add_M hK) (Nat.le_of_ble_eq_true rfl)) rfl) sl_nil)) (sa_goA ok (signed_M hK) (Nat.le_of_ble_eq_true rfl)) rfl)) ss_nil) ss_nil) (ss_cons (ss_if (sb_cmp (se_call ok (compare_M hK).fn (se_glob ok hK.g_compare k_s_add_compare nd_compare) (sl_cons rfl (se_sub (se_frame (i := 0) ok rfl rfl k_s_add_x nd_x) se_int (so_idx (fun _ _ _ => rfl))) (sl_cons rfl (se_sub (se_frame (i := 1) ok rfl rfl k_s_add_y nd_y) se_int (so_idx (fun _ _ _ => rfl))) sl_nil)) (sa_goA ok (compare_M hK) (Nat.le_of_ble_eq_true rfl)) rfl) se_int so_lt rfl) (ss_cons (ss_ret (se_call ok (signed_M hK).fn (se_glob ok hK.g_signed k_s_add_signed nd_signed) (sl_cons rfl (se_sub (se_frame (i := 1) ok rfl rfl k_s_add_y nd_y) se_int (so_idx (fun _ _ _ => rfl))) (sl_cons rfl (se_call ok (sub_M hK).fn (se_glob ok hK.g_sub k_s_add_sub nd_sub) (sl_cons rfl (se_sub (se_frame (i := 1) ok rfl rfl k_s_add_y nd_y) se_int (so_idx (fun _ _ _ => rfl))) (sl_cons rfl (se_sub (se_frame (i := 0) ok rfl rfl k_s_add_x nd_x) se_int (so_idx (fun _ _ _ => rfl))) (sl_cons rfl (se_frame (i := 2) ok rfl rfl k_s_add_w nd_w) sl_nil))) (sa_goA ok (sub_M hK) (Nat.le_of_ble_eq_true rfl)) rfl) sl_nil)) (sa_goA ok (signed_M hK) (Nat.le_of_ble_eq_true rfl)) rfl)) ss_nil) ss_nil) (ss_cons (ss_ret (se_call ok (signed_M hK).fn (se_glob ok hK.g_signed k_s_add_signed nd_signed) (sl_cons rfl (se_sub (se_frame (i := 0) ok rfl rfl k_s_add_x nd_x) se_int (so_idx (fun _ _ _ => rfl))) (sl_cons rfl (se_call ok (sub_M hK).fn (se_glob ok hK.g_sub k_s_add_sub nd_sub) (sl_cons rfl (se_sub (se_frame (i := 0) ok rfl rfl k_s_add_x nd_x) se_int (so_idx (fun _ _ _ => rfl))) (sl_cons rfl (se_sub (se_frame (i := 1) ok rfl rfl k_s_add_y nd_y) se_int (so_idx (fun _ _ _ => rfl))) (sl_cons rfl (se_frame (i := 2) ok rfl rfl k_s_add_w nd_w) sl_nil))) (sa_goA ok (sub_M hK) (Nat.le_of_ble_eq_true rfl)) rfl) sl_nil)) (sa_goA ok (signed_M hK) (Nat.le_of_ble_eq_true rfl)) rfl)) ss_nil))))
/-! s_sub -/
theorem k_s_sub_x : (dScope 19).names.lookup (Str.ofString "x") = some .local := by decide +kernel
theorem k_s_sub_y : (dScope 19).names.lookup (Str.ofString "y") = some .local := by decide +kernel
theorem k_s_sub_w : (dScope 19).names.lookup (Str.ofString "w") = some .local := by decide +kernel
theorem k_s_sub_s_add : (dScope 19).names.lookup (Str.ofString "s_add") = some .globalImplicit := by decide +kernel
theorem k_s_sub_s_neg : (dScope 19).names.lookup (Str.ofString "s_neg") = some .globalImplicit := by decide +kernel
def s_sub_W : ST :=
  (seqW (retW (callW 149 (rawW (.ref 149)) (consW (locW 0) (consW (callW 135 (rawW (.ref 135)) (consW (locW 1) nilW) (goA s_neg_D)) (consW (locW 2) nilW))) (goA s_add_D))) (yesW .next))
@[irreducible] def s_sub_D : DW := defW 3 0 s_sub_W
theorem s_sub_go {vs : List PV} {φ : PV → Prop} (h : vs.length = 3 ∧ startC vs 0 fun l => s_sub_W ⟨l, [], true⟩ (finW φ)) : s_sub_D vs φ := by unfold s_sub_D; exact h
theorem s_sub_cl (L : Addr) : cellsFrom (L + 1) (dScope 19).names [] = [] := rfl
theorem s_sub_M {D : Rn} (hK : KOk D) : Meets D 156 4 s_sub_D := by
  unfold s_sub_D
  exact meets_of (ps := [(Str.ofString "x"), (Str.ofString "y"), (Str.ofString "w")]) (os := []) (sl := fun L => [((Str.ofString "x"), .frame), ((Str.ofString "y"), .frame), ((Str.ofString "w"), .frame)]) (cl := fun L => []) hK.d_s_sub (fun rs doc pm an h => len3 (P := fun rs => bindArgs (fnOf (Str.ofString "s_sub") (Str.ofString "s_sub") (dArgs 19) (dBody 19) (dScope 19) .none .none doc pm an (.ref 155) .none) ⟨rs, []⟩ = pure (List.zip [(Str.ofString "x"), (Str.ofString "y"), (Str.ofString "w")] rs)) (fun r0 r1 r2 => rfl) rs h) (by decide +kernel) (by decide +kernel) (by decide +kernel) rfl rfl rfl s_sub_cl (fun L => (slOf_cons (plc_frame k_s_sub_x) (slOf_cons (plc_frame k_s_sub_y) (slOf_cons (plc_frame k_s_sub_w) slOf_nil))))
    (fun dp un gd outer gg base A₀ s0 L ok =>
      (ss_cons (ss_ret (se_call ok (s_add_M hK).fn (se_glob ok hK.g_s_add k_s_sub_s_add nd_s_add) (sl_cons rfl (se_frame (i := 0) ok rfl rfl k_s_sub_x nd_x) (sl_cons rfl (se_call ok (s_neg_M hK).fn (se_glob ok hK.g_s_neg k_s_sub_s_neg nd_s_neg) (sl_cons rfl (se_frame (i := 1) ok rfl rfl k_s_sub_y nd_y) sl_nil) (sa_goA ok (s_neg_M hK) (Nat.le_of_ble_eq_true rfl)) rfl) (sl_cons rfl (se_frame (i := 2) ok rfl rfl k_s_sub_w nd_w) sl_nil))) (sa_goA ok (s_add_M hK) (Nat.le_of_ble_eq_true rfl)) rfl)) ss_nil))
/-! s_mul -/
theorem k_s_mul_x : (dScope 20).names.lookup (Str.ofString "x") = some .local := by decide +kernel
theorem k_s_mul_y : (dScope 20).names.lookup (Str.ofString "y") = some .local := by decide +kernel
theorem k_s_mul_w : (dScope 20).names.lookup (Str.ofString "w") = some .local := by decide +kernel
theorem k_s_mul_mul : (dScope 20).names.lookup (Str.ofString "mul") = some .local := by decide +kernel
theorem k_s_mul_signed : (dScope 20).names.lookup (Str.ofString "signed") = some .globalImplicit := by decide +kernel
def s_mul_W : ST :=
  (seqW (retW (callW 121 (rawW (.ref 121)) (consW (twoW (twoW (locW 0) (intW 0) idxW) (twoW (locW 1) (intW 0) idxW) (e2W true)) (consW (callW 236 (locW 3) (consW (twoW (locW 0) (intW 1) idxW) (consW (twoW (locW 1) (intW 1) idxW) (consW (locW 2) nilW))) (goA mul_school_D)) nilW)) (goA signed_D))) (yesW .next))
@[irreducible] def s_mul_D : DW := defW 4 0 s_mul_W
theorem s_mul_go {vs : List PV} {φ : PV → Prop} (h : vs.length = 4 ∧ startC vs 0 fun l => s_mul_W ⟨l, [], true⟩ (finW φ)) : s_mul_D vs φ := by unfold s_mul_D; exact h
theorem s_mul_cl (L : Addr) : cellsFrom (L + 1) (dScope 20).names [] = [] := rfl
theorem s_mul_M {D : Rn} (hK : KOk D) : Meets D 163 3 s_mul_D := by
  unfold s_mul_D
  exact meets_of (ps := [(Str.ofString "x"), (Str.ofString "y"), (Str.ofString "w"), (Str.ofString "mul")]) (os := []) (sl := fun L => [((Str.ofString "x"), .frame), ((Str.ofString "y"), .frame), ((Str.ofString "w"), .frame), ((Str.ofString "mul"), .frame)]) (cl := fun L => []) hK.d_s_mul (fun rs doc pm an h => len4 (P := fun rs => bindArgs (fnOf (Str.ofString "s_mul") (Str.ofString "s_mul") (dArgs 20) (dBody 20) (dScope 20) .none .none doc pm an (.ref 162) .none) ⟨rs, []⟩ = pure (List.zip [(Str.ofString "x"), (Str.ofString "y"), (Str.ofString "w"), (Str.ofString "mul")] rs)) (fun r0 r1 r2 r3 => rfl) rs h) (by decide +kernel) (by decide +kernel) (by decide +kernel) rfl rfl rfl s_mul_cl (fun L => (slOf_cons (plc_frame k_s_mul_x) (slOf_cons (plc_frame k_s_mul_y) (slOf_cons (plc_frame k_s_mul_w) (slOf_cons (plc_frame k_s_mul_mul) slOf_nil)))))
    (fun dp un gd outer gg base A₀ s0 L ok =>
      (ss_cons (ss_ret (se_call ok (signed_M hK).fn (se_glob ok hK.g_signed k_s_mul_signed nd_signed) (sl_cons rfl (se_cmp (se_sub (se_frame (i := 0) ok rfl rfl k_s_mul_x nd_x) se_int (so_idx (fun _ _ _ => rfl))) (se_sub (se_frame (i := 1) ok rfl rfl k_s_mul_y nd_y) se_int (so_idx (fun _ _ _ => rfl))) so_ne rfl) (sl_cons rfl (se_call ok (mul_school_M hK).fn (se_frame (i := 3) ok rfl rfl k_s_mul_mul nd_mul) (sl_cons rfl (se_sub (se_frame (i := 0) ok rfl rfl k_s_mul_x nd_x) se_int (so_idx (fun _ _ _ => rfl))) (sl_cons rfl (se_sub (se_frame (i := 1) ok rfl rfl k_s_mul_y nd_y) se_int (so_idx (fun _ _ _ => rfl))) (sl_cons rfl (se_frame (i := 2) ok rfl rfl k_s_mul_w nd_w) sl_nil))) (sa_goA ok (mul_school_M hK) (Nat.le_of_ble_eq_true rfl)) rfl) sl_nil)) (sa_goA ok (signed_M hK) (Nat.le_of_ble_eq_true rfl)) rfl)) ss_nil))
/-! tdiv -/
theorem k_tdiv_x : (dScope 21).names.lookup (Str.ofString "x") = some .local := by decide +kernel
theorem k_tdiv_y : (dScope 21).names.lookup (Str.ofString "y") = some .local := by decide +kernel
theorem k_tdiv_w : (dScope 21).names.lookup (Str.ofString "w") = some .local := by decide +kernel
theorem k_tdiv_divrem : (dScope 21).names.lookup (Str.ofString "divrem") = some .local := by decide +kernel
theorem k_tdiv_quotient : (dScope 21).names.lookup (Str.ofString "quotient") = some .local := by decide +kernel
theorem k_tdiv_rest : (dScope 21).names.lookup (Str.ofString "rest") = some .local := by decide +kernel
theorem k_tdiv_len : (dScope 21).names.lookup (Str.ofString "len") = some .globalImplicit := by decide +kernel
theorem k_tdiv_signed : (dScope 21).names.lookup (Str.ofString "signed") = some .globalImplicit := by decide +kernel
def tdiv_W : ST :=
  (seqW (ifW (tstW (twoW (argsW (consW (twoW (locW 1) (intW 1) idxW) nilW) lenW) (intW 0) (e2W false))) noW (yesW .next)) (seqW (asgW (callW 278 (locW 3) (consW (twoW (locW 0) (intW 1) idxW) (consW (twoW (locW 1) (intW 1) idxW) (consW (locW 2) nilW))) (goA divrem_school_D)) (unpW [(stW 4), (stW 5)])) (seqW (retW (tupsW (consW (callW 121 (rawW (.ref 121)) (consW (twoW (twoW (locW 0) (intW 0) idxW) (twoW (locW 1) (intW 0) idxW) (e2W true)) (consW (locW 4) nilW)) (goA signed_D)) (consW (callW 121 (rawW (.ref 121)) (consW (twoW (locW 0) (intW 0) idxW) (consW (locW 5) nilW)) (goA signed_D)) nilW)))) (yesW .next))))
@[irreducible] def tdiv_D : DW := defW 4 2 tdiv_W
theorem tdiv_go {vs : List PV} {φ : PV → Prop} (h : vs.length = 4 ∧ startC vs 2 fun l => tdiv_W ⟨l, [], true⟩ (finW φ)) : tdiv_D vs φ := by unfold tdiv_D; exact h
theorem tdiv_cl (L : Addr) : cellsFrom (L + 1) (dScope 21).names [] = [] := rfl
theorem tdiv_M {D : Rn} (hK : KOk D) : Meets D 170 5 tdiv_D := by
  unfold tdiv_D
  exact meets_of (ps := [(Str.ofString "x"), (Str.ofString "y"), (Str.ofString "w"), (Str.ofString "divrem")]) (os := [(Str.ofString "quotient"), (Str.ofString "rest")]) (sl := fun L => [((Str.ofString "x"), .frame), ((Str.ofString "y"), .frame), ((Str.ofString "w"), .frame), ((Str.ofString "divrem"), .frame), ((Str.ofString "quotient"), .frame), ((Str.ofString "rest"), .frame)]) (cl := fun L => []) hK.d_tdiv (fun rs doc pm an h => len4 (P := fun rs => bindArgs (fnOf (Str.ofString "tdiv") (Str.ofString "tdiv") (dArgs 21) (dBody 21) (dScope 21) .none .none doc pm an (.ref 169) .none) ⟨rs, []⟩ = pure (List.zip [(Str.ofString "x"), (Str.ofString "y"), (Str.ofString "w"), (Str.ofString "divrem")] rs)) (fun r0 r1 r2 r3 => rfl) rs h) (by decide +kernel) (by decide +kernel) (by decide +kernel) rfl rfl rfl tdiv_cl (fun L => (slOf_cons (plc_frame k_tdiv_x) (slOf_cons (plc_frame k_tdiv_y) (slOf_cons (plc_frame k_tdiv_w) (slOf_cons (plc_frame k_tdiv_divrem) (slOf_cons (plc_frame k_tdiv_quotient) (slOf_cons (plc_frame k_tdiv_rest) slOf_nil)))))))
    (fun dp un gd outer gg base A₀ s0 L ok =>
      (ss_cons (ss_if (sb_cmp (se_builtin (se_boot ok hK.g_len boot_len nn_len k_tdiv_len nd_len) (sl_cons rfl (se_sub (se_frame (i := 1) ok rfl rfl k_tdiv_y nd_y) se_int (so_idx (fun _ _ _ => rfl))) sl_nil) sa_len rfl rfl) se_int so_eq rfl) sss_never ss_nil) (ss_cons (ss_tuple (se_call ok (divrem_school_M hK).fn (se_frame (i := 3) ok rfl rfl k_tdiv_divrem nd_divrem) (sl_cons rfl (se_sub (se_frame (i := 0) ok rfl rfl k_tdiv_x nd_x) se_int (so_idx (fun _ _ _ => rfl))) (sl_cons rfl (se_sub (se_frame (i := 1) ok rfl rfl k_tdiv_y nd_y) se_int (so_idx (fun _ _ _ => rfl))) (sl_cons rfl (se_frame (i := 2) ok rfl rfl k_tdiv_w nd_w) sl_nil))) (sa_goA ok (divrem_school_M hK) (Nat.le_of_ble_eq_true rfl)) rfl) (st_tuple (.cons (st_name (st_frame (i := 4) ok rfl rfl k_tdiv_quotient)) (.cons (st_name (st_frame (i := 5) ok rfl rfl k_tdiv_rest)) STs.nil)) rfl) rfl rfl) (ss_cons (ss_ret (se_tuple (sl_cons rfl (se_call ok (signed_M hK).fn (se_glob ok hK.g_signed k_tdiv_signed nd_signed) (sl_cons rfl (se_cmp (se_sub (se_frame (i := 0) ok rfl rfl k_tdiv_x nd_x) se_int (so_idx (fun _ _ _ => rfl))) (se_sub (se_frame (i := 1) ok rfl rfl k_tdiv_y nd_y) se_int (so_idx (fun _ _ _ => rfl))) so_ne rfl) (sl_cons rfl (se_frame (i := 4) ok rfl rfl k_tdiv_quotient nd_quotient) sl_nil)) (sa_goA ok (signed_M hK) (Nat.le_of_ble_eq_true rfl)) rfl) (sl_cons rfl (se_call ok (signed_M hK).fn (se_glob ok hK.g_signed k_tdiv_signed nd_signed) (sl_cons rfl (se_sub (se_frame (i := 0) ok rfl rfl k_tdiv_x nd_x) se_int (so_idx (fun _ _ _ => rfl))) (sl_cons rfl (se_frame (i := 5) ok rfl rfl k_tdiv_rest nd_rest) sl_nil)) (sa_goA ok (signed_M hK) (Nat.le_of_ble_eq_true rfl)) rfl) sl_nil)))) ss_nil))))
/-! m_of -/
theorem k_m_of_rows : (dScope 25).names.lookup (Str.ofString "rows") = some .local := by decide +kernel
theorem k_m_of_w : (dScope 25).names.lookup (Str.ofString "w") = some .cell := by decide +kernel
def m_of_W : ST :=
  (seqW (retW (compW (locW 0) (compW (locW 2) (callW 128 (rawW (.ref 128)) (consW (locW 3) (consW (locW 1) nilW)) (goA s_of_D))))) (yesW .next))
@[irreducible] def m_of_D : DW := defW 2 0 m_of_W
theorem m_of_go {vs : List PV} {φ : PV → Prop} (h : vs.length = 2 ∧ startC vs 0 fun l => m_of_W ⟨l, [], true⟩ (finW φ)) : m_of_D vs φ := by unfold m_of_D; exact h
theorem m_of_cl (L : Addr) : cellsFrom (L + 1) (dScope 25).names [] = [((Str.ofString "w"), L + 1)] := rfl
theorem m_of_M {D : Rn} (hK : KOk D) : Meets D 179 3 m_of_D := by
  unfold m_of_D
  exact meets_of (ps := [(Str.ofString "rows"), (Str.ofString "w")]) (os := []) (sl := fun L => [((Str.ofString "rows"), .frame), ((Str.ofString "w"), .cell (L + 1))]) (cl := fun L => [((Str.ofString "w"), L + 1)]) hK.d_m_of (fun rs doc pm an h => len2 (P := fun rs => bindArgs (fnOf (Str.ofString "m_of") (Str.ofString "m_of") (dArgs 25) (dBody 25) (dScope 25) .none .none doc pm an (.ref 178) .none) ⟨rs, []⟩ = pure (List.zip [(Str.ofString "rows"), (Str.ofString "w")] rs)) (fun r0 r1 => rfl) rs h) (by decide +kernel) (by decide +kernel) (by decide +kernel) rfl rfl rfl m_of_cl (fun L => (slOf_cons (plc_frame k_m_of_rows) (slOf_cons (plc_cell k_m_of_w (m_of_cl L) rfl) slOf_nil)))
    (fun dp un gd outer gg base A₀ s0 L ok =>
      (ss_cons (ss_ret (se_comp ok (se_frame (i := 0) ok rfl rfl k_m_of_rows nd_rows) rfl (by decide +kernel) rfl (by decide +kernel) (by decide +kernel) (fun _ ok' => (se_comp ok' (se_dict (i := 2) ok' rfl rfl rfl nd_row) rfl (by decide +kernel) rfl (by decide +kernel) (by decide +kernel) (fun _ ok'' => (se_call ok'' (s_of_M hK).fn (se_glob ok'' hK.g_s_of rfl nd_s_of) (sl_cons rfl (se_dict (i := 3) ok'' rfl rfl rfl nd_one) (sl_cons rfl (se_cell (i := 1) ok'' rfl rfl rfl nd_w) sl_nil)) (sa_goA ok'' (s_of_M hK) (Nat.le_of_ble_eq_true rfl)) rfl)) (fun _ => rfl))) (fun _ => rfl))) ss_nil))
/-! m_turned -/
theorem k_m_turned_a : (dScope 26).names.lookup (Str.ofString "a") = some .cell := by decide +kernel
theorem k_m_turned_len : (dScope 26).names.lookup (Str.ofString "len") = some .globalImplicit := by decide +kernel
theorem k_m_turned_range : (dScope 26).names.lookup (Str.ofString "range") = some .globalImplicit := by decide +kernel
def m_turned_W : ST :=
  (seqW (retW (ifW (tstW (twoW (argsW (consW (locW 0) nilW) lenW) (intW 0) (c2W fun x y => decide (y < x)))) (compW (argsW (consW (argsW (consW (twoW (locW 0) (intW 0) idxW) nilW) lenW) nilW) rangeW) (compW (locW 0) (twoW (locW 2) (locW 1) idxW))) (froW nilW))) (yesW .next))
@[irreducible] def m_turned_D : DW := defW 1 0 m_turned_W
theorem m_turned_go {vs : List PV} {φ : PV → Prop} (h : vs.length = 1 ∧ startC vs 0 fun l => m_turned_W ⟨l, [], true⟩ (finW φ)) : m_turned_D vs φ := by unfold m_turned_D; exact h
theorem m_turned_cl (L : Addr) : cellsFrom (L + 1) (dScope 26).names [] = [((Str.ofString "a"), L + 1)] := rfl
theorem m_turned_M {D : Rn} (hK : KOk D) : Meets D 184 1 m_turned_D := by
  unfold m_turned_D
  exact meets_of (ps := [(Str.ofString "a")]) (os := []) (sl := fun L => [((Str.ofString "a"), .cell (L + 1))]) (cl := fun L => [((Str.ofString "a"), L + 1)]) hK.d_m_turned (fun rs doc pm an h => len1 (P := fun rs => bindArgs (fnOf (Str.ofString "m_turned") (Str.ofString "m_turned") (dArgs 26) (dBody 26) (dScope 26) .none .none doc pm an (.ref 183) .none) ⟨rs, []⟩ = pure (List.zip [(Str.ofString "a")] rs)) (fun r0 => rfl) rs h) (by decide +kernel) (by decide +kernel) (by decide +kernel) rfl rfl rfl m_turned_cl (fun L => (slOf_cons (plc_cell k_m_turned_a (m_turned_cl L) rfl) slOf_nil))
    (fun dp un gd outer gg base A₀ s0 L ok =>
      (ss_cons (ss_ret (se_ifexp (sb_cmp (se_builtin (se_boot ok hK.g_len boot_len nn_len k_m_turned_len nd_len) (sl_cons rfl (se_cell (i := 0) ok rfl rfl rfl nd_a) sl_nil) sa_len rfl rfl) se_int so_gt rfl) (se_compC ok (se_type (se_boot ok hK.g_range boot_range nn_range k_m_turned_range nd_range) (sl_cons rfl (se_builtin (se_boot ok hK.g_len boot_len nn_len k_m_turned_len nd_len) (sl_cons rfl (se_sub (se_cell (i := 0) ok rfl rfl rfl nd_a) se_int (so_idx (fun _ _ _ => rfl))) sl_nil) sa_len rfl rfl) sl_nil) sa_range rfl rfl) rfl (fun _ => rfl) (fun _ => rfl) rfl (by decide +kernel) (fun _ _ => rfl) (fun _ _ ok' => (se_comp ok' (se_cell (i := 0) ok' rfl rfl rfl nd_a) rfl (by decide +kernel) rfl (by decide +kernel) (by decide +kernel) (fun _ ok'' => (se_sub (se_dict (i := 2) ok'' rfl rfl rfl nd_row) (se_cell (i := 1) ok'' rfl rfl rfl nd_at) (so_idx (fun _ _ _ => rfl)))) (fun _ => rfl))) (fun _ => rfl)) (se_listF sl_nil))) ss_nil))
/-! inner -/
theorem k_inner_one : (dScope 27).names.lookup (Str.ofString "one") = some .local := by decide +kernel
theorem k_inner_other : (dScope 27).names.lookup (Str.ofString "other") = some .local := by decide +kernel
theorem k_inner_w : (dScope 27).names.lookup (Str.ofString "w") = some .local := by decide +kernel
theorem k_inner_mul : (dScope 27).names.lookup (Str.ofString "mul") = some .local := by decide +kernel
theorem k_inner_found : (dScope 27).names.lookup (Str.ofString "found") = some .local := by decide +kernel
theorem k_inner_at : (dScope 27).names.lookup (Str.ofString "at") = some .local := by decide +kernel
theorem k_inner_value : (dScope 27).names.lookup (Str.ofString "value") = some .local := by decide +kernel
theorem k_inner_NOUGHT : (dScope 27).names.lookup (Str.ofString "NOUGHT") = some .globalImplicit := by decide +kernel
theorem k_inner_enumerate : (dScope 27).names.lookup (Str.ofString "enumerate") = some .globalImplicit := by decide +kernel
theorem k_inner_s_add : (dScope 27).names.lookup (Str.ofString "s_add") = some .globalImplicit := by decide +kernel
theorem k_inner_s_mul : (dScope 27).names.lookup (Str.ofString "s_mul") = some .globalImplicit := by decide +kernel
def inner_W : ST :=
  (seqW (asgW (fixW (.tup [.raw (.bool false), .lis []])) (stW 4)) (seqW (forEW (locW 0) [(stW 5), (stW 6)] (seqW (asgW (callW 149 (rawW (.ref 149)) (consW (locW 4) (consW (callW 163 (rawW (.ref 163)) (consW (locW 6) (consW (twoW (locW 1) (locW 5) idxW) (consW (locW 2) (consW (locW 3) nilW)))) (goA s_mul_D)) (consW (locW 2) nilW))) (goA s_add_D)) (stW 4)) (yesW .next))) (seqW (retW (locW 4)) (yesW .next))))
@[irreducible] def inner_D : DW := defW 4 3 inner_W
theorem inner_go {vs : List PV} {φ : PV → Prop} (h : vs.length = 4 ∧ startC vs 3 fun l => inner_W ⟨l, [], true⟩ (finW φ)) : inner_D vs φ := by unfold inner_D; exact h
theorem inner_cl (L : Addr) : cellsFrom (L + 1) (dScope 27).names [] = [] := rfl
theorem inner_M {D : Rn} (hK : KOk D) : Meets D 191 4 inner_D := by
  unfold inner_D
  exact meets_of (ps := [(Str.ofString "one"), (Str.ofString "other"), (Str.ofString "w"), (Str.ofString "mul")]) (os := [(Str.ofString "found"), (Str.ofString "at"), (Str.ofString "value")]) (sl := fun L => [((Str.ofString "one"), .frame), ((Str.ofString "other"), .frame), ((Str.ofString "w"), .frame), ((Str.ofString "mul"), .frame), ((Str.ofString "found"), .frame), ((Str.ofString "at"), .frame), ((Str.ofString "value"), .frame)]) (cl := fun L => []) hK.d_inner (fun rs doc pm an h => len4 (P := fun rs => bindArgs (fnOf (Str.ofString "inner") (Str.ofString "inner") (dArgs 27) (dBody 27) (dScope 27) .none .none doc pm an (.ref 190) .none) ⟨rs, []⟩ = pure (List.zip [(Str.ofString "one"), (Str.ofString "other"), (Str.ofString "w"), (Str.ofString "mul")] rs)) (fun r0 r1 r2 r3 => rfl) rs h) (by decide +kernel) (by decide +kernel) (by decide +kernel) rfl rfl rfl inner_cl (fun L => (slOf_cons (plc_frame k_inner_one) (slOf_cons (plc_frame k_inner_other) (slOf_cons (plc_frame k_inner_w) (slOf_cons (plc_frame k_inner_mul) (slOf_cons (plc_frame k_inner_found) (slOf_cons (plc_frame k_inner_at) (slOf_cons (plc_frame k_inner_value) slOf_nil))))))))
    (fun dp un gd outer gg base A₀ s0 L ok =>
      (ss_cons (ss_name (se_fix ok hK.g_NOUGHT hK.f_NOUGHT k_inner_NOUGHT nd_NOUGHT) (st_frame (i := 4) ok rfl rfl k_inner_found) rfl) (ss_cons (ss_forE (se_boot ok hK.g_enumerate boot_enumerate nn_enumerate k_inner_enumerate nd_enumerate) (se_frame (i := 0) ok rfl rfl k_inner_one nd_one) rfl (.cons (st_name (st_frame (i := 5) ok rfl rfl k_inner_at)) (.cons (st_name (st_frame (i := 6) ok rfl rfl k_inner_value)) STs.nil)) rfl rfl (ss_cons (ss_name (se_call ok (s_add_M hK).fn (se_glob ok hK.g_s_add k_inner_s_add nd_s_add) (sl_cons rfl (se_frame (i := 4) ok rfl rfl k_inner_found nd_found) (sl_cons rfl (se_call ok (s_mul_M hK).fn (se_glob ok hK.g_s_mul k_inner_s_mul nd_s_mul) (sl_cons rfl (se_frame (i := 6) ok rfl rfl k_inner_value nd_value) (sl_cons rfl (se_sub (se_frame (i := 1) ok rfl rfl k_inner_other nd_other) (se_frame (i := 5) ok rfl rfl k_inner_at nd_at) (so_idx (fun _ _ _ => rfl))) (sl_cons rfl (se_frame (i := 2) ok rfl rfl k_inner_w nd_w) (sl_cons rfl (se_frame (i := 3) ok rfl rfl k_inner_mul nd_mul) sl_nil)))) (sa_goA ok (s_mul_M hK) (Nat.le_of_ble_eq_true rfl)) rfl) (sl_cons rfl (se_frame (i := 2) ok rfl rfl k_inner_w nd_w) sl_nil))) (sa_goA ok (s_add_M hK) (Nat.le_of_ble_eq_true rfl)) rfl) (st_frame (i := 4) ok rfl rfl k_inner_found) rfl) ss_nil) (fun _ => rfl)) (ss_cons (ss_ret (se_frame (i := 4) ok rfl rfl k_inner_found nd_found)) ss_nil))))
/-! m_mul -/
theorem k_m_mul_a : (dScope 28).names.lookup (Str.ofString "a") = some .local := by decide +kernel
theorem k_m_mul_b : (dScope 28).names.lookup (Str.ofString "b") = some .local := by decide +kernel
theorem k_m_mul_w : (dScope 28).names.lookup (Str.ofString "w") = some .cell := by decide +kernel
theorem k_m_mul_mul : (dScope 28).names.lookup (Str.ofString "mul") = some .cell := by decide +kernel
theorem k_m_mul_columns : (dScope 28).names.lookup (Str.ofString "columns") = some .cell := by decide +kernel
theorem k_m_mul_m_turned : (dScope 28).names.lookup (Str.ofString "m_turned") = some .globalImplicit := by decide +kernel
def m_mul_W : ST :=
  (seqW (asgW (callW 184 (rawW (.ref 184)) (consW (locW 1) nilW) (goA m_turned_D)) (stW 4)) (seqW (retW (compW (locW 0) (compW (locW 4) (callW 191 (rawW (.ref 191)) (consW (locW 5) (consW (locW 6) (consW (locW 2) (consW (locW 3) nilW)))) (goA inner_D))))) (yesW .next)))
@[irreducible] def m_mul_D : DW := defW 4 1 m_mul_W
theorem m_mul_go {vs : List PV} {φ : PV → Prop} (h : vs.length = 4 ∧ startC vs 1 fun l => m_mul_W ⟨l, [], true⟩ (finW φ)) : m_mul_D vs φ := by unfold m_mul_D; exact h
theorem m_mul_cl (L : Addr) : cellsFrom (L + 1) (dScope 28).names [] = [((Str.ofString "columns"), L + 1 + 2), ((Str.ofString "mul"), L + 1 + 1), ((Str.ofString "w"), L + 1)] := rfl
theorem m_mul_M {D : Rn} (hK : KOk D) : Meets D 196 5 m_mul_D := by
  unfold m_mul_D
  exact meets_of (ps := [(Str.ofString "a"), (Str.ofString "b"), (Str.ofString "w"), (Str.ofString "mul")]) (os := [(Str.ofString "columns")]) (sl := fun L => [((Str.ofString "a"), .frame), ((Str.ofString "b"), .frame), ((Str.ofString "w"), .cell (L + 1)), ((Str.ofString "mul"), .cell (L + 1 + 1)), ((Str.ofString "columns"), .cell (L + 1 + 2))]) (cl := fun L => [((Str.ofString "columns"), L + 1 + 2), ((Str.ofString "mul"), L + 1 + 1), ((Str.ofString "w"), L + 1)]) hK.d_m_mul (fun rs doc pm an h => len4 (P := fun rs => bindArgs (fnOf (Str.ofString "m_mul") (Str.ofString "m_mul") (dArgs 28) (dBody 28) (dScope 28) .none .none doc pm an (.ref 195) .none) ⟨rs, []⟩ = pure (List.zip [(Str.ofString "a"), (Str.ofString "b"), (Str.ofString "w"), (Str.ofString "mul")] rs)) (fun r0 r1 r2 r3 => rfl) rs h) (by decide +kernel) (by decide +kernel) (by decide +kernel) rfl rfl rfl m_mul_cl (fun L => (slOf_cons (plc_frame k_m_mul_a) (slOf_cons (plc_frame k_m_mul_b) (slOf_cons (plc_cell k_m_mul_w (m_mul_cl L) rfl) (slOf_cons (plc_cell k_m_mul_mul (m_mul_cl L) rfl) (slOf_cons (plc_cell k_m_mul_columns (m_mul_cl L) rfl) slOf_nil))))))
    (fun dp un gd outer gg base A₀ s0 L ok =>
      (ss_cons (ss_name (se_call ok (m_turned_M hK).fn (se_glob ok hK.g_m_turned k_m_mul_m_turned nd_m_turned) (sl_cons rfl (se_frame (i := 1) ok rfl rfl k_m_mul_b nd_b) sl_nil) (sa_goA ok (m_turned_M hK) (Nat.le_of_ble_eq_true rfl)) rfl) (st_cell (i := 4) ok rfl rfl rfl) rfl) (ss_cons (ss_ret (se_compC ok (se_frame (i := 0) ok rfl rfl k_m_mul_a nd_a) rfl (fun _ => rfl) (fun _ => rfl) rfl (by decide +kernel) (fun _ _ => rfl) (fun _ _ ok' => (se_comp ok' (se_cell (i := 4) ok' rfl rfl rfl nd_columns) rfl (by decide +kernel) rfl (by decide +kernel) (by decide +kernel) (fun _ ok'' => (se_call ok'' (inner_M hK).fn (se_glob ok'' hK.g_inner rfl nd_inner) (sl_cons rfl (se_cell (i := 5) ok'' rfl rfl rfl nd_row) (sl_cons rfl (se_dict (i := 6) ok'' rfl rfl rfl nd_column) (sl_cons rfl (se_cell (i := 2) ok'' rfl rfl rfl nd_w) (sl_cons rfl (se_cell (i := 3) ok'' rfl rfl rfl nd_mul) sl_nil)))) (sa_goA ok'' (inner_M hK) (Nat.le_of_ble_eq_true rfl)) rfl)) (fun _ => rfl))) (fun _ => rfl))) ss_nil)))
/-! exact -/
theorem k_exact_x : (dScope 29).names.lookup (Str.ofString "x") = some .local := by decide +kernel
theorem k_exact_y : (dScope 29).names.lookup (Str.ofString "y") = some .local := by decide +kernel
theorem k_exact_w : (dScope 29).names.lookup (Str.ofString "w") = some .local := by decide +kernel
theorem k_exact_divrem : (dScope 29).names.lookup (Str.ofString "divrem") = some .local := by decide +kernel
theorem k_exact_found : (dScope 29).names.lookup (Str.ofString "found") = some .local := by decide +kernel
theorem k_exact_rest : (dScope 29).names.lookup (Str.ofString "rest") = some .local := by decide +kernel
theorem k_exact_tdiv : (dScope 29).names.lookup (Str.ofString "tdiv") = some .globalImplicit := by decide +kernel
def exact_W : ST :=
  (seqW (asgW (callW 170 (rawW (.ref 170)) (consW (locW 0) (consW (locW 1) (consW (locW 2) (consW (locW 3) nilW)))) (goA tdiv_D)) (unpW [(stW 4), (stW 5)])) (seqW (retW (locW 4)) (yesW .next)))
@[irreducible] def exact_D : DW := defW 4 2 exact_W
theorem exact_go {vs : List PV} {φ : PV → Prop} (h : vs.length = 4 ∧ startC vs 2 fun l => exact_W ⟨l, [], true⟩ (finW φ)) : exact_D vs φ := by unfold exact_D; exact h
theorem exact_cl (L : Addr) : cellsFrom (L + 1) (dScope 29).names [] = [] := rfl
theorem exact_M {D : Rn} (hK : KOk D) : Meets D 203 6 exact_D := by
  unfold exact_D
  exact meets_of (ps := [(Str.ofString "x"), (Str.ofString "y"), (Str.ofString "w"), (Str.ofString "divrem")]) (os := [(Str.ofString "found"), (Str.ofString "rest")]) (sl := fun L => [((Str.ofString "x"), .frame), ((Str.ofString "y"), .frame), ((Str.ofString "w"), .frame), ((Str.ofString "divrem"), .frame), ((Str.ofString "found"), .frame), ((Str.ofString "rest"), .frame)]) (cl := fun L => []) hK.d_exact (fun rs doc pm an h => len4 (P := fun rs => bindArgs (fnOf (Str.ofString "exact") (Str.ofString "exact") (dArgs 29) (dBody 29) (dScope 29) .none .none doc pm an (.ref 202) .none) ⟨rs, []⟩ = pure (List.zip [(Str.ofString "x"), (Str.ofString "y"), (Str.ofString "w"), (Str.ofString "divrem")] rs)) (fun r0 r1 r2 r3 => rfl) rs h) (by decide +kernel) (by decide +kernel) (by decide +kernel) rfl rfl rfl exact_cl (fun L => (slOf_cons (plc_frame k_exact_x) (slOf_cons (plc_frame k_exact_y) (slOf_cons (plc_frame k_exact_w) (slOf_cons (plc_frame k_exact_divrem) (slOf_cons (plc_frame k_exact_found) (slOf_cons (plc_frame k_exact_rest) slOf_nil)))))))
    (fun dp un gd outer gg base A₀ s0 L ok =>
      (ss_cons (ss_tuple (se_call ok (tdiv_M hK).fn (se_glob ok hK.g_tdiv k_exact_tdiv nd_tdiv) (sl_cons rfl (se_frame (i := 0) ok rfl rfl k_exact_x nd_x) (sl_cons rfl (se_frame (i := 1) ok rfl rfl k_exact_y nd_y) (sl_cons rfl (se_frame (i := 2) ok rfl rfl k_exact_w nd_w) (sl_cons rfl (se_frame (i := 3) ok rfl rfl k_exact_divrem nd_divrem) sl_nil)))) (sa_goA ok (tdiv_M hK) (Nat.le_of_ble_eq_true rfl)) rfl) (st_tuple (.cons (st_name (st_frame (i := 4) ok rfl rfl k_exact_found)) (.cons (st_name (st_frame (i := 5) ok rfl rfl k_exact_rest)) STs.nil)) rfl) rfl rfl) (ss_cons (ss_ret (se_frame (i := 4) ok rfl rfl k_exact_found nd_found)) ss_nil)))
/-! pivot_row -/
theorem k_pivot_row_rows : (dScope 30).names.lookup (Str.ofString "rows") = some .local := by decide +kernel
theorem k_pivot_row_top : (dScope 30).names.lookup (Str.ofString "top") = some .local := by decide +kernel
theorem k_pivot_row_column : (dScope 30).names.lookup (Str.ofString "column") = some .local := by decide +kernel
theorem k_pivot_row_at : (dScope 30).names.lookup (Str.ofString "at") = some .local := by decide +kernel
theorem k_pivot_row_len : (dScope 30).names.lookup (Str.ofString "len") = some .globalImplicit := by decide +kernel
theorem k_pivot_row_range : (dScope 30).names.lookup (Str.ofString "range") = some .globalImplicit := by decide +kernel
theorem k_pivot_row_s_sign : (dScope 30).names.lookup (Str.ofString "s_sign") = some .globalImplicit := by decide +kernel
def pivot_row_W : ST :=
  (seqW (forW (argsW (consW (locW 1) (consW (argsW (consW (locW 0) nilW) lenW) nilW)) rangeW) (stW 3) (seqW (ifW (tstW (twoW (callW 142 (rawW (.ref 142)) (consW (twoW (twoW (locW 0) (locW 3) idxW) (locW 2) idxW) nilW) (goA s_sign_D)) (intW 0) (e2W true))) (seqW (retW (locW 3)) (yesW .next)) (yesW .next)) (yesW .next))) (seqW (retW (negW (intW 1))) (yesW .next)))
@[irreducible] def pivot_row_D : DW := defW 3 1 pivot_row_W
theorem pivot_row_go {vs : List PV} {φ : PV → Prop} (h : vs.length = 3 ∧ startC vs 1 fun l => pivot_row_W ⟨l, [], true⟩ (finW φ)) : pivot_row_D vs φ := by unfold pivot_row_D; exact h
theorem pivot_row_cl (L : Addr) : cellsFrom (L + 1) (dScope 30).names [] = [] := rfl
theorem pivot_row_M {D : Rn} (hK : KOk D) : Meets D 210 2 pivot_row_D := by
  unfold pivot_row_D
  exact meets_of (ps := [(Str.ofString "rows"), (Str.ofString "top"), (Str.ofString "column")]) (os := [(Str.ofString "at")]) (sl := fun L => [((Str.ofString "rows"), .frame), ((Str.ofString "top"), .frame), ((Str.ofString "column"), .frame), ((Str.ofString "at"), .frame)]) (cl := fun L => []) hK.d_pivot_row (fun rs doc pm an h => len3 (P := fun rs => bindArgs (fnOf (Str.ofString "pivot_row") (Str.ofString "pivot_row") (dArgs 30) (dBody 30) (dScope 30) .none .none doc pm an (.ref 209) .none) ⟨rs, []⟩ = pure (List.zip [(Str.ofString "rows"), (Str.ofString "top"), (Str.ofString "column")] rs)) (fun r0 r1 r2 => rfl) rs h) (by decide +kernel) (by decide +kernel) (by decide +kernel) rfl rfl rfl pivot_row_cl (fun L => (slOf_cons (plc_frame k_pivot_row_rows) (slOf_cons (plc_frame k_pivot_row_top) (slOf_cons (plc_frame k_pivot_row_column) (slOf_cons (plc_frame k_pivot_row_at) slOf_nil)))))
    (fun dp un gd outer gg base A₀ s0 L ok =>
      (ss_cons (ss_for (se_type (se_boot ok hK.g_range boot_range nn_range k_pivot_row_range nd_range) (sl_cons rfl (se_frame (i := 1) ok rfl rfl k_pivot_row_top nd_top) (sl_cons rfl (se_builtin (se_boot ok hK.g_len boot_len nn_len k_pivot_row_len nd_len) (sl_cons rfl (se_frame (i := 0) ok rfl rfl k_pivot_row_rows nd_rows) sl_nil) sa_len rfl rfl) sl_nil)) sa_range rfl rfl) (st_frame (i := 3) ok rfl rfl k_pivot_row_at) (ss_cons (ss_if (sb_cmp (se_call ok (s_sign_M hK).fn (se_glob ok hK.g_s_sign k_pivot_row_s_sign nd_s_sign) (sl_cons rfl (se_sub (se_sub (se_frame (i := 0) ok rfl rfl k_pivot_row_rows nd_rows) (se_frame (i := 3) ok rfl rfl k_pivot_row_at nd_at) (so_idx (fun _ _ _ => rfl))) (se_frame (i := 2) ok rfl rfl k_pivot_row_column nd_column) (so_idx (fun _ _ _ => rfl))) sl_nil) (sa_goA ok (s_sign_M hK) (Nat.le_of_ble_eq_true rfl)) rfl) se_int so_ne rfl) (ss_cons (ss_ret (se_frame (i := 3) ok rfl rfl k_pivot_row_at nd_at)) ss_nil) ss_nil) ss_nil) (fun _ => rfl)) (ss_cons (ss_ret (se_neg se_int)) ss_nil)))
/-! cleared -/
theorem k_cleared_row : (dScope 31).names.lookup (Str.ofString "row") = some .local := by decide +kernel
theorem k_cleared_head : (dScope 31).names.lookup (Str.ofString "head") = some .local := by decide +kernel
theorem k_cleared_column : (dScope 31).names.lookup (Str.ofString "column") = some .local := by decide +kernel
theorem k_cleared_before : (dScope 31).names.lookup (Str.ofString "before") = some .local := by decide +kernel
theorem k_cleared_w : (dScope 31).names.lookup (Str.ofString "w") = some .local := by decide +kernel
theorem k_cleared_mul : (dScope 31).names.lookup (Str.ofString "mul") = some .local := by decide +kernel
theorem k_cleared_divrem : (dScope 31).names.lookup (Str.ofString "divrem") = some .local := by decide +kernel
theorem k_cleared_pivot : (dScope 31).names.lookup (Str.ofString "pivot") = some .local := by decide +kernel
theorem k_cleared_own : (dScope 31).names.lookup (Str.ofString "own") = some .local := by decide +kernel
theorem k_cleared_found : (dScope 31).names.lookup (Str.ofString "found") = some .local := by decide +kernel
theorem k_cleared_at : (dScope 31).names.lookup (Str.ofString "at") = some .local := by decide +kernel
theorem k_cleared_value : (dScope 31).names.lookup (Str.ofString "value") = some .local := by decide +kernel
theorem k_cleared_here : (dScope 31).names.lookup (Str.ofString "here") = some .local := by decide +kernel
theorem k_cleared_enumerate : (dScope 31).names.lookup (Str.ofString "enumerate") = some .globalImplicit := by decide +kernel
theorem k_cleared_exact : (dScope 31).names.lookup (Str.ofString "exact") = some .globalImplicit := by decide +kernel
theorem k_cleared_s_mul : (dScope 31).names.lookup (Str.ofString "s_mul") = some .globalImplicit := by decide +kernel
theorem k_cleared_s_sub : (dScope 31).names.lookup (Str.ofString "s_sub") = some .globalImplicit := by decide +kernel
def cleared_W : ST :=
  (seqW (swpW (tupsW (consW (twoW (locW 1) (locW 2) idxW) (consW (twoW (locW 0) (locW 2) idxW) nilW))) [(stW 8), (stW 7)]) (seqW (asgW (ownsW nilW) (stW 9)) (seqW (forEW (locW 0) [(stW 10), (stW 11)] (seqW (asgW (callW 156 (rawW (.ref 156)) (consW (callW 163 (rawW (.ref 163)) (consW (locW 11) (consW (locW 7) (consW (locW 4) (consW (locW 5) nilW)))) (goA s_mul_D)) (consW (callW 163 (rawW (.ref 163)) (consW (locW 8) (consW (twoW (locW 1) (locW 10) idxW) (consW (locW 4) (consW (locW 5) nilW)))) (goA s_mul_D)) (consW (locW 4) nilW))) (goA s_sub_D)) (stW 12)) (seqW (appW (locW 9) (callW 203 (rawW (.ref 203)) (consW (locW 12) (consW (locW 3) (consW (locW 4) (consW (locW 6) nilW)))) (goA exact_D))) (yesW .next)))) (seqW (retW (locW 9)) (yesW .next)))))
@[irreducible] def cleared_D : DW := defW 7 6 cleared_W
theorem cleared_go {vs : List PV} {φ : PV → Prop} (h : vs.length = 7 ∧ startC vs 6 fun l => cleared_W ⟨l, [], true⟩ (finW φ)) : cleared_D vs φ := by unfold cleared_D; exact h
theorem cleared_cl (L : Addr) : cellsFrom (L + 1) (dScope 31).names [] = [] := rfl
theorem cleared_M {D : Rn} (hK : KOk D) : Meets D 217 7 cleared_D := by
  unfold cleared_D
  exact meets_of (ps := [(Str.ofString "row"), (Str.ofString "head"), (Str.ofString "column"), (Str.ofString "before"), (Str.ofString "w"), (Str.ofString "mul"), (Str.ofString "divrem")]) (os := [(Str.ofString "pivot"), (Str.ofString "own"), (Str.ofString "found"), (Str.ofString "at"), (Str.ofString "value"), (Str.ofString "here")]) (sl := fun L => [((Str.ofString "row"), .frame), ((Str.ofString "head"), .frame), ((Str.ofString "column"), .frame), ((Str.ofString "before"), .frame), ((Str.ofString "w"), .frame), ((Str.ofString "mul"), .frame), ((Str.ofString "divrem"), .frame), ((Str.ofString "pivot"), .frame), ((Str.ofString "own"), .frame), ((Str.ofString "found"), .frame), ((Str.ofString "at"), .frame), ((Str.ofString "value"), .frame), ((Str.ofString "here"), .frame)]) (cl := fun L => []) hK.d_cleared (fun rs doc pm an h => len7 (P := fun rs => bindArgs (fnOf (Str.ofString "cleared") (Str.ofString "cleared") (dArgs 31) (dBody 31) (dScope 31) .none .none doc pm an (.ref 216) .none) ⟨rs, []⟩ = pure (List.zip [(Str.ofString "row"), (Str.ofString "head"), (Str.ofString "column"), (Str.ofString "before"), (Str.ofString "w"), (Str.ofString "mul"), (Str.ofString "divrem")] rs)) (fun r0 r1 r2 r3 r4 r5 r6 => rfl) rs h) (by decide +kernel) (by decide +kernel) (by decide +kernel) rfl rfl rfl cleared_cl (fun L => (slOf_cons (plc_frame k_cleared_row) (slOf_cons (plc_frame k_cleared_head) (slOf_cons (plc_frame k_cleared_column) (slOf_cons (plc_frame k_cleared_before) (slOf_cons (plc_frame k_cleared_w) (slOf_cons (plc_frame k_cleared_mul) (slOf_cons (plc_frame k_cleared_divrem) (slOf_cons (plc_frame k_cleared_pivot) (slOf_cons (plc_frame k_cleared_own) (slOf_cons (plc_frame k_cleared_found) (slOf_cons (plc_frame k_cleared_at) (slOf_cons (plc_frame k_cleared_value) (slOf_cons (plc_frame k_cleared_here) slOf_nil))))))))))))))
    (fun dp un gd outer gg base A₀ s0 L ok =>
      (ss_cons (ss_swap (names := [(Str.ofString "pivot"), (Str.ofString "own")]) (se_tuple (sl_cons rfl (se_sub (se_frame (i := 1) ok rfl rfl k_cleared_head nd_head) (se_frame (i := 2) ok rfl rfl k_cleared_column nd_column) (so_idx (fun _ _ _ => rfl))) (sl_cons rfl (se_sub (se_frame (i := 0) ok rfl rfl k_cleared_row nd_row) (se_frame (i := 2) ok rfl rfl k_cleared_column nd_column) (so_idx (fun _ _ _ => rfl))) sl_nil))) (.cons (st_bind (st_frame (i := 8) ok rfl rfl k_cleared_own)) (.cons (st_bind (st_frame (i := 7) ok rfl rfl k_cleared_pivot)) STs.nil)) rfl rfl) (ss_cons (ss_name (se_list sl_nil) (st_frame (i := 9) ok rfl rfl k_cleared_found) rfl) (ss_cons (ss_forE (se_boot ok hK.g_enumerate boot_enumerate nn_enumerate k_cleared_enumerate nd_enumerate) (se_frame (i := 0) ok rfl rfl k_cleared_row nd_row) rfl (.cons (st_name (st_frame (i := 10) ok rfl rfl k_cleared_at)) (.cons (st_name (st_frame (i := 11) ok rfl rfl k_cleared_value)) STs.nil)) rfl rfl (ss_cons (ss_name (se_call ok (s_sub_M hK).fn (se_glob ok hK.g_s_sub k_cleared_s_sub nd_s_sub) (sl_cons rfl (se_call ok (s_mul_M hK).fn (se_glob ok hK.g_s_mul k_cleared_s_mul nd_s_mul) (sl_cons rfl (se_frame (i := 11) ok rfl rfl k_cleared_value nd_value) (sl_cons rfl (se_frame (i := 7) ok rfl rfl k_cleared_pivot nd_pivot) (sl_cons rfl (se_frame (i := 4) ok rfl rfl k_cleared_w nd_w) (sl_cons rfl (se_frame (i := 5) ok rfl rfl k_cleared_mul nd_mul) sl_nil)))) (sa_goA ok (s_mul_M hK) (Nat.le_of_ble_eq_true rfl)) rfl) (sl_cons rfl (se_call ok (s_mul_M hK).fn (se_glob ok hK.g_s_mul k_cleared_s_mul nd_s_mul) (sl_cons rfl (se_frame (i := 8) ok rfl rfl k_cleared_own nd_own) (sl_cons rfl (se_sub (se_frame (i := 1) ok rfl rfl k_cleared_head nd_head) (se_frame (i := 10) ok rfl rfl k_cleared_at nd_at) (so_idx (fun _ _ _ => rfl))) (sl_cons rfl (se_frame (i := 4) ok rfl rfl k_cleared_w nd_w) (sl_cons rfl (se_frame (i := 5) ok rfl rfl k_cleared_mul nd_mul) sl_nil)))) (sa_goA ok (s_mul_M hK) (Nat.le_of_ble_eq_true rfl)) rfl) (sl_cons rfl (se_frame (i := 4) ok rfl rfl k_cleared_w nd_w) sl_nil))) (sa_goA ok (s_sub_M hK) (Nat.le_of_ble_eq_true rfl)) rfl) (st_frame (i := 12) ok rfl rfl k_cleared_here) rfl) (ss_cons (ss_append (se_frame (i := 9) ok rfl rfl k_cleared_found nd_found) (se_call ok (exact_M hK).fn (se_glob ok hK.g_exact k_cleared_exact nd_exact) (sl_cons rfl (se_frame (i := 12) ok rfl rfl k_cleared_here nd_here) (sl_cons rfl (se_frame (i := 3) ok rfl rfl k_cleared_before nd_before) (sl_cons rfl (se_frame (i := 4) ok rfl rfl k_cleared_w nd_w) (sl_cons rfl (se_frame (i := 6) ok rfl rfl k_cleared_divrem nd_divrem) sl_nil)))) (sa_goA ok (exact_M hK) (Nat.le_of_ble_eq_true rfl)) rfl) rfl rfl rfl rfl rfl rfl) ss_nil)) (fun _ => rfl)) (ss_cons (ss_ret (se_frame (i := 9) ok rfl rfl k_cleared_found nd_found)) ss_nil)))))
/-! steps_down -/
theorem k_steps_down_a : (dScope 32).names.lookup (Str.ofString "a") = some .local := by decide +kernel
theorem k_steps_down_columns : (dScope 32).names.lookup (Str.ofString "columns") = some .local := by decide +kernel
theorem k_steps_down_w : (dScope 32).names.lookup (Str.ofString "w") = some .local := by decide +kernel
theorem k_steps_down_mul : (dScope 32).names.lookup (Str.ofString "mul") = some .local := by decide +kernel
theorem k_steps_down_divrem : (dScope 32).names.lookup (Str.ofString "divrem") = some .local := by decide +kernel
theorem k_steps_down_rows : (dScope 32).names.lookup (Str.ofString "rows") = some .local := by decide +kernel
theorem k_steps_down_places : (dScope 32).names.lookup (Str.ofString "places") = some .local := by decide +kernel
theorem k_steps_down_is_odd : (dScope 32).names.lookup (Str.ofString "is_odd") = some .local := by decide +kernel
theorem k_steps_down_before : (dScope 32).names.lookup (Str.ofString "before") = some .local := by decide +kernel
theorem k_steps_down_column : (dScope 32).names.lookup (Str.ofString "column") = some .local := by decide +kernel
theorem k_steps_down_top : (dScope 32).names.lookup (Str.ofString "top") = some .local := by decide +kernel
theorem k_steps_down_spot : (dScope 32).names.lookup (Str.ofString "spot") = some .local := by decide +kernel
theorem k_steps_down_at : (dScope 32).names.lookup (Str.ofString "at") = some .local := by decide +kernel
theorem k_steps_down_UNIT : (dScope 32).names.lookup (Str.ofString "UNIT") = some .globalImplicit := by decide +kernel
theorem k_steps_down_cleared : (dScope 32).names.lookup (Str.ofString "cleared") = some .globalImplicit := by decide +kernel
theorem k_steps_down_len : (dScope 32).names.lookup (Str.ofString "len") = some .globalImplicit := by decide +kernel
theorem k_steps_down_pivot_row : (dScope 32).names.lookup (Str.ofString "pivot_row") = some .globalImplicit := by decide +kernel
theorem k_steps_down_range : (dScope 32).names.lookup (Str.ofString "range") = some .globalImplicit := by decide +kernel
def steps_down_W : ST :=
  (seqW (asgW (tupsW (consW (compOW (locW 0) (cutsW (locW 13) none)) (consW (ownsW nilW) (consW (rawW (.bool false)) (consW (fixW (.tup [.raw (.bool false), .lis [.int 1]])) nilW))))) (unpW [(stW 5), (stW 6), (stW 7), (stW 8)])) (seqW (forW (argsW (consW (locW 1) nilW) rangeW) (stW 9) (seqW (asgW (argsW (consW (locW 6) nilW) lenW) (stW 10)) (seqW (asgW (callW 210 (rawW (.ref 210)) (consW (locW 5) (consW (locW 10) (consW (locW 9) nilW))) (goB pivot_row_D)) (stW 11)) (seqW (ifW (tstW (twoW (locW 11) (intW 0) (c2W fun x y => decide (y ≤ x)))) (seqW (ifW (tstW (twoW (locW 11) (locW 10) (e2W true))) (seqW (asgW (tupsW (consW (twoW (locW 5) (locW 11) idxW) (consW (twoW (locW 5) (locW 10) idxW) nilW))) (unpW [(putTW (locW 5) (locW 10)), (putTW (locW 5) (locW 11))])) (seqW (asgW (notvW (locW 7)) (stW 7)) (yesW .next))) (yesW .next)) (seqW (forW (argsW (consW (twoW (locW 10) (intW 1) (i2I Any2 (· + ·))) (consW (argsW (consW (locW 5) nilW) lenW) nilW)) rangeW) (stW 12) (seqW (setW (callW 217 (rawW (.ref 217)) (consW (twoW (locW 5) (locW 12) idxW) (consW (twoW (locW 5) (locW 10) idxW) (consW (locW 9) (consW (locW 8) (consW (locW 2) (consW (locW 3) (consW (locW 4) nilW))))))) (goA cleared_D)) (locW 5) (locW 12)) (yesW .next))) (seqW (asgW (twoW (twoW (locW 5) (locW 10) idxW) (locW 9) idxW) (stW 8)) (seqW (appW (locW 6) (locW 9)) (yesW .next))))) (yesW .next)) (yesW .next))))) (seqW (retW (tupsW (consW (locW 5) (consW (locW 6) (consW (locW 7) nilW))))) (yesW .next))))
@[irreducible] def steps_down_D : DW := defW 5 8 steps_down_W
theorem steps_down_go {vs : List PV} {φ : PV → Prop} (h : vs.length = 5 ∧ startC vs 8 fun l => steps_down_W ⟨l, [], true⟩ (finW φ)) : steps_down_D vs φ := by unfold steps_down_D; exact h
theorem steps_down_cl (L : Addr) : cellsFrom (L + 1) (dScope 32).names [] = [] := rfl
theorem steps_down_M {D : Rn} (hK : KOk D) : Meets D 222 8 steps_down_D := by
  unfold steps_down_D
  exact meets_of (ps := [(Str.ofString "a"), (Str.ofString "columns"), (Str.ofString "w"), (Str.ofString "mul"), (Str.ofString "divrem")]) (os := [(Str.ofString "rows"), (Str.ofString "places"), (Str.ofString "is_odd"), (Str.ofString "before"), (Str.ofString "column"), (Str.ofString "top"), (Str.ofString "spot"), (Str.ofString "at")]) (sl := fun L => [((Str.ofString "a"), .frame), ((Str.ofString "columns"), .frame), ((Str.ofString "w"), .frame), ((Str.ofString "mul"), .frame), ((Str.ofString "divrem"), .frame), ((Str.ofString "rows"), .frame), ((Str.ofString "places"), .frame), ((Str.ofString "is_odd"), .frame), ((Str.ofString "before"), .frame), ((Str.ofString "column"), .frame), ((Str.ofString "top"), .frame), ((Str.ofString "spot"), .frame), ((Str.ofString "at"), .frame)]) (cl := fun L => []) hK.d_steps_down (fun rs doc pm an h => len5 (P := fun rs => bindArgs (fnOf (Str.ofString "steps_down") (Str.ofString "steps_down") (dArgs 32) (dBody 32) (dScope 32) .none .none doc pm an (.ref 221) .none) ⟨rs, []⟩ = pure (List.zip [(Str.ofString "a"), (Str.ofString "columns"), (Str.ofString "w"), (Str.ofString "mul"), (Str.ofString "divrem")] rs)) (fun r0 r1 r2 r3 r4 => rfl) rs h) (by decide +kernel) (by decide +kernel) (by decide +kernel) rfl rfl rfl steps_down_cl (fun L => (slOf_cons (plc_frame k_steps_down_a) (slOf_cons (plc_frame k_steps_down_columns) (slOf_cons (plc_frame k_steps_down_w) (slOf_cons (plc_frame k_steps_down_mul) (slOf_cons (plc_frame k_steps_down_divrem) (slOf_cons (plc_frame k_steps_down_rows) (slOf_cons (plc_frame k_steps_down_places) (slOf_cons (plc_frame k_steps_down_is_odd) (slOf_cons (plc_frame k_steps_down_before) (slOf_cons (plc_frame k_steps_down_column) (slOf_cons (plc_frame k_steps_down_top) (slOf_cons (plc_frame k_steps_down_spot) (slOf_cons (plc_frame k_steps_down_at) slOf_nil))))))))))))))
    (fun dp un gd outer gg base A₀ s0 L ok =>
      (ss_cons (ss_tuple (se_tuple (sl_cons rfl (se_compO ok (se_frame (i := 0) ok rfl rfl k_steps_down_a nd_a) rfl (by decide +kernel) rfl (by decide +kernel) (by decide +kernel) (fun _ ok' => (se_cut (fb := none) (se_dict (i := 13) ok' rfl rfl rfl nd_row) trivial (fun _ _ => rfl))) (fun _ => rfl)) (sl_cons rfl (se_list sl_nil) (sl_cons rfl se_bool (sl_cons rfl (se_fix ok hK.g_UNIT hK.f_UNIT k_steps_down_UNIT nd_UNIT) sl_nil))))) (st_tuple (.cons (st_name (st_frame (i := 5) ok rfl rfl k_steps_down_rows)) (.cons (st_name (st_frame (i := 6) ok rfl rfl k_steps_down_places)) (.cons (st_name (st_frame (i := 7) ok rfl rfl k_steps_down_is_odd)) (.cons (st_name (st_frame (i := 8) ok rfl rfl k_steps_down_before)) STs.nil)))) rfl) rfl rfl) (ss_cons (ss_for (se_type (se_boot ok hK.g_range boot_range nn_range k_steps_down_range nd_range) (sl_cons rfl (se_frame (i := 1) ok rfl rfl k_steps_down_columns nd_columns) sl_nil) sa_range rfl rfl) (st_frame (i := 9) ok rfl rfl k_steps_down_column) (ss_cons (ss_name (se_builtin (se_boot ok hK.g_len boot_len nn_len k_steps_down_len nd_len) (sl_cons rfl (se_frame (i := 6) ok rfl rfl k_steps_down_places nd_places) sl_nil) sa_len rfl rfl) (st_frame (i := 10) ok rfl rfl k_steps_down_top) rfl) (ss_cons (ss_name (se_call ok (pivot_row_M hK).fn (se_glob ok hK.g_pivot_row k_steps_down_pivot_row nd_pivot_row) (sl_cons rfl (se_frame (i := 5) ok rfl rfl k_steps_down_rows nd_rows) (sl_cons rfl (se_frame (i := 10) ok rfl rfl k_steps_down_top nd_top) (sl_cons rfl (se_frame (i := 9) ok rfl rfl k_steps_down_column nd_column) sl_nil))) (sa_goB ok (pivot_row_M hK) (Nat.le_of_ble_eq_true rfl)) rfl) (st_frame (i := 11) ok rfl rfl k_steps_down_spot) rfl) (ss_cons (ss_if (sb_cmp (se_frame (i := 11) ok rfl rfl k_steps_down_spot nd_spot) se_int so_ge rfl) (ss_cons (ss_if (sb_cmp (se_frame (i := 11) ok rfl rfl k_steps_down_spot nd_spot) (se_frame (i := 10) ok rfl rfl k_steps_down_top nd_top) so_ne rfl) (ss_cons (ss_tuple (se_tuple (sl_cons rfl (se_sub (se_frame (i := 5) ok rfl rfl k_steps_down_rows nd_rows) (se_frame (i := 11) ok rfl rfl k_steps_down_spot nd_spot) (so_idx (fun _ _ _ => rfl))) (sl_cons rfl (se_sub (se_frame (i := 5) ok rfl rfl k_steps_down_rows nd_rows) (se_frame (i := 10) ok rfl rfl k_steps_down_top nd_top) (so_idx (fun _ _ _ => rfl))) sl_nil))) (st_tuple (.cons (st_sub (se_frame (i := 5) ok rfl rfl k_steps_down_rows nd_rows) (se_frame (i := 10) ok rfl rfl k_steps_down_top nd_top)) (.cons (st_sub (se_frame (i := 5) ok rfl rfl k_steps_down_rows nd_rows) (se_frame (i := 11) ok rfl rfl k_steps_down_spot nd_spot)) STs.nil)) rfl) rfl rfl) (ss_cons (ss_name (se_not (se_frame (i := 7) ok rfl rfl k_steps_down_is_odd nd_is_odd)) (st_frame (i := 7) ok rfl rfl k_steps_down_is_odd) rfl) ss_nil)) ss_nil) (ss_cons (ss_for (se_type (se_boot ok hK.g_range boot_range nn_range k_steps_down_range nd_range) (sl_cons rfl (se_bin (se_frame (i := 10) ok rfl rfl k_steps_down_top nd_top) se_int (so_I so_add)) (sl_cons rfl (se_builtin (se_boot ok hK.g_len boot_len nn_len k_steps_down_len nd_len) (sl_cons rfl (se_frame (i := 5) ok rfl rfl k_steps_down_rows nd_rows) sl_nil) sa_len rfl rfl) sl_nil)) sa_range rfl rfl) (st_frame (i := 12) ok rfl rfl k_steps_down_at) (ss_cons (ss_set (se_call ok (cleared_M hK).fn (se_glob ok hK.g_cleared k_steps_down_cleared nd_cleared) (sl_cons rfl (se_sub (se_frame (i := 5) ok rfl rfl k_steps_down_rows nd_rows) (se_frame (i := 12) ok rfl rfl k_steps_down_at nd_at) (so_idx (fun _ _ _ => rfl))) (sl_cons rfl (se_sub (se_frame (i := 5) ok rfl rfl k_steps_down_rows nd_rows) (se_frame (i := 10) ok rfl rfl k_steps_down_top nd_top) (so_idx (fun _ _ _ => rfl))) (sl_cons rfl (se_frame (i := 9) ok rfl rfl k_steps_down_column nd_column) (sl_cons rfl (se_frame (i := 8) ok rfl rfl k_steps_down_before nd_before) (sl_cons rfl (se_frame (i := 2) ok rfl rfl k_steps_down_w nd_w) (sl_cons rfl (se_frame (i := 3) ok rfl rfl k_steps_down_mul nd_mul) (sl_cons rfl (se_frame (i := 4) ok rfl rfl k_steps_down_divrem nd_divrem) sl_nil))))))) (sa_goA ok (cleared_M hK) (Nat.le_of_ble_eq_true rfl)) rfl) (se_frame (i := 5) ok rfl rfl k_steps_down_rows nd_rows) (se_frame (i := 12) ok rfl rfl k_steps_down_at nd_at) rfl) ss_nil) (fun _ => rfl)) (ss_cons (ss_name (se_sub (se_sub (se_frame (i := 5) ok rfl rfl k_steps_down_rows nd_rows) (se_frame (i := 10) ok rfl rfl k_steps_down_top nd_top) (so_idx (fun _ _ _ => rfl))) (se_frame (i := 9) ok rfl rfl k_steps_down_column nd_column) (so_idx (fun _ _ _ => rfl))) (st_frame (i := 8) ok rfl rfl k_steps_down_before) rfl) (ss_cons (ss_append (se_frame (i := 6) ok rfl rfl k_steps_down_places nd_places) (se_frame (i := 9) ok rfl rfl k_steps_down_column nd_column) rfl rfl rfl rfl rfl rfl) ss_nil)))) ss_nil) ss_nil))) (fun _ => rfl)) (ss_cons (ss_ret (se_tuple (sl_cons rfl (se_frame (i := 5) ok rfl rfl k_steps_down_rows nd_rows) (sl_cons rfl (se_frame (i := 6) ok rfl rfl k_steps_down_places nd_places) (sl_cons rfl (se_frame (i := 7) ok rfl rfl k_steps_down_is_odd nd_is_odd) sl_nil))))) ss_nil))))
/-! det_bareiss -/
theorem k_det_bareiss_a : (dScope 33).names.lookup (Str.ofString "a") = some .local := by decide +kernel
theorem k_det_bareiss_w : (dScope 33).names.lookup (Str.ofString "w") = some .local := by decide +kernel
theorem k_det_bareiss_mul : (dScope 33).names.lookup (Str.ofString "mul") = some .local := by decide +kernel
theorem k_det_bareiss_divrem : (dScope 33).names.lookup (Str.ofString "divrem") = some .local := by decide +kernel
theorem k_det_bareiss_rows : (dScope 33).names.lookup (Str.ofString "rows") = some .local := by decide +kernel
theorem k_det_bareiss_places : (dScope 33).names.lookup (Str.ofString "places") = some .local := by decide +kernel
theorem k_det_bareiss_is_odd : (dScope 33).names.lookup (Str.ofString "is_odd") = some .local := by decide +kernel
theorem k_det_bareiss_last : (dScope 33).names.lookup (Str.ofString "last") = some .local := by decide +kernel
theorem k_det_bareiss_NOUGHT : (dScope 33).names.lookup (Str.ofString "NOUGHT") = some .globalImplicit := by decide +kernel
theorem k_det_bareiss_UNIT : (dScope 33).names.lookup (Str.ofString "UNIT") = some .globalImplicit := by decide +kernel
theorem k_det_bareiss_len : (dScope 33).names.lookup (Str.ofString "len") = some .globalImplicit := by decide +kernel
theorem k_det_bareiss_s_neg : (dScope 33).names.lookup (Str.ofString "s_neg") = some .globalImplicit := by decide +kernel
theorem k_det_bareiss_steps_down : (dScope 33).names.lookup (Str.ofString "steps_down") = some .globalImplicit := by decide +kernel
def det_bareiss_W : ST :=
  (seqW (ifW (tstW (twoW (argsW (consW (locW 0) nilW) lenW) (intW 0) (e2W false))) (seqW (retW (fixW (.tup [.raw (.bool false), .lis [.int 1]]))) (yesW .next)) (yesW .next)) (seqW (asgW (callW 222 (rawW (.ref 222)) (consW (locW 0) (consW (argsW (consW (locW 0) nilW) lenW) (consW (locW 1) (consW (locW 2) (consW (locW 3) nilW))))) (goA steps_down_D)) (unpW [(stW 4), (stW 5), (stW 6)])) (seqW (ifW (tstW (twoW (argsW (consW (locW 5) nilW) lenW) (argsW (consW (locW 0) nilW) lenW) (c2W fun x y => decide (x < y)))) (seqW (retW (fixW (.tup [.raw (.bool false), .lis []]))) (yesW .next)) (yesW .next)) (seqW (asgW (twoW (twoW (locW 4) (negW (intW 1)) idxW) (twoW (argsW (consW (locW 0) nilW) lenW) (intW 1) (i2I Any2 (· - ·))) idxW) (stW 7)) (seqW (retW (ifW (tstW (locW 6)) (callW 135 (rawW (.ref 135)) (consW (locW 7) nilW) (goA s_neg_D)) (locW 7))) (yesW .next))))))
@[irreducible] def det_bareiss_D : DW := defW 4 4 det_bareiss_W
theorem det_bareiss_go {vs : List PV} {φ : PV → Prop} (h : vs.length = 4 ∧ startC vs 4 fun l => det_bareiss_W ⟨l, [], true⟩ (finW φ)) : det_bareiss_D vs φ := by unfold det_bareiss_D; exact h
theorem det_bareiss_cl (L : Addr) : cellsFrom (L + 1) (dScope 33).names [] = [] := rfl
theorem det_bareiss_M {D : Rn} (hK : KOk D) : Meets D 229 9 det_bareiss_D := by
  unfold det_bareiss_D
  exact meets_of (ps := [(Str.ofString "a"), (Str.ofString "w"), (Str.ofString "mul"), (Str.ofString "divrem")]) (os := [(Str.ofString "rows"), (Str.ofString "places"), (Str.ofString "is_odd"), (Str.ofString "last")]) (sl := fun L => [((Str.ofString "a"), .frame), ((Str.ofString "w"), .frame), ((Str.ofString "mul"), .frame), ((Str.ofString "divrem"), .frame), ((Str.ofString "rows"), .frame), ((Str.ofString "places"), .frame), ((Str.ofString "is_odd"), .frame), ((Str.ofString "last"), .frame)]) (cl := fun L => []) hK.d_det_bareiss (fun rs doc pm an h => len4 (P := fun rs => bindArgs (fnOf (Str.ofString "det_bareiss") (Str.ofString "det_bareiss") (dArgs 33) (dBody 33) (dScope 33) .none .none doc pm an (.ref 228) .none) ⟨rs, []⟩ = pure (List.zip [(Str.ofString "a"), (Str.ofString "w"), (Str.ofString "mul"), (Str.ofString "divrem")] rs)) (fun r0 r1 r2 r3 => rfl) rs h) (by decide +kernel) (by decide +kernel) (by decide +kernel) rfl rfl rfl det_bareiss_cl (fun L => (slOf_cons (plc_frame k_det_bareiss_a) (slOf_cons (plc_frame k_det_bareiss_w) (slOf_cons (plc_frame k_det_bareiss_mul) (slOf_cons (plc_frame k_det_bareiss_divrem) (slOf_cons (plc_frame k_det_bareiss_rows) (slOf_cons (plc_frame k_det_bareiss_places) (slOf_cons (plc_frame k_det_bareiss_is_odd) (slOf_cons (plc_frame k_det_bareiss_last) slOf_nil)))))))))
    (fun dp un gd outer gg base A₀ s0 L ok =>
      (ss_cons (ss_if (sb_cmp (se_builtin (se_boot ok hK.g_len boot_len nn_len k_det_bareiss_len nd_len) (sl_cons rfl (se_frame (i := 0) ok rfl rfl k_det_bareiss_a nd_a) sl_nil) sa_len rfl rfl) se_int so_eq rfl) (ss_cons (ss_ret (se_fix ok hK.g_UNIT hK.f_UNIT k_det_bareiss_UNIT nd_UNIT)) ss_nil) ss_nil) (ss_cons (ss_tuple (se_call ok (steps_down_M hK).fn (se_glob ok hK.g_steps_down k_det_bareiss_steps_down nd_steps_down) (sl_cons rfl (se_frame (i := 0) ok rfl rfl k_det_bareiss_a nd_a) (sl_cons rfl (se_builtin (se_boot ok hK.g_len boot_len nn_len k_det_bareiss_len nd_len) (sl_cons rfl (se_frame (i := 0) ok rfl rfl k_det_bareiss_a nd_a) sl_nil) sa_len rfl rfl) (sl_cons rfl (se_frame (i := 1) ok rfl rfl k_det_bareiss_w nd_w) (sl_cons rfl (se_frame (i := 2) ok rfl rfl k_det_bareiss_mul nd_mul) (sl_cons rfl (se_frame (i := 3) ok rfl rfl k_det_bareiss_divrem nd_divrem) sl_nil))))) (sa_goA ok (steps_down_M hK) (Nat.le_of_ble_eq_true rfl)) rfl) (st_tuple (.cons (st_name (st_frame (i := 4) ok rfl rfl k_det_bareiss_rows)) (.cons (st_name (st_frame (i := 5) ok rfl rfl k_det_bareiss_places)) (.cons (st_name (st_frame (i := 6) ok rfl rfl k_det_bareiss_is_odd)) STs.nil))) rfl) rfl rfl) (ss_cons (ss_if (sb_cmp (se_builtin (se_boot ok hK.g_len boot_len nn_len k_det_bareiss_len nd_len) (sl_cons rfl (se_frame (i := 5) ok rfl rfl k_det_bareiss_places nd_places) sl_nil) sa_len rfl rfl) (se_builtin (se_boot ok hK.g_len boot_len nn_len k_det_bareiss_len nd_len) (sl_cons rfl (se_frame (i := 0) ok rfl rfl k_det_bareiss_a nd_a) sl_nil) sa_len rfl rfl) so_lt rfl) (ss_cons (ss_ret (se_fix ok hK.g_NOUGHT hK.f_NOUGHT k_det_bareiss_NOUGHT nd_NOUGHT)) ss_nil) ss_nil) (ss_cons (ss_name (se_sub (se_sub (se_frame (i := 4) ok rfl rfl k_det_bareiss_rows nd_rows) (se_neg se_int) (so_idx (fun _ _ _ => rfl))) (se_bin (se_builtin (se_boot ok hK.g_len boot_len nn_len k_det_bareiss_len nd_len) (sl_cons rfl (se_frame (i := 0) ok rfl rfl k_det_bareiss_a nd_a) sl_nil) sa_len rfl rfl) se_int (so_I so_sub)) (so_idx (fun _ _ _ => rfl))) (st_frame (i := 7) ok rfl rfl k_det_bareiss_last) rfl) (ss_cons (ss_ret (se_ifexp (sb_plain rfl (se_frame (i := 6) ok rfl rfl k_det_bareiss_is_odd nd_is_odd)) (se_call ok (s_neg_M hK).fn (se_glob ok hK.g_s_neg k_det_bareiss_s_neg nd_s_neg) (sl_cons rfl (se_frame (i := 7) ok rfl rfl k_det_bareiss_last nd_last) sl_nil) (sa_goA ok (s_neg_M hK) (Nat.le_of_ble_eq_true rfl)) rfl) (se_frame (i := 7) ok rfl rfl k_det_bareiss_last nd_last))) ss_nil))))))
/-! _law_limbs -/
theorem k_law_limbs_number : (dScope 44).names.lookup (Str.ofString "number") = some .local := by decide +kernel
theorem k_law_limbs_w : (dScope 44).names.lookup (Str.ofString "w") = some .local := by decide +kernel
theorem k_law_limbs_found : (dScope 44).names.lookup (Str.ofString "found") = some .local := by decide +kernel
def law_limbs_W : ST :=
  (seqW (asgW (ownsW nilW) (stW 2)) (seqW (whileGo (tstW (twoW (locW 0) (intW 0) (c2W fun x y => decide (y < x)))) (seqW (appW (locW 2) (twoW (locW 0) (twoW (intW 2) (locW 1) (i2W (fun x k => x = 2 ∧ 0 ≤ k ∧ k ≤ 1000) (fun x k => x ^ k.toNat))) (i2W (fun _ y => 0 < y) (· % ·)))) (seqW (asgW (twoW (locW 0) (twoW (intW 2) (locW 1) (i2W (fun x k => x = 2 ∧ 0 ≤ k ∧ k ≤ 1000) (fun x k => x ^ k.toNat))) (i2W (fun _ y => 0 < y ∧ y ≤ 4096) (· / ·))) (stW 0)) (yesW .next))) 6) (seqW (retW (locW 2)) (yesW .next))))
@[irreducible] def law_limbs_D : DW := defW 2 1 law_limbs_W
theorem law_limbs_go {vs : List PV} {φ : PV → Prop} (h : vs.length = 2 ∧ startC vs 1 fun l => law_limbs_W ⟨l, [], true⟩ (finW φ)) : law_limbs_D vs φ := by unfold law_limbs_D; exact h
theorem law_limbs_cl (L : Addr) : cellsFrom (L + 1) (dScope 44).names [] = [] := rfl
theorem law_limbs_M {D : Rn} (hK : KOk D) : Meets D 292 1 law_limbs_D := by
  unfold law_limbs_D
  exact meets_of (ps := [(Str.ofString "number"), (Str.ofString "w")]) (os := [(Str.ofString "found")]) (sl := fun L => [((Str.ofString "number"), .frame), ((Str.ofString "w"), .frame), ((Str.ofString "found"), .frame)]) (cl := fun L => []) hK.d_law_limbs (fun rs doc pm an h => len2 (P := fun rs => bindArgs (fnOf (Str.ofString "_law_limbs") (Str.ofString "_law_limbs") (dArgs 44) (dBody 44) (dScope 44) .none .none doc pm an (.ref 291) .none) ⟨rs, []⟩ = pure (List.zip [(Str.ofString "number"), (Str.ofString "w")] rs)) (fun r0 r1 => rfl) rs h) (by decide +kernel) (by decide +kernel) (by decide +kernel) rfl rfl rfl law_limbs_cl (fun L => (slOf_cons (plc_frame k_law_limbs_number) (slOf_cons (plc_frame k_law_limbs_w) (slOf_cons (plc_frame k_law_limbs_found) slOf_nil))))
    (fun dp un gd outer gg base A₀ s0 L ok =>
      (ss_cons (ss_name (se_list sl_nil) (st_frame (i := 2) ok rfl rfl k_law_limbs_found) rfl) (ss_cons (ss_while 6 (sb_cmp (se_frame (i := 0) ok rfl rfl k_law_limbs_number nd_number) se_int so_gt rfl) (ss_cons (ss_append (se_frame (i := 2) ok rfl rfl k_law_limbs_found nd_found) (se_bin (se_frame (i := 0) ok rfl rfl k_law_limbs_number nd_number) (se_bin se_int (se_frame (i := 1) ok rfl rfl k_law_limbs_w nd_w) so_pow) so_mod) rfl rfl rfl rfl rfl rfl) (ss_cons (ss_name (se_bin (se_frame (i := 0) ok rfl rfl k_law_limbs_number nd_number) (se_bin se_int (se_frame (i := 1) ok rfl rfl k_law_limbs_w nd_w) so_pow) so_fdiv) (st_frame (i := 0) ok rfl rfl k_law_limbs_number) rfl) ss_nil))) (ss_cons (ss_ret (se_frame (i := 2) ok rfl rfl k_law_limbs_found nd_found)) ss_nil))))
/-! _law_signed -/
theorem k_law_signed_number : (dScope 45).names.lookup (Str.ofString "number") = some .local := by decide +kernel
theorem k_law_signed_w : (dScope 45).names.lookup (Str.ofString "w") = some .local := by decide +kernel
theorem k_law_signed_law_limbs : (dScope 45).names.lookup (Str.ofString "_law_limbs") = some .globalImplicit := by decide +kernel
theorem k_law_signed_abs : (dScope 45).names.lookup (Str.ofString "abs") = some .globalImplicit := by decide +kernel
def law_signed_W : ST :=
  (seqW (retW (tupsW (consW (twoW (locW 0) (intW 0) (c2W fun x y => decide (x < y))) (consW (callW 292 (rawW (.ref 292)) (consW (argsW (consW (locW 0) nilW) absW) (consW (locW 1) nilW)) (goA law_limbs_D)) nilW)))) (yesW .next))
@[irreducible] def law_signed_D : DW := defW 2 0 law_signed_W
theorem law_signed_go {vs : List PV} {φ : PV → Prop} (h : vs.length = 2 ∧ startC vs 0 fun l => law_signed_W ⟨l, [], true⟩ (finW φ)) : law_signed_D vs φ := by unfold law_signed_D; exact h
theorem law_signed_cl (L : Addr) : cellsFrom (L + 1) (dScope 45).names [] = [] := rfl
theorem law_signed_M {D : Rn} (hK : KOk D) : Meets D 299 2 law_signed_D := by
  unfold law_signed_D
  exact meets_of (ps := [(Str.ofString "number"), (Str.ofString "w")]) (os := []) (sl := fun L => [((Str.ofString "number"), .frame), ((Str.ofString "w"), .frame)]) (cl := fun L => []) hK.d_law_signed (fun rs doc pm an h => len2 (P := fun rs => bindArgs (fnOf (Str.ofString "_law_signed") (Str.ofString "_law_signed") (dArgs 45) (dBody 45) (dScope 45) .none .none doc pm an (.ref 298) .none) ⟨rs, []⟩ = pure (List.zip [(Str.ofString "number"), (Str.ofString "w")] rs)) (fun r0 r1 => rfl) rs h) (by decide +kernel) (by decide +kernel) (by decide +kernel) rfl rfl rfl law_signed_cl (fun L => (slOf_cons (plc_frame k_law_signed_number) (slOf_cons (plc_frame k_law_signed_w) slOf_nil)))
    (fun dp un gd outer gg base A₀ s0 L ok =>
      (ss_cons (ss_ret (se_tuple (sl_cons rfl (se_cmp (se_frame (i := 0) ok rfl rfl k_law_signed_number nd_number) se_int so_lt rfl) (sl_cons rfl (se_call ok (law_limbs_M hK).fn (se_glob ok hK.g_law_limbs k_law_signed_law_limbs nd_law_limbs) (sl_cons rfl (se_builtin (se_boot ok hK.g_abs boot_abs nn_abs k_law_signed_abs nd_abs) (sl_cons rfl (se_frame (i := 0) ok rfl rfl k_law_signed_number nd_number) sl_nil) sa_abs rfl rfl) (sl_cons rfl (se_frame (i := 1) ok rfl rfl k_law_signed_w nd_w) sl_nil)) (sa_goA ok (law_limbs_M hK) (Nat.le_of_ble_eq_true rfl)) rfl) sl_nil)))) ss_nil))
/-! _law_next -/
theorem k_law_next_yard : (dScope 43).names.lookup (Str.ofString "yard") = some .local := by decide +kernel
theorem k_law_next_many : (dScope 43).names.lookup (Str.ofString "many") = some .local := by decide +kernel
theorem k_law_next_len : (dScope 43).names.lookup (Str.ofString "len") = some .globalImplicit := by decide +kernel
def law_next_W : ST :=
  (seqW (setW (twoW (twoW (locW 0) (intW 0) idxW) (intW 1) (i2W Any2 (· + ·))) (locW 0) (intW 0)) (seqW (ifW (tstW (twoW (twoW (locW 0) (intW 0) idxW) (hidW (argsW (consW (twoW (locW 0) (intW 1) idxW) nilW) lenW)) (c2W fun x y => decide (x ≤ y)))) (seqW (retW (twoW (hidW (twoW (twoW (locW 0) (intW 1) idxW) (twoW (twoW (locW 0) (intW 0) idxW) (intW 1) (i2W Any2 (· - ·))) idxW)) (locW 1) (i2W (fun _ y => 0 < y) (· % ·)))) (yesW .next)) (yesW .next)) (seqW (retW (twoW (twoW (twoW (twoW (intW 5) (twoW (locW 0) (intW 0) idxW) (i2W Small1 (· * ·))) (twoW (twoW (locW 0) (intW 0) idxW) (intW 2) (i2W (fun _ y => 0 < y ∧ y ≤ 4096) (· / ·))) (i2W Any2 (· + ·))) (intW 3) (i2W Any2 (· + ·))) (locW 1) (i2W (fun _ y => 0 < y) (· % ·)))) (yesW .next))))
@[irreducible] def law_next_D : NW := defN 2 0 law_next_W
theorem law_next_go {vs us : List PV} {φ : Int → List PV → Prop} (h : vs.length = 2 ∧ startC vs 0 fun l => law_next_W ⟨l, [us], true⟩ (finN φ)) : law_next_D vs us φ := by unfold law_next_D; exact h
theorem law_next_cl (L : Addr) : cellsFrom (L + 1) (dScope 43).names [] = [] := rfl
theorem law_next_M {D : Rn} (hK : KOk D) : MeetsN D 285 1 law_next_D := by
  unfold law_next_D
  exact meetsN_of (ps := [(Str.ofString "yard"), (Str.ofString "many")]) (os := []) (sl := fun L => [((Str.ofString "yard"), .frame), ((Str.ofString "many"), .frame)]) (cl := fun L => []) hK.d_law_next (fun rs doc pm an h => len2 (P := fun rs => bindArgs (fnOf (Str.ofString "_law_next") (Str.ofString "_law_next") (dArgs 43) (dBody 43) (dScope 43) .none .none doc pm an (.ref 284) .none) ⟨rs, []⟩ = pure (List.zip [(Str.ofString "yard"), (Str.ofString "many")] rs)) (fun r0 r1 => rfl) rs h) (by decide +kernel) (by decide +kernel) (by decide +kernel) rfl rfl rfl law_next_cl (fun L => (slOf_cons (plc_frame k_law_next_yard) (slOf_cons (plc_frame k_law_next_many) slOf_nil)))
    (fun dp un gd outer gg base A₀ s0 L ok =>
      (ss_cons (ss_set (se_bin (se_sub (se_frame (i := 0) ok rfl rfl k_law_next_yard nd_yard) se_int (so_idx (fun _ _ _ => rfl))) se_int so_add) (se_frame (i := 0) ok rfl rfl k_law_next_yard nd_yard) se_int rfl) (ss_cons (ss_if (sb_cmp (se_sub (se_frame (i := 0) ok rfl rfl k_law_next_yard nd_yard) se_int (so_idx (fun _ _ _ => rfl))) (se_hid (se_builtin (se_boot ok hK.g_len boot_len nn_len k_law_next_len nd_len) (sl_cons rfl (se_sub (se_frame (i := 0) ok rfl rfl k_law_next_yard nd_yard) se_int (so_idx (fun _ _ _ => rfl))) sl_nil) sa_len rfl rfl)) so_le rfl) (ss_cons (ss_ret (se_bin (se_hid (se_sub (se_sub (se_frame (i := 0) ok rfl rfl k_law_next_yard nd_yard) se_int (so_idx (fun _ _ _ => rfl))) (se_bin (se_sub (se_frame (i := 0) ok rfl rfl k_law_next_yard nd_yard) se_int (so_idx (fun _ _ _ => rfl))) se_int so_sub) (so_idx (fun _ _ _ => rfl)))) (se_frame (i := 1) ok rfl rfl k_law_next_many nd_many) so_mod)) ss_nil) ss_nil) (ss_cons (ss_ret (se_bin (se_bin (se_bin (se_bin se_int (se_sub (se_frame (i := 0) ok rfl rfl k_law_next_yard nd_yard) se_int (so_idx (fun _ _ _ => rfl))) so_mul) (se_bin (se_sub (se_frame (i := 0) ok rfl rfl k_law_next_yard nd_yard) se_int (so_idx (fun _ _ _ => rfl))) se_int so_fdiv) so_add) se_int so_add) (se_frame (i := 1) ok rfl rfl k_law_next_many nd_many) so_mod)) ss_nil))))
/-! law -/
theorem k_law_script : (dScope 46).names.lookup (Str.ofString "script") = some .local := by decide +kernel
theorem k_law_yard : (dScope 46).names.lookup (Str.ofString "yard") = some .cell := by decide +kernel
theorem k_law_w : (dScope 46).names.lookup (Str.ofString "w") = some .local := by decide +kernel
theorem k_law_rows : (dScope 46).names.lookup (Str.ofString "rows") = some .local := by decide +kernel
theorem k_law_lines : (dScope 46).names.lookup (Str.ofString "lines") = some .local := by decide +kernel
theorem k_law_first : (dScope 46).names.lookup (Str.ofString "first") = some .local := by decide +kernel
theorem k_law_second : (dScope 46).names.lookup (Str.ofString "second") = some .cell := by decide +kernel
theorem k_law_total : (dScope 46).names.lookup (Str.ofString "total") = some .local := by decide +kernel
theorem k_law_squares : (dScope 46).names.lookup (Str.ofString "squares") = some .local := by decide +kernel
theorem k_law_due : (dScope 46).names.lookup (Str.ofString "due") = some .local := by decide +kernel
theorem k_law_plain : (dScope 46).names.lookup (Str.ofString "plain") = some .local := by decide +kernel
theorem k_law_many : (dScope 46).names.lookup (Str.ofString "many") = some .cell := by decide +kernel
theorem k_law_one : (dScope 46).names.lookup (Str.ofString "one") = some .local := by decide +kernel
theorem k_law_pair : (dScope 46).names.lookup (Str.ofString "pair") = some .cell := by decide +kernel
theorem k_law_here : (dScope 46).names.lookup (Str.ofString "here") = some .local := by decide +kernel
theorem k_law_there : (dScope 46).names.lookup (Str.ofString "there") = some .local := by decide +kernel
theorem k_law_cross : (dScope 46).names.lookup (Str.ofString "cross") = some .local := by decide +kernel
theorem k_law_cut : (dScope 46).names.lookup (Str.ofString "cut") = some .local := by decide +kernel
theorem k_law_both : (dScope 46).names.lookup (Str.ofString "both") = some .local := by decide +kernel
theorem k_law_own : (dScope 46).names.lookup (Str.ofString "own") = some .local := by decide +kernel
theorem k_law_law_next : (dScope 46).names.lookup (Str.ofString "_law_next") = some .globalImplicit := by decide +kernel
theorem k_law_law_signed : (dScope 46).names.lookup (Str.ofString "_law_signed") = some .globalImplicit := by decide +kernel
theorem k_law_det_bareiss : (dScope 46).names.lookup (Str.ofString "det_bareiss") = some .globalImplicit := by decide +kernel
theorem k_law_divrem_school : (dScope 46).names.lookup (Str.ofString "divrem_school") = some .globalImplicit := by decide +kernel
theorem k_law_m_mul : (dScope 46).names.lookup (Str.ofString "m_mul") = some .globalImplicit := by decide +kernel
theorem k_law_m_of : (dScope 46).names.lookup (Str.ofString "m_of") = some .globalImplicit := by decide +kernel
theorem k_law_m_turned : (dScope 46).names.lookup (Str.ofString "m_turned") = some .globalImplicit := by decide +kernel
theorem k_law_mul_school : (dScope 46).names.lookup (Str.ofString "mul_school") = some .globalImplicit := by decide +kernel
theorem k_law_range : (dScope 46).names.lookup (Str.ofString "range") = some .globalImplicit := by decide +kernel
theorem k_law_s_add : (dScope 46).names.lookup (Str.ofString "s_add") = some .globalImplicit := by decide +kernel
theorem k_law_s_mul : (dScope 46).names.lookup (Str.ofString "s_mul") = some .globalImplicit := by decide +kernel
def law_pair_W : ST :=
  (seqW (asgW (froW (consW (locW 12) (consW (twoW (locW 11) (intW 1) (i2I Any2 (· - ·))) nilW))) (stW 13)) (seqW (asgW (callW 229 (rawW (.ref 229)) (consW (compW (locW 5) (compW (locW 13) (twoW (locW 20) (locW 21) idxW))) (consW (locW 2) (consW (rawW (.ref 236)) (consW (rawW (.ref 278)) nilW)))) (goA det_bareiss_D)) (stW 14)) (seqW (asgW (callW 229 (rawW (.ref 229)) (consW (compW (locW 13) (twoW (locW 6) (locW 20) idxW)) (consW (locW 2) (consW (rawW (.ref 236)) (consW (rawW (.ref 278)) nilW)))) (goA det_bareiss_D)) (stW 15)) (seqW (asgW (callW 149 (rawW (.ref 149)) (consW (locW 7) (consW (callW 163 (rawW (.ref 163)) (consW (locW 14) (consW (locW 15) (consW (locW 2) (consW (rawW (.ref 236)) nilW)))) (goA s_mul_D)) (consW (locW 2) nilW))) (goA s_add_D)) (stW 7)) (seqW (asgW (callW 149 (rawW (.ref 149)) (consW (locW 8) (consW (callW 163 (rawW (.ref 163)) (consW (locW 14) (consW (locW 14) (consW (locW 2) (consW (rawW (.ref 236)) nilW)))) (goA s_mul_D)) (consW (locW 2) nilW))) (goA s_add_D)) (stW 8)) (seqW (asgW (twoW (twoW (twoW (twoW (locW 3) (intW 0) idxW) (locW 12) idxW) (twoW (twoW (locW 3) (intW 1) idxW) (twoW (locW 11) (intW 1) (i2I Any2 (· - ·))) idxW) (i2W Small1 (· * ·))) (twoW (twoW (twoW (locW 3) (intW 0) idxW) (twoW (locW 11) (intW 1) (i2I Any2 (· - ·))) idxW) (twoW (twoW (locW 3) (intW 1) idxW) (locW 12) idxW) (i2W Small1 (· * ·))) (i2W Any2 (· - ·))) (stW 16)) (seqW (asgW (twoW (locW 9) (twoW (locW 16) (twoW (twoW (twoW (twoW (locW 4) (locW 12) idxW) (intW 0) idxW) (twoW (twoW (locW 4) (twoW (locW 11) (intW 1) (i2I Any2 (· - ·))) idxW) (intW 1) idxW) (i2W Small1 (· * ·))) (twoW (twoW (twoW (locW 4) (locW 12) idxW) (intW 1) idxW) (twoW (twoW (locW 4) (twoW (locW 11) (intW 1) (i2I Any2 (· - ·))) idxW) (intW 0) idxW) (i2W Small1 (· * ·))) (i2W Any2 (· - ·))) (i2W Small1 (· * ·))) (i2W Any2 (· + ·))) (stW 9)) (seqW (asgW (twoW (locW 10) (twoW (locW 16) (locW 16) (i2W Small1 (· * ·))) (i2W Any2 (· + ·))) (stW 10)) (yesW .next)))))))))
def law_check_W : ST :=
  (seqW (compUW (locW 5) (cutsW (locW 20) (some (locW 11))) (stW 17)) (seqW (asgW (callW 229 (rawW (.ref 229)) (consW (callW 196 (rawW (.ref 196)) (consW (locW 17) (consW (cutsW (locW 6) (some (locW 11))) (consW (locW 2) (consW (rawW (.ref 236)) nilW)))) (goA m_mul_D)) (consW (locW 2) (consW (rawW (.ref 236)) (consW (rawW (.ref 278)) nilW)))) (goA det_bareiss_D)) (stW 18)) (seqW (ifW (ifW (tstW (twoW (locW 18) (locW 7) neTW)) (yesW true) (ifW (tstW (twoW (locW 18) (callW 299 (rawW (.ref 299)) (consW (locW 9) (consW (locW 2) nilW)) (goA law_signed_D)) neTW)) (yesW true) (yesW false))) (seqW (retW (rawW (.bool false))) (yesW .next)) (yesW .next)) (seqW (asgW (callW 229 (rawW (.ref 229)) (consW (callW 196 (rawW (.ref 196)) (consW (locW 17) (consW (callW 184 (rawW (.ref 184)) (consW (locW 17) nilW) (goA m_turned_D)) (consW (locW 2) (consW (rawW (.ref 236)) nilW)))) (goA m_mul_D)) (consW (locW 2) (consW (rawW (.ref 236)) (consW (rawW (.ref 278)) nilW)))) (goA det_bareiss_D)) (stW 19)) (seqW (ifW (ifW (tstW (twoW (locW 19) (locW 8) neTW)) (yesW true) (ifW (tstW (twoW (locW 19) (callW 299 (rawW (.ref 299)) (consW (locW 10) (consW (locW 2) nilW)) (goA law_signed_D)) neTW)) (yesW true) (yesW false))) (seqW (retW (rawW (.bool false))) (yesW .next)) (yesW .next)) (yesW .next))))))
def law_W : ST :=
  (seqW (asgW (ownsW (consW (intW 0) (consW (hidW (compW (cutsW (locW 0) (some (intW 17))) (argsW (consW (argsW (consW (locW 20) nilW) intCW) nilW) absW))) nilW))) (stW 1)) (seqW (asgW (twoW (intW 7) (callW 285 (rawW (.ref 285)) (consW (locW 1) (consW (intW 5) nilW)) (goN law_next_D)) (i2W Any2 (· + ·))) (stW 2)) (seqW (compUW (argsW (consW (intW 2) nilW) rangeW) (compW (argsW (consW (intW 4) nilW) rangeW) (twoW (callW 285 (rawW (.ref 285)) (consW (locW 1) (consW (intW 9) nilW)) (goN law_next_D)) (intW 4) (i2W Any2 (· - ·)))) (stW 3)) (seqW (compUW (argsW (consW (intW 4) nilW) rangeW) (compW (argsW (consW (intW 2) nilW) rangeW) (twoW (callW 285 (rawW (.ref 285)) (consW (locW 1) (consW (intW 9) nilW)) (goN law_next_D)) (intW 4) (i2W Any2 (· - ·)))) (stW 4)) (seqW (asgW (tupsW (consW (callW 179 (rawW (.ref 179)) (consW (locW 3) (consW (locW 2) nilW)) (goA m_of_D)) (consW (callW 179 (rawW (.ref 179)) (consW (locW 4) (consW (locW 2) nilW)) (goA m_of_D)) nilW))) (unpW [(stW 5), (stW 6)])) (seqW (asgW (tupsW (consW (tupsW (consW (rawW (.bool false)) (consW (froW nilW) nilW))) (consW (tupsW (consW (rawW (.bool false)) (consW (froW nilW) nilW))) (consW (intW 0) (consW (intW 0) nilW))))) (unpW [(stW 7), (stW 8), (stW 9), (stW 10)])) (seqW (forW (argsW (consW (intW 1) (consW (intW 5) nilW)) rangeW) (stW 11) (seqW (forW (argsW (consW (twoW (locW 11) (intW 1) (i2I Any2 (· - ·))) nilW) rangeW) (stW 12) (hidS law_pair_W)) (hidS law_check_W))) (seqW (retW (rawW (.bool true))) (yesW .next)))))))))
@[irreducible] def law_D : DW := defW 1 19 law_W
theorem law_go {vs : List PV} {φ : PV → Prop} (h : vs.length = 1 ∧ startC vs 19 fun l => law_W ⟨l, [], true⟩ (finW φ)) : law_D vs φ := by unfold law_D; exact h
theorem law_cl (L : Addr) : cellsFrom (L + 1) (dScope 46).names [] = [((Str.ofString "pair"), L + 1 + 3), ((Str.ofString "many"), L + 1 + 2), ((Str.ofString "second"), L + 1 + 1), ((Str.ofString "yard"), L + 1)] := rfl
theorem law_start {D : Rn} (hK : KOk D) {s : Shared} {RR : Result → Shared → Prop} {H : Led} {vs : List PV} {rs : List Value} {φ : PV → Prop} (hH : ∀ p ∈ H, s.heap.get? p.1 = some p.2) (hS : ∀ p ∈ H, ∀ es n, p.2.data ≠ .dict es n) (Xi : D.K.In s.heap) (hoff : ∀ a o, D.K.lookup a = some o → a ∉ H.map (fun x : Addr × Obj => x.1))
    (T : TopRead D.p D.loose D.mg D.mb s.heap) (fx : ∀ p ∈ D.fx, p ∈ H) (hW : law_D vs φ) (V : VRs H [] vs rs) (ret : ∀ v r Y h' tk' L m, φ v → Fr s.heap L h' m → VR Y [] v r → RR (.ok (.ret r)) { s with heap := h', toks := tk' }) :
    codeAny (model D.prog D.w) callerA (.call (.ref 304) ⟨rs, []⟩) RR s := by
  unfold law_D at hW
  exact start_of (d := 9) (ps := [(Str.ofString "script")]) (os := [(Str.ofString "yard"), (Str.ofString "w"), (Str.ofString "rows"), (Str.ofString "lines"), (Str.ofString "first"), (Str.ofString "second"), (Str.ofString "total"), (Str.ofString "squares"), (Str.ofString "due"), (Str.ofString "plain"), (Str.ofString "many"), (Str.ofString "one"), (Str.ofString "pair"), (Str.ofString "here"), (Str.ofString "there"), (Str.ofString "cross"), (Str.ofString "cut"), (Str.ofString "both"), (Str.ofString "own")]) (sl := fun L => [((Str.ofString "script"), .frame), ((Str.ofString "yard"), .cell (L + 1)), ((Str.ofString "w"), .frame), ((Str.ofString "rows"), .frame), ((Str.ofString "lines"), .frame), ((Str.ofString "first"), .frame), ((Str.ofString "second"), .cell (L + 1 + 1)), ((Str.ofString "total"), .frame), ((Str.ofString "squares"), .frame), ((Str.ofString "due"), .frame), ((Str.ofString "plain"), .frame), ((Str.ofString "many"), .cell (L + 1 + 2)), ((Str.ofString "one"), .frame), ((Str.ofString "pair"), .cell (L + 1 + 3)), ((Str.ofString "here"), .frame), ((Str.ofString "there"), .frame), ((Str.ofString "cross"), .frame), ((Str.ofString "cut"), .frame), ((Str.ofString "both"), .frame), ((Str.ofString "own"), .frame)]) (cl := fun L => [((Str.ofString "pair"), L + 1 + 3), ((Str.ofString "many"), L + 1 + 2), ((Str.ofString "second"), L + 1 + 1), ((Str.ofString "yard"), L + 1)]) hK.d_law (fun rs doc pm an h => len1 (P := fun rs => bindArgs (fnOf (Str.ofString "law") (Str.ofString "law") (dArgs 46) (dBody 46) (dScope 46) .none .none doc pm an (.ref 303) .none) ⟨rs, []⟩ = pure (List.zip [(Str.ofString "script")] rs)) (fun r0 => rfl) rs h) (by decide +kernel) (by decide +kernel) (by decide +kernel) rfl rfl rfl law_cl (fun L => (slOf_cons (plc_frame k_law_script) (slOf_cons (plc_cell k_law_yard (law_cl L) rfl) (slOf_cons (plc_frame k_law_w) (slOf_cons (plc_frame k_law_rows) (slOf_cons (plc_frame k_law_lines) (slOf_cons (plc_frame k_law_first) (slOf_cons (plc_cell k_law_second (law_cl L) rfl) (slOf_cons (plc_frame k_law_total) (slOf_cons (plc_frame k_law_squares) (slOf_cons (plc_frame k_law_due) (slOf_cons (plc_frame k_law_plain) (slOf_cons (plc_cell k_law_many (law_cl L) rfl) (slOf_cons (plc_frame k_law_one) (slOf_cons (plc_cell k_law_pair (law_cl L) rfl) (slOf_cons (plc_frame k_law_here) (slOf_cons (plc_frame k_law_there) (slOf_cons (plc_frame k_law_cross) (slOf_cons (plc_frame k_law_cut) (slOf_cons (plc_frame k_law_both) (slOf_cons (plc_frame k_law_own) slOf_nil)))))))))))))))))))))
    (fun dp un gd outer gg base A₀ s0 L ok =>
      (ss_cons (ss_name (se_list (sl_cons rfl se_int (sl_cons rfl (se_hid (se_comp ok (se_cut (fb := some (intW 17)) (se_frame (i := 0) ok rfl rfl k_law_script nd_script) se_int (fun _ _ => rfl)) rfl (by decide +kernel) rfl (by decide +kernel) (by decide +kernel) (fun _ ok' => (se_builtin (se_boot ok' hK.g_abs boot_abs nn_abs rfl nd_abs) (sl_cons rfl (se_type (se_boot ok' hK.g_int boot_int nn_int rfl nd_int) (sl_cons rfl (se_dict (i := 20) ok' rfl rfl rfl nd_pole) sl_nil) sa_int rfl rfl) sl_nil) sa_abs rfl rfl)) (fun _ => rfl))) sl_nil))) (st_cell (i := 1) ok rfl rfl rfl) rfl) (ss_cons (ss_name (se_bin se_int (se_call ok (law_next_M hK).fn (se_glob ok hK.g_law_next k_law_law_next nd_law_next) (sl_cons rfl (se_cell (i := 1) ok rfl rfl rfl nd_yard) (sl_cons rfl se_int sl_nil)) (sa_goN ok (law_next_M hK) (Nat.le_of_ble_eq_true rfl)) rfl) so_add) (st_frame (i := 2) ok rfl rfl k_law_w) rfl) (ss_cons (ss_comp ok (st_frame (i := 3) ok rfl rfl k_law_rows) rfl (se_type (se_boot ok hK.g_range boot_range nn_range k_law_range nd_range) (sl_cons rfl se_int sl_nil) sa_range rfl rfl) rfl (by decide +kernel) rfl (by decide +kernel) (by decide +kernel) (fun _ ok' => (se_comp ok' (se_type (se_boot ok' hK.g_range boot_range nn_range rfl nd_range) (sl_cons rfl se_int sl_nil) sa_range rfl rfl) rfl (by decide +kernel) rfl (by decide +kernel) (by decide +kernel) (fun _ ok'' => (se_bin (se_call ok'' (law_next_M hK).fn (se_glob ok'' hK.g_law_next rfl nd_law_next) (sl_cons rfl (se_cell (i := 1) ok'' rfl rfl rfl nd_yard) (sl_cons rfl se_int sl_nil)) (sa_goN ok'' (law_next_M hK) (Nat.le_of_ble_eq_true rfl)) rfl) se_int so_sub)) (fun _ => rfl))) (fun _ => rfl)) (ss_cons (ss_comp ok (st_frame (i := 4) ok rfl rfl k_law_lines) rfl (se_type (se_boot ok hK.g_range boot_range nn_range k_law_range nd_range) (sl_cons rfl se_int sl_nil) sa_range rfl rfl) rfl (by decide +kernel) rfl (by decide +kernel) (by decide +kernel) (fun _ ok' => (se_comp ok' (se_type (se_boot ok' hK.g_range boot_range nn_range rfl nd_range) (sl_cons rfl se_int sl_nil) sa_range rfl rfl) rfl (by decide +kernel) rfl (by decide +kernel) (by decide +kernel) (fun _ ok'' => (se_bin (se_call ok'' (law_next_M hK).fn (se_glob ok'' hK.g_law_next rfl nd_law_next) (sl_cons rfl (se_cell (i := 1) ok'' rfl rfl rfl nd_yard) (sl_cons rfl se_int sl_nil)) (sa_goN ok'' (law_next_M hK) (Nat.le_of_ble_eq_true rfl)) rfl) se_int so_sub)) (fun _ => rfl))) (fun _ => rfl)) (ss_cons (ss_tuple (se_tuple (sl_cons rfl (se_call ok (m_of_M hK).fn (se_glob ok hK.g_m_of k_law_m_of nd_m_of) (sl_cons rfl (se_frame (i := 3) ok rfl rfl k_law_rows nd_rows) (sl_cons rfl (se_frame (i := 2) ok rfl rfl k_law_w nd_w) sl_nil)) (sa_goA ok (m_of_M hK) (Nat.le_of_ble_eq_true rfl)) rfl) (sl_cons rfl (se_call ok (m_of_M hK).fn (se_glob ok hK.g_m_of k_law_m_of nd_m_of) (sl_cons rfl (se_frame (i := 4) ok rfl rfl k_law_lines nd_lines) (sl_cons rfl (se_frame (i := 2) ok rfl rfl k_law_w nd_w) sl_nil)) (sa_goA ok (m_of_M hK) (Nat.le_of_ble_eq_true rfl)) rfl) sl_nil))) (st_tuple (.cons (st_name (st_frame (i := 5) ok rfl rfl k_law_first)) (.cons (st_name (st_cell (i := 6) ok rfl rfl rfl)) STs.nil)) rfl) rfl rfl) (ss_cons (ss_tuple (se_tuple (sl_cons rfl (se_tuple (sl_cons rfl se_bool (sl_cons rfl (se_listF sl_nil) sl_nil))) (sl_cons rfl (se_tuple (sl_cons rfl se_bool (sl_cons rfl (se_listF sl_nil) sl_nil))) (sl_cons rfl se_int (sl_cons rfl se_int sl_nil))))) (st_tuple (.cons (st_name (st_frame (i := 7) ok rfl rfl k_law_total)) (.cons (st_name (st_frame (i := 8) ok rfl rfl k_law_squares)) (.cons (st_name (st_frame (i := 9) ok rfl rfl k_law_due)) (.cons (st_name (st_frame (i := 10) ok rfl rfl k_law_plain)) STs.nil)))) rfl) rfl rfl) (ss_cons (ss_for (se_type (se_boot ok hK.g_range boot_range nn_range k_law_range nd_range) (sl_cons rfl se_int (sl_cons rfl se_int sl_nil)) sa_range rfl rfl) (st_cell (i := 11) ok rfl rfl rfl) (ss_cons (ss_for (se_type (se_boot ok hK.g_range boot_range nn_range k_law_range nd_range) (sl_cons rfl (se_bin (se_cell (i := 11) ok rfl rfl rfl nd_many) se_int (so_I so_sub)) sl_nil) sa_range rfl rfl) (st_frame (i := 12) ok rfl rfl k_law_one) (ss_hid (ss_cons (ss_name (se_listF (sl_cons rfl (se_frame (i := 12) ok rfl rfl k_law_one nd_one) (sl_cons rfl (se_bin (se_cell (i := 11) ok rfl rfl rfl nd_many) se_int (so_I so_sub)) sl_nil))) (st_cell (i := 13) ok rfl rfl rfl) rfl) (ss_cons (ss_name (se_call ok (det_bareiss_M hK).fn (se_glob ok hK.g_det_bareiss k_law_det_bareiss nd_det_bareiss) (sl_cons rfl (se_compC ok (se_frame (i := 5) ok rfl rfl k_law_first nd_first) rfl (fun _ => rfl) (fun _ => rfl) rfl (by decide +kernel) (fun _ _ => rfl) (fun _ _ ok' => (se_comp ok' (se_cell (i := 13) ok' rfl rfl rfl nd_pair) rfl (by decide +kernel) rfl (by decide +kernel) (by decide +kernel) (fun _ ok'' => (se_sub (se_cell (i := 20) ok'' rfl rfl rfl nd_row) (se_dict (i := 21) ok'' rfl rfl rfl nd_at) (so_idx (fun _ _ _ => rfl)))) (fun _ => rfl))) (fun _ => rfl)) (sl_cons rfl (se_frame (i := 2) ok rfl rfl k_law_w nd_w) (sl_cons rfl (se_glob ok hK.g_mul_school k_law_mul_school nd_mul_school) (sl_cons rfl (se_glob ok hK.g_divrem_school k_law_divrem_school nd_divrem_school) sl_nil)))) (sa_goA ok (det_bareiss_M hK) (Nat.le_of_ble_eq_true rfl)) rfl) (st_frame (i := 14) ok rfl rfl k_law_here) rfl) (ss_cons (ss_name (se_call ok (det_bareiss_M hK).fn (se_glob ok hK.g_det_bareiss k_law_det_bareiss nd_det_bareiss) (sl_cons rfl (se_comp ok (se_cell (i := 13) ok rfl rfl rfl nd_pair) rfl (by decide +kernel) rfl (by decide +kernel) (by decide +kernel) (fun _ ok' => (se_sub (se_cell (i := 6) ok' rfl rfl rfl nd_second) (se_dict (i := 20) ok' rfl rfl rfl nd_at) (so_idx (fun _ _ _ => rfl)))) (fun _ => rfl)) (sl_cons rfl (se_frame (i := 2) ok rfl rfl k_law_w nd_w) (sl_cons rfl (se_glob ok hK.g_mul_school k_law_mul_school nd_mul_school) (sl_cons rfl (se_glob ok hK.g_divrem_school k_law_divrem_school nd_divrem_school) sl_nil)))) (sa_goA ok (det_bareiss_M hK) (Nat.le_of_ble_eq_true rfl)) rfl) (st_frame (i := 15) ok rfl rfl k_law_there) rfl) (ss_cons (ss_name (se_call ok (s_add_M hK).fn (se_glob ok hK.g_s_add k_law_s_add nd_s_add) (sl_cons rfl (se_frame (i := 7) ok rfl rfl k_law_total nd_total) (sl_cons rfl (se_call ok (s_mul_M hK).fn (se_glob ok hK.g_s_mul k_law_s_mul nd_s_mul) (sl_cons rfl (se_frame (i := 14) ok rfl rfl k_law_here nd_here) (sl_cons rfl (se_frame (i := 15) ok rfl rfl k_law_there nd_there) (sl_cons rfl (se_frame (i := 2) ok rfl rfl k_law_w nd_w) (sl_cons rfl (se_glob ok hK.g_mul_school k_law_mul_school nd_mul_school) sl_nil)))) (sa_goA ok (s_mul_M hK) (Nat.le_of_ble_eq_true rfl)) rfl) (sl_cons rfl (se_frame (i := 2) ok rfl rfl k_law_w nd_w) sl_nil))) (sa_goA ok (s_add_M hK) (Nat.le_of_ble_eq_true rfl)) rfl) (st_frame (i := 7) ok rfl rfl k_law_total) rfl) (ss_cons (ss_name (se_call ok (s_add_M hK).fn (se_glob ok hK.g_s_add k_law_s_add nd_s_add) (sl_cons rfl (se_frame (i := 8) ok rfl rfl k_law_squares nd_squares) (sl_cons rfl (se_call ok (s_mul_M hK).fn (se_glob ok hK.g_s_mul k_law_s_mul nd_s_mul) (sl_cons rfl (se_frame (i := 14) ok rfl rfl k_law_here nd_here) (sl_cons rfl (se_frame (i := 14) ok rfl rfl k_law_here nd_here) (sl_cons rfl (se_frame (i := 2) ok rfl rfl k_law_w nd_w) (sl_cons rfl (se_glob ok hK.g_mul_school k_law_mul_school nd_mul_school) sl_nil)))) (sa_goA ok (s_mul_M hK) (Nat.le_of_ble_eq_true rfl)) rfl) (sl_cons rfl (se_frame (i := 2) ok rfl rfl k_law_w nd_w) sl_nil))) (sa_goA ok (s_add_M hK) (Nat.le_of_ble_eq_true rfl)) rfl) (st_frame (i := 8) ok rfl rfl k_law_squares) rfl) (ss_cons (ss_name (se_bin (se_bin (se_sub (se_sub (se_frame (i := 3) ok rfl rfl k_law_rows nd_rows) se_int (so_idx (fun _ _ _ => rfl))) (se_frame (i := 12) ok rfl rfl k_law_one nd_one) (so_idx (fun _ _ _ => rfl))) (se_sub (se_sub (se_frame (i := 3) ok rfl rfl k_law_rows nd_rows) se_int (so_idx (fun _ _ _ => rfl))) (se_bin (se_cell (i := 11) ok rfl rfl rfl nd_many) se_int (so_I so_sub)) (so_idx (fun _ _ _ => rfl))) so_mul) (se_bin (se_sub (se_sub (se_frame (i := 3) ok rfl rfl k_law_rows nd_rows) se_int (so_idx (fun _ _ _ => rfl))) (se_bin (se_cell (i := 11) ok rfl rfl rfl nd_many) se_int (so_I so_sub)) (so_idx (fun _ _ _ => rfl))) (se_sub (se_sub (se_frame (i := 3) ok rfl rfl k_law_rows nd_rows) se_int (so_idx (fun _ _ _ => rfl))) (se_frame (i := 12) ok rfl rfl k_law_one nd_one) (so_idx (fun _ _ _ => rfl))) so_mul) so_sub) (st_frame (i := 16) ok rfl rfl k_law_cross) rfl) (ss_cons (ss_name (se_bin (se_frame (i := 9) ok rfl rfl k_law_due nd_due) (se_bin (se_frame (i := 16) ok rfl rfl k_law_cross nd_cross) (se_bin (se_bin (se_sub (se_sub (se_frame (i := 4) ok rfl rfl k_law_lines nd_lines) (se_frame (i := 12) ok rfl rfl k_law_one nd_one) (so_idx (fun _ _ _ => rfl))) se_int (so_idx (fun _ _ _ => rfl))) (se_sub (se_sub (se_frame (i := 4) ok rfl rfl k_law_lines nd_lines) (se_bin (se_cell (i := 11) ok rfl rfl rfl nd_many) se_int (so_I so_sub)) (so_idx (fun _ _ _ => rfl))) se_int (so_idx (fun _ _ _ => rfl))) so_mul) (se_bin (se_sub (se_sub (se_frame (i := 4) ok rfl rfl k_law_lines nd_lines) (se_frame (i := 12) ok rfl rfl k_law_one nd_one) (so_idx (fun _ _ _ => rfl))) se_int (so_idx (fun _ _ _ => rfl))) (se_sub (se_sub (se_frame (i := 4) ok rfl rfl k_law_lines nd_lines) (se_bin (se_cell (i := 11) ok rfl rfl rfl nd_many) se_int (so_I so_sub)) (so_idx (fun _ _ _ => rfl))) se_int (so_idx (fun _ _ _ => rfl))) so_mul) so_sub) so_mul) so_add) (st_frame (i := 9) ok rfl rfl k_law_due) rfl) (ss_cons (ss_name (se_bin (se_frame (i := 10) ok rfl rfl k_law_plain nd_plain) (se_bin (se_frame (i := 16) ok rfl rfl k_law_cross nd_cross) (se_frame (i := 16) ok rfl rfl k_law_cross nd_cross) so_mul) so_add) (st_frame (i := 10) ok rfl rfl k_law_plain) rfl) ss_nil))))))))) (fun _ => rfl)) (ss_hid (ss_cons (ss_comp ok (st_frame (i := 17) ok rfl rfl k_law_cut) rfl (se_frame (i := 5) ok rfl rfl k_law_first nd_first) rfl (by decide +kernel) rfl (by decide +kernel) (by decide +kernel) (fun _ ok' => (se_cut (fb := some (locW 11)) (se_dict (i := 20) ok' rfl rfl rfl nd_row) (se_cell (i := 11) ok' rfl rfl rfl nd_many) (fun _ _ => rfl))) (fun _ => rfl)) (ss_cons (ss_name (se_call ok (det_bareiss_M hK).fn (se_glob ok hK.g_det_bareiss k_law_det_bareiss nd_det_bareiss) (sl_cons rfl (se_call ok (m_mul_M hK).fn (se_glob ok hK.g_m_mul k_law_m_mul nd_m_mul) (sl_cons rfl (se_frame (i := 17) ok rfl rfl k_law_cut nd_cut) (sl_cons rfl (se_cut (fb := some (locW 11)) (se_cell (i := 6) ok rfl rfl rfl nd_second) (se_cell (i := 11) ok rfl rfl rfl nd_many) (fun _ _ => rfl)) (sl_cons rfl (se_frame (i := 2) ok rfl rfl k_law_w nd_w) (sl_cons rfl (se_glob ok hK.g_mul_school k_law_mul_school nd_mul_school) sl_nil)))) (sa_goA ok (m_mul_M hK) (Nat.le_of_ble_eq_true rfl)) rfl) (sl_cons rfl (se_frame (i := 2) ok rfl rfl k_law_w nd_w) (sl_cons rfl (se_glob ok hK.g_mul_school k_law_mul_school nd_mul_school) (sl_cons rfl (se_glob ok hK.g_divrem_school k_law_divrem_school nd_divrem_school) sl_nil)))) (sa_goA ok (det_bareiss_M hK) (Nat.le_of_ble_eq_true rfl)) rfl) (st_frame (i := 18) ok rfl rfl k_law_both) rfl) (ss_cons (ss_if (sb_or (sb_cmp (se_frame (i := 18) ok rfl rfl k_law_both nd_both) (se_frame (i := 7) ok rfl rfl k_law_total nd_total) (so_neT ok (Nat.le_of_ble_eq_true rfl)) rfl) (sb_or (sb_cmp (se_frame (i := 18) ok rfl rfl k_law_both nd_both) (se_call ok (law_signed_M hK).fn (se_glob ok hK.g_law_signed k_law_law_signed nd_law_signed) (sl_cons rfl (se_frame (i := 9) ok rfl rfl k_law_due nd_due) (sl_cons rfl (se_frame (i := 2) ok rfl rfl k_law_w nd_w) sl_nil)) (sa_goA ok (law_signed_M hK) (Nat.le_of_ble_eq_true rfl)) rfl) (so_neT ok (Nat.le_of_ble_eq_true rfl)) rfl) sb_or_nil)) (ss_cons (ss_ret se_bool) ss_nil) ss_nil) (ss_cons (ss_name (se_call ok (det_bareiss_M hK).fn (se_glob ok hK.g_det_bareiss k_law_det_bareiss nd_det_bareiss) (sl_cons rfl (se_call ok (m_mul_M hK).fn (se_glob ok hK.g_m_mul k_law_m_mul nd_m_mul) (sl_cons rfl (se_frame (i := 17) ok rfl rfl k_law_cut nd_cut) (sl_cons rfl (se_call ok (m_turned_M hK).fn (se_glob ok hK.g_m_turned k_law_m_turned nd_m_turned) (sl_cons rfl (se_frame (i := 17) ok rfl rfl k_law_cut nd_cut) sl_nil) (sa_goA ok (m_turned_M hK) (Nat.le_of_ble_eq_true rfl)) rfl) (sl_cons rfl (se_frame (i := 2) ok rfl rfl k_law_w nd_w) (sl_cons rfl (se_glob ok hK.g_mul_school k_law_mul_school nd_mul_school) sl_nil)))) (sa_goA ok (m_mul_M hK) (Nat.le_of_ble_eq_true rfl)) rfl) (sl_cons rfl (se_frame (i := 2) ok rfl rfl k_law_w nd_w) (sl_cons rfl (se_glob ok hK.g_mul_school k_law_mul_school nd_mul_school) (sl_cons rfl (se_glob ok hK.g_divrem_school k_law_divrem_school nd_divrem_school) sl_nil)))) (sa_goA ok (det_bareiss_M hK) (Nat.le_of_ble_eq_true rfl)) rfl) (st_frame (i := 19) ok rfl rfl k_law_own) rfl) (ss_cons (ss_if (sb_or (sb_cmp (se_frame (i := 19) ok rfl rfl k_law_own nd_own) (se_frame (i := 8) ok rfl rfl k_law_squares nd_squares) (so_neT ok (Nat.le_of_ble_eq_true rfl)) rfl) (sb_or (sb_cmp (se_frame (i := 19) ok rfl rfl k_law_own nd_own) (se_call ok (law_signed_M hK).fn (se_glob ok hK.g_law_signed k_law_law_signed nd_law_signed) (sl_cons rfl (se_frame (i := 10) ok rfl rfl k_law_plain nd_plain) (sl_cons rfl (se_frame (i := 2) ok rfl rfl k_law_w nd_w) sl_nil)) (sa_goA ok (law_signed_M hK) (Nat.le_of_ble_eq_true rfl)) rfl) (so_neT ok (Nat.le_of_ble_eq_true rfl)) rfl) sb_or_nil)) (ss_cons (ss_ret se_bool) ss_nil) ss_nil) ss_nil))))))) (fun _ => rfl)) (ss_cons (ss_ret se_bool) ss_nil))))))))) hH hS Xi hoff T fx (Nat.le_of_ble_eq_true rfl) (Nat.le_of_ble_eq_true rfl) hW V ret
section
variable {β : Type} {x y : St → (β → St → Prop) → Prop} {σ : St} {Φ : β → St → Prop} {p : Prop} [Decidable p]
theorem br_t (h : p) (k : x σ Φ) : brW (decide p) x y σ Φ := by rw [decide_eq_true h, brW_true]; exact k
theorem br_f (h : ¬p) (k : y σ Φ) : brW (decide p) x y σ Φ := by rw [decide_eq_false h, brW_false]; exact k
theorem br_lt (k : x σ Φ) : brW true x y σ Φ := by rw [brW_true]; exact k
theorem br_lf (k : y σ Φ) : brW false x y σ Φ := by rw [brW_false]; exact k
theorem br_s (h : p → x σ Φ) (k : ¬p → y σ Φ) : brW (decide p) x y σ Φ := by
  by_cases q : p
  · exact br_t q (h q)
  · exact br_f q (k q)
end
section
variable {P : Int → Int → Prop} {op : Int → Int → Int} {x y k B : Int} {σ : St} {Φ : PV → St → Prop}
theorem i2_of (h : P x y) (k : Φ (.int (op x y)) σ) : i2W P op (.int x) (.int y) σ Φ := by unfold i2W; exact ⟨h, k⟩
theorem i2_add (h : ∀ z, z = x + y → Φ (.int z) σ) : i2W Any2 (· + ·) (.int x) (.int y) σ Φ := i2_of trivial (h _ rfl)
theorem i2_sub (h : ∀ z, z = x - y → Φ (.int z) σ) : i2W Any2 (· - ·) (.int x) (.int y) σ Φ := i2_of trivial (h _ rfl)
theorem i2_mul (hx : -100000 ≤ x ∧ x ≤ 100000) (h : ∀ z, z = x * y → Φ (.int z) σ) : i2W Small1 (· * ·) (.int x) (.int y) σ Φ := i2_of hx (h _ rfl)
theorem i2_shl (W : Wd k B) (hx : -100000 ≤ x ∧ x ≤ 100000) (h : ∀ z, z = x * B → Φ (.int z) σ) : i2W Shift (fun x k => x * 2 ^ k.toNat) (.int x) (.int k) σ Φ := by
  have h1 := W.lo; have h2 := W.hi
  exact i2_of ⟨⟨by omega, by omega⟩, hx⟩ (h _ (by rw [← W.is]))
theorem i2_shl0 (W : Wd k B) (hx : x = 0) (h : ∀ z, z = 0 → Φ (.int z) σ) : i2W Shift (fun x k => x * 2 ^ k.toNat) (.int x) (.int k) σ Φ :=
  i2_shl W (by omega) fun z hz => h z (by rw [hz, hx, Int.zero_mul])
theorem i2_shr (W : Wd k B) (h : ∀ z, z = x / B → Φ (.int z) σ) : i2W (fun _ k => 0 ≤ k) (fun x k => x / (2 ^ k.toNat)) (.int x) (.int k) σ Φ := by
  have h1 := W.lo
  exact i2_of (by omega) (h _ (by rw [← W.is]))
theorem i2_shr0 (W : Wd k B) (hx : 0 ≤ x ∧ x < B) (h : ∀ z, z = 0 → Φ (.int z) σ) : i2W (fun _ k => 0 ≤ k) (fun x k => x / (2 ^ k.toNat)) (.int x) (.int k) σ Φ :=
  i2_shr W fun z hz => h z (by rw [hz, Int.ediv_eq_zero_of_lt hx.1 hx.2])
theorem i2_shr1 (W : Wd k B) (hx : 0 ≤ x ∧ x < B * B) (h : ∀ z, z = x / B → 0 ≤ z → z < B → Φ (.int z) σ) : i2W (fun _ k => 0 ≤ k) (fun x k => x / (2 ^ k.toNat)) (.int x) (.int k) σ Φ := by
  have h1 := W.ge
  exact i2_shr W fun z hz => h z hz (by rw [hz]; exact Int.ediv_nonneg hx.1 (by omega)) (by rw [hz]; exact Int.ediv_lt_of_lt_mul (by omega) hx.2)
theorem i2_mask0 (W : Wd k B) (hy : y = B - 1) (hx : 0 ≤ x ∧ x < B) (h : ∀ z, z = x → Φ (.int z) σ) : i2W Any2 Builtin.bitAnd (.int x) (.int y) σ Φ := by
  refine i2_of trivial (h _ ?_)
  rw [hy, W.is, kbt_mask, ← W.is]
  exact Int.emod_eq_of_lt hx.1 hx.2
theorem i2_mask (W : Wd k B) (hy : y = B - 1) (h : ∀ z, z = x % B → Φ (.int z) σ) : i2W Any2 Builtin.bitAnd (.int x) (.int y) σ Φ := by
  refine i2_of trivial (h _ ?_)
  rw [hy, W.is, kbt_mask]
theorem i2_or (hx : x = 0) (h : ∀ z, z = y → Φ (.int z) σ) : i2W Any2 Builtin.bitOr (.int x) (.int y) σ Φ := by
  refine i2_of trivial (h _ ?_)
  rw [hx, bitOr_and, bitAnd_comm, bitAnd_zero]; omega
theorem i2_mod (hy : 0 < y) (h : ∀ z, z = x % y → Φ (.int z) σ) : i2W (fun _ y => 0 < y) (· % ·) (.int x) (.int y) σ Φ := i2_of hy (h _ rfl)
theorem i2_mod0 (hx : 0 ≤ x ∧ x < y) (h : ∀ z, z = x → Φ (.int z) σ) : i2W (fun _ y => 0 < y) (· % ·) (.int x) (.int y) σ Φ := i2_of (by omega) (h _ (Int.emod_eq_of_lt hx.1 hx.2))
theorem i2_fdiv0 (hx : 0 ≤ x ∧ x < y) (hy : y ≤ 4096) (h : ∀ z, z = 0 → Φ (.int z) σ) : i2W (fun _ y => 0 < y ∧ y ≤ 4096) (· / ·) (.int x) (.int y) σ Φ := i2_of (by omega) (h _ (Int.ediv_eq_zero_of_lt hx.1 hx.2))
theorem i2_fdiv1 (W : Wd k B) (e : y = B) (hx : 0 ≤ x ∧ x < B * B) (h : ∀ z, z = x / B → 0 ≤ z → z < B → Φ (.int z) σ) : i2W (fun _ y => 0 < y ∧ y ≤ 4096) (· / ·) (.int x) (.int y) σ Φ := by
  have h1 := W.ge
  have h2 := W.le
  subst e
  exact i2_of (by omega) (h _ rfl (Int.ediv_nonneg hx.1 (by omega)) (Int.ediv_lt_of_lt_mul (by omega) hx.2))
theorem i2_fdiv (hy : 0 < y ∧ y ≤ 4096) (h : ∀ z, z = x / y → Φ (.int z) σ) : i2W (fun _ y => 0 < y ∧ y ≤ 4096) (· / ·) (.int x) (.int y) σ Φ := i2_of hy (h _ rfl)
theorem i2_pow (W : Wd k B) (hx : x = 2) (h : ∀ z, z = B → Φ (.int z) σ) : i2W (fun x k => x = 2 ∧ 0 ≤ k ∧ k ≤ 1000) (fun x k => x ^ k.toNat) (.int x) (.int k) σ Φ := by
  have h1 := W.lo; have h2 := W.hi
  exact i2_of ⟨hx, by omega, by omega⟩ (h _ (by rw [hx, ← W.is]))
end
/-- digits, base B, low first, the highest not nought -/
inductive Lm (B n : Int) : List PV → Prop
  | zero (e : n = 0) : Lm B n []
  | one {a : Int} (e : n = a) (h0 : 0 < a) (h1 : a < B) : Lm B n [.int a]
  | two {a b : Int} (e : n = a + b * B) (h0 : 0 ≤ a) (h1 : a < B) (h2 : 0 < b) (h3 : b < B) : Lm B n [.int a, .int b]
theorem dm_eq (s B : Int) : s = s % B + s / B * B := by
  have h := Int.emod_add_mul_ediv s B; rw [Int.mul_comm] at h; omega
theorem dm_lo {B : Int} (s : Int) (hB : 0 < B) : 0 ≤ s % B ∧ s % B < B := ⟨Int.emod_nonneg _ (by omega), Int.emod_lt_of_pos _ hB⟩
theorem fin1 {B n s : Int} (hB : 0 < B) (e : n = s) (h0 : 0 ≤ s) (h1 : s < B * B) (hq : 0 < s / B) : Lm B n [.int (s % B), .int (s / B)] := by
  have h2 := dm_lo s hB
  exact .two (by rw [e]; exact dm_eq s B) h2.1 h2.2 hq (Int.ediv_lt_of_lt_mul hB h1)
theorem fin1' {B n s : Int} (hB : 0 < B) (e : n = s) (h0 : 0 < s) (hq : s / B ≤ 0) : Lm B n [.int (s % B)] := by
  have h2 := dm_lo s hB
  have h3 := dm_eq s B
  have h4 : 0 ≤ s / B := Int.ediv_nonneg (by omega) (by omega)
  have h5 : s / B = 0 := by omega
  rw [h5] at h3
  exact .one (by omega) (by omega) h2.2
theorem fin2x {B n s t : Int} (hB : 0 < B) (e : n = s + t * B) (h0 : 0 ≤ s) (h1 : n < B * B) (hq : 0 < (s / B + t) / B) : False := by
  have h3 := dm_eq s B
  have h2 := dm_lo s hB
  have h4 := dm_eq (s / B + t) B
  have h5 := dm_lo (s / B + t) hB
  have h6 : n = s % B + (s / B + t) * B := by rw [Int.add_mul]; omega
  have h7 : B ≤ (s / B + t) / B * B := by
    have := Int.mul_le_mul_of_nonneg_right (show (1:Int) ≤ (s / B + t) / B by omega) (show 0 ≤ B by omega)
    omega
  have h8 : B ≤ s / B + t := by omega
  have h9 := Int.mul_le_mul_of_nonneg_right h8 (show 0 ≤ B by omega)
  omega
theorem fin2 {B n s t : Int} (hB : 0 < B) (e : n = s + t * B) (h0 : 0 ≤ s) (ht : 0 < t) (hq : (s / B + t) / B ≤ 0) : Lm B n [.int (s % B), .int ((s / B + t) % B)] := by
  have h3 := dm_eq s B
  have h2 := dm_lo s hB
  have h4 := dm_eq (s / B + t) B
  have h5 := dm_lo (s / B + t) hB
  have h6 : n = s % B + (s / B + t) * B := by rw [Int.add_mul]; omega
  have h7 : 0 ≤ s / B := Int.ediv_nonneg h0 (by omega)
  have h8 : 0 ≤ (s / B + t) / B := Int.ediv_nonneg (by omega) (by omega)
  have h9 : (s / B + t) / B = 0 := by omega
  rw [h9] at h4
  have h10 : (s / B + t) % B = s / B + t := by omega
  rw [h10]
  exact .two h6 h2.1 h2.2 (by omega) (by omega)
/-- two-limb numbers compared -/
theorem two_lt {B a b c d : Int} (hB : 0 < B) (h1 : a < B) (h2 : 0 ≤ c) (h : b < d) : a + b * B < c + d * B := by
  have h9 := Int.mul_le_mul_of_nonneg_right (show b + 1 ≤ d by omega) (show 0 ≤ B by omega)
  rw [Int.add_mul] at h9
  omega
theorem one_lt_two {B a c d : Int} (hB : 0 < B) (h1 : a < B) (h2 : 0 ≤ c) (h : 0 < d) : a < c + d * B := by
  have := two_lt (b := 0) hB h1 h2 h
  omega

theorem Lm.short {B n : Int} {vs : List PV} (h : Lm B n vs) (hn : n < B) : (n = 0 ∧ vs = []) ∨ ∃ a, n = a ∧ vs = [.int a] ∧ 0 < a := by
  cases h with
  | zero e => exact .inl ⟨e, rfl⟩
  | one e h0 h1 => exact .inr ⟨_, e, rfl, h0⟩
  | @two a b e h0 h1 h2 h3 =>
    have h9 := Int.mul_le_mul_of_nonneg_right (show (1:Int) ≤ b by omega) (show 0 ≤ B by omega)
    omega
theorem mulq0 {B a b : Int} (hB : 0 < B) (ha : 0 < a) (hb : 0 < b) : 0 ≤ (a * b) / B := Int.ediv_nonneg (Int.mul_nonneg (by omega) (by omega)) (by omega)
theorem mulq1 {B a b : Int} (hB : 0 < B) (ha : 0 < a) (hb : 0 < b) (ha1 : a < B) (hb1 : b < B) : (a * b) / B < B := by
  refine Int.ediv_lt_of_lt_mul hB ?_
  exact Int.lt_of_le_of_lt (Int.mul_le_mul_of_nonneg_left (Int.le_of_lt hb1) (by omega)) (Int.mul_lt_mul_of_pos_right ha1 hB)

/-- a number's sign and size, as the pair bears them -/
def ng (z : Int) : Bool := decide (z < 0)
def ab (z : Int) : Int := if z < 0 then -z else z
theorem ab_nn (z : Int) : 0 ≤ ab z := by unfold ab; split <;> omega
theorem ab_neg (z : Int) : ab (-z) = ab z := by unfold ab; split <;> split <;> omega
theorem Lm.pos {B n : Int} {vs : List PV} (h : Lm B n vs) (hB : 0 < B) : 0 ≤ n ∧ (0 < vs.length ↔ 0 < n) := by
  cases h with
  | zero e => subst e; simp
  | one e h0 h1 => subst e; simp; omega
  | @two a b e h0 h1 h2 h3 =>
    have h9 := Int.mul_pos h2 hB
    simp; omega
theorem sg_neg {B z : Int} {vs : List PV} (h : Lm B (ab z) vs) (hB : 0 < B) : ((!ng z) && decide (0 < vs.length)) = ng (-z) := by
  have h1 := (h.pos hB).2
  rw [Bool.eq_iff_iff]
  simp only [Bool.and_eq_true, Bool.not_eq_true', ng, decide_eq_true_eq, decide_eq_false_iff_not]
  unfold ab at h1
  split at h1 <;> omega
theorem sg_same {B x y : Int} {vs : List PV} (h : Lm B (ab x + ab y) vs) (hB : 0 < B) (e : ng x = ng y) : (ng x && decide (0 < vs.length)) = ng (x + y) ∧ Lm B (ab (x + y)) vs := by
  have h1 := (h.pos hB).2
  simp only [ng, decide_eq_decide] at e
  have e2 : ab (x + y) = ab x + ab y := by unfold ab; split <;> split <;> split <;> omega
  refine ⟨?_, e2 ▸ h⟩
  rw [Bool.eq_iff_iff]
  simp only [Bool.and_eq_true, ng, decide_eq_true_eq]
  unfold ab at h1
  split at h1 <;> split at h1 <;> omega
theorem sg_lt {B x y : Int} {vs : List PV} (h : Lm B (ab y - ab x) vs) (hB : 0 < B) (e : ng x ≠ ng y) (hl : ab x < ab y) : (ng y && decide (0 < vs.length)) = ng (x + y) ∧ Lm B (ab (x + y)) vs := by
  have h1 := (h.pos hB).2
  have e2 : ab (x + y) = ab y - ab x := by
    simp only [ng, ne_eq, decide_eq_decide] at e
    unfold ab at hl ⊢; split at hl <;> split at hl <;> split <;> simp_all <;> omega
  refine ⟨?_, e2 ▸ h⟩
  rw [Bool.eq_iff_iff]
  simp only [ng, ne_eq, decide_eq_decide] at e
  simp only [Bool.and_eq_true, ng, decide_eq_true_eq]
  unfold ab at h1 hl
  split at h1 <;> split at h1 <;> simp_all <;> omega
theorem sg_ge {B x y : Int} {vs : List PV} (h : Lm B (ab x - ab y) vs) (hB : 0 < B) (e : ng x ≠ ng y) (hl : ab y ≤ ab x) : (ng x && decide (0 < vs.length)) = ng (x + y) ∧ Lm B (ab (x + y)) vs := by
  have h1 := (h.pos hB).2
  have e2 : ab (x + y) = ab x - ab y := by
    simp only [ng, ne_eq, decide_eq_decide] at e
    unfold ab at hl ⊢; split at hl <;> split at hl <;> split <;> simp_all <;> omega
  refine ⟨?_, e2 ▸ h⟩
  rw [Bool.eq_iff_iff]
  simp only [ng, ne_eq, decide_eq_decide] at e
  simp only [Bool.and_eq_true, ng, decide_eq_true_eq]
  unfold ab at h1 hl
  split at h1 <;> split at h1 <;> simp_all <;> omega
theorem ab_mul (x y : Int) : ab (x * y) = ab x * ab y := by
  unfold ab
  split <;> rename_i h <;> split <;> rename_i h1 <;> split <;> rename_i h2
  · have := Int.mul_pos (show 0 < -x by omega) (show 0 < -y by omega); rw [Int.neg_mul_neg] at this; omega
  · rw [Int.neg_mul]
  · rw [Int.mul_neg]
  · have := Int.mul_nonneg (show 0 ≤ x by omega) (show 0 ≤ y by omega); omega
  · rw [Int.neg_mul_neg]
  · rw [Int.neg_mul]
    have := Int.mul_nonneg (show 0 ≤ -x by omega) (show 0 ≤ y by omega); rw [Int.neg_mul] at this; omega
  · rw [Int.mul_neg]
    have := Int.mul_nonneg (show 0 ≤ x by omega) (show 0 ≤ -y by omega); rw [Int.mul_neg] at this; omega
  · rfl
theorem sg_mul {B x y : Int} {vs : List PV} (h : Lm B (ab x * ab y) vs) (hB : 0 < B) : ((ng x != ng y) && decide (0 < vs.length)) = ng (x * y) ∧ Lm B (ab (x * y)) vs := by
  have h1 := (h.pos hB).2
  rw [← ab_mul] at h h1
  refine ⟨?_, h⟩
  by_cases h0 : x * y = 0
  · have : ¬ 0 < vs.length := by rw [h1, h0]; decide
    rw [decide_eq_false this, h0]; simp [ng]
  · have hl : 0 < vs.length := by rw [h1]; unfold ab; split <;> omega
    rw [decide_eq_true hl, Bool.and_true]
    have hx : x ≠ 0 := fun e => h0 (by rw [e, Int.zero_mul])
    have hy : y ≠ 0 := fun e => h0 (by rw [e, Int.mul_zero])
    rw [Bool.eq_iff_iff]
    simp only [ng, bne_iff_ne, ne_eq, decide_eq_decide, decide_eq_true_eq]
    rcases Int.lt_or_gt_of_ne hx with a | a <;> rcases Int.lt_or_gt_of_ne hy with b | b
    · have := Int.mul_pos_of_neg_of_neg a b; simp [a, b]; omega
    · have := Int.mul_neg_of_neg_of_pos a b; simp [a]; omega
    · have := Int.mul_neg_of_pos_of_neg a b; simp [b]; omega
    · have := Int.mul_pos a b; constructor <;> intro q <;> omega
theorem sg_keep {B z : Int} {vs : List PV} (h : Lm B (ab z) vs) (hB : 0 < B) : (ng z && decide (0 < vs.length)) = ng z := by
  have h1 := (h.pos hB).2
  rw [Bool.eq_iff_iff]
  simp only [Bool.and_eq_true, ng, decide_eq_true_eq]
  unfold ab at h1
  split at h1 <;> omega

theorem Lm.unit {B : Int} (hB : 1 < B) : Lm B 1 [.int 1] := .one rfl (by omega) hB

theorem Wd.bb {k B : Int} (W : Wd k B) : 128 * B ≤ B * B := by
  have h1 := W.ge
  exact Int.mul_le_mul_of_nonneg_right h1 (by omega)
/-- the digits of n -/
def lim (B n : Int) : List PV := if n = 0 then [] else if n < B then [.int n] else [.int (n % B), .int (n / B)]
theorem lim_Lm {B n : Int} (hB : 0 < B) (h0 : 0 ≤ n) (h1 : n < B * B) : Lm B n (lim B n) := by
  unfold lim
  split
  · exact .zero ‹_›
  · split
    · exact .one rfl (by omega) ‹_›
    · refine .two (dm_eq n B) (dm_lo n hB).1 (dm_lo n hB).2 ?_ (Int.ediv_lt_of_lt_mul hB h1)
      have h2 := dm_eq n B
      have h3 := dm_lo n hB
      false_or_by_contra
      have h4 : n / B ≤ 0 := by omega
      have h5 : 0 ≤ n / B := Int.ediv_nonneg h0 (by omega)
      have h6 : n / B = 0 := by omega
      rw [h6] at h2
      omega
theorem Lm.lim {B n : Int} {vs : List PV} (h : Lm B n vs) (hB : 0 < B) : vs = lim B n := by
  unfold Mine.lim
  cases h with
  | zero e => rw [if_pos e]
  | one e h0 h1 => subst e; rw [if_neg (by omega), if_pos h1]
  | @two a b e h0 h1 h2 h3 =>
    have h4 := Int.mul_le_mul_of_nonneg_right (show (1 : Int) ≤ b by omega) (show 0 ≤ B by omega)
    rw [if_neg (by omega), if_neg (by omega)]
    have e1 : n % B = a := by rw [e, Int.add_mul_emod_self_right]; exact Int.emod_eq_of_lt h0 h1
    have e2 : n / B = b := by rw [e, Int.add_mul_ediv_right _ _ (by omega), Int.ediv_eq_zero_of_lt h0 h1]; omega
    rw [e1, e2]
/-- a number as the pair bears it -/
def num (B z : Int) : PV := .tup [.raw (.bool (ng z)), .lis (lim B (ab z))]
theorem num_one {B : Int} (hB : 1 < B) : num B 1 = .tup [.raw (.bool false), .lis [.int 1]] := by
  have h : lim B (ab 1) = [.int 1] := by
    show (if (1 : Int) = 0 then _ else if 1 < B then _ else _) = _
    rw [if_neg (by decide), if_pos hB]; rfl
  unfold num
  rw [h]; rfl
theorem Lm.eq {B n m : Int} {vs : List PV} (h : Lm B n vs) (e : n = m) : Lm B m vs := e ▸ h
theorem sub_shapes {B x y : Int} {vs us : List PV} (hB : 128 ≤ B) (hx : Lm B x vs) (hy : Lm B y us) (hs : y ≤ x) :
    (vs = [] ∧ us = [] ∧ x = 0 ∧ y = 0) ∨
    (∃ a, vs = [.int a] ∧ us = [] ∧ x = a ∧ y = 0 ∧ 0 < a ∧ a < B) ∨
    (∃ a c, vs = [.int a] ∧ us = [.int c] ∧ x = a ∧ y = c ∧ c ≤ a ∧ 0 < c ∧ a < B) ∨
    (∃ a b, vs = [.int a, .int b] ∧ us = [] ∧ x = a + b * B ∧ y = 0 ∧ 0 ≤ a ∧ a < B ∧ 0 < b ∧ b < B) ∨
    (∃ a b c, vs = [.int a, .int b] ∧ us = [.int c] ∧ x = a + b * B ∧ y = c ∧ 0 ≤ a ∧ a < B ∧ 0 < b ∧ b < B ∧ 0 < c ∧ c < B) ∨
    (∃ a b c d, vs = [.int a, .int b] ∧ us = [.int c, .int d] ∧ x = a + b * B ∧ y = c + d * B ∧ 0 ≤ a ∧ a < B ∧ 0 < b ∧ b < B ∧ 0 ≤ c ∧ c < B ∧ 0 < d ∧ d < B ∧ (d < b ∨ (d = b ∧ c ≤ a))) := by
  cases hx with
  | zero e => cases hy with
    | zero e2 => exact .inl ⟨rfl, rfl, e, e2⟩
    | one e2 h0 h1 => omega
    | two e2 h0 h1 h2 h3 => have := one_lt_two (B := B) (a := 0) (by omega) (by omega) h0 h2; omega
  | @one a e p0 p1 => cases hy with
    | zero e2 => exact .inr (.inl ⟨a, rfl, rfl, e, e2, p0, p1⟩)
    | @one c e2 h0 h1 => exact .inr (.inr (.inl ⟨a, c, rfl, rfl, e, e2, by omega, h0, p1⟩))
    | two e2 h0 h1 h2 h3 => have := one_lt_two (by omega) p1 h0 h2; omega
  | @two a b e p0 p1 p2 p3 => cases hy with
    | zero e2 => exact .inr (.inr (.inr (.inl ⟨a, b, rfl, rfl, e, e2, p0, p1, p2, p3⟩)))
    | @one c e2 h0 h1 => exact .inr (.inr (.inr (.inr (.inl ⟨a, b, c, rfl, rfl, e, e2, p0, p1, p2, p3, h0, h1⟩))))
    | @two c d e2 h0 h1 h2 h3 =>
      refine .inr (.inr (.inr (.inr (.inr ⟨a, b, c, d, rfl, rfl, e, e2, p0, p1, p2, p3, h0, h1, h2, h3, ?_⟩))))
      rcases Int.lt_trichotomy b d with q | q | q
      · have := two_lt (B := B) (by omega) p1 h0 q; omega
      · subst q; right; exact ⟨rfl, by omega⟩
      · exact .inl q

theorem Lm.low {B x : Int} (hx : 0 < x) (h : x < B) : Lm B x [.int (x % B)] := by
  rw [Int.emod_eq_of_lt (by omega) h]; exact .one rfl hx h

theorem ab_le {z c : Int} (h1 : -c ≤ z) (h2 : z ≤ c) : ab z ≤ c := by unfold ab; split <;> omega
theorem bb_ge {B : Int} (hB : 128 ≤ B) : 16384 ≤ B * B := by
  have := Int.mul_le_mul hB hB (by omega) (by omega)
  omega
theorem ab_fit {a b B : Int} (hB : 128 ≤ B) (a1 : -8191 ≤ a) (a2 : a ≤ 8191) (b1 : -8191 ≤ b) (b2 : b ≤ 8191) : ab a + ab b < B * B := by
  have h1 := ab_le a1 a2
  have h2 := ab_le b1 b2
  have h3 := bb_ge hB
  omega
theorem ab_lt {a B : Int} (hB : 128 ≤ B) (a1 : -127 ≤ a) (a2 : a ≤ 127) : ab a < B := by
  have h1 := ab_le a1 a2
  omega
theorem mul_in {a b c d : Int} (hc : 0 ≤ c) (a1 : -c ≤ a) (a2 : a ≤ c) (b1 : -d ≤ b) (b2 : b ≤ d) : -(c * d) ≤ a * b ∧ a * b ≤ c * d := by
  have h1 := ab_le a1 a2
  have h2 := ab_le b1 b2
  have h3 := ab_mul a b
  have h4 : ab a * ab b ≤ c * d := Int.mul_le_mul h1 h2 (ab_nn b) hc
  rw [← h3] at h4
  clear h3 h1 h2
  unfold ab at h4
  split at h4 <;> omega
theorem in4 {a b : Int} (a1 : -4 ≤ a ∧ a ≤ 4) (b1 : -4 ≤ b ∧ b ≤ 4) : -16 ≤ a * b ∧ a * b ≤ 16 := mul_in (c := 4) (d := 4) (by decide) a1.1 a1.2 b1.1 b1.2
theorem in64 {a b : Int} (a1 : -64 ≤ a ∧ a ≤ 64) (b1 : -64 ≤ b ∧ b ≤ 64) : -4096 ≤ a * b ∧ a * b ≤ 4096 := mul_in (c := 64) (d := 64) (by decide) a1.1 a1.2 b1.1 b1.2
theorem Lm.nought {B : Int} : Lm B (ab 0) [] := .zero rfl


-- what a condition asks
local macro_rules | `(tactic| tb_start) => `(tactic| first | omega | trivial | exact rfl | assumption | (simp only [List.length_cons, List.length_nil, List.length_append, List.length_set, List.length_replicate, List.length_take]; omega))
-- a call of a def with a law of its own
local macro_rules | `(tactic| ktr_rel) => `(tactic| fail)
-- the steps
local macro_rules | `(tactic| ktr_unf) => `(tactic| repeat' ((conv => whnf); first
  | refine And.intro (by tb_start) ?_
  | refine br_lt ?_
  | refine br_lf ?_
  | refine br_t (by first | omega | (simp only [List.length_cons, List.length_nil]; omega)) ?_
  | refine br_f (by first | omega | (simp only [List.length_cons, List.length_nil]; omega)) ?_
  | refine br_s (fun _ => ?_) (fun _ => ?_)
  | refine i2_add (fun _ _ => ?_)
  | refine i2_sub (fun _ _ => ?_)
  | refine i2_mask0 (by assumption) (by omega) (by omega) (fun _ _ => ?_)
  | refine i2_mask (by assumption) (by omega) (fun _ _ => ?_)
  | refine i2_shl0 (by assumption) (by omega) (fun _ _ => ?_)
  | refine i2_shl (by assumption) (by omega) (fun _ _ => ?_)
  | refine i2_shr0 (by assumption) (by omega) (fun _ _ => ?_)
  | refine i2_shr1 (by assumption) (by omega) (fun _ _ _ _ => ?_)
  | refine i2_shr (by assumption) (fun _ _ => ?_)
  | refine i2_mul (by omega) (fun _ _ => ?_)
  | refine i2_or (by omega) (fun _ _ => ?_)
  | refine i2_mod0 (by omega) (fun _ _ => ?_)
  | refine i2_mod (by omega) (fun _ _ => ?_)
  | refine i2_fdiv0 (by omega) (by omega) (fun _ _ => ?_)
  | refine i2_fdiv1 (by assumption) (by omega) (by omega) (fun _ _ _ _ => ?_)
  | refine i2_fdiv (by omega) (fun _ _ => ?_)
  | refine i2_pow (by assumption) (by omega) (fun _ _ => ?_)
  | ktr_rel))
/-! normal -/
def stp : List Int → List Int
  | [] => []
  | a :: r => match stp r with
    | [] => if a = 0 then [] else [a]
    | l => a :: l
theorem stp1 {B n z : Int} (e : n = z) (h0 : 0 ≤ z) (h1 : z < B) : Lm B n ((stp [z]).map .int) := by
  unfold stp stp
  by_cases h : z = 0
  · simp only [h, if_true]; exact .zero (by omega)
  · simp only [h, if_false]; exact .one e (by omega) h1
theorem stp2 {B n p q : Int} (e : n = p + q * B) (h0 : 0 ≤ p) (h1 : p < B) (h2 : 0 ≤ q) (h3 : q < B) : Lm B n ((stp [p, q]).map .int) := by
  unfold stp
  by_cases h : q = 0
  · have e2 : stp [q] = [] := by unfold stp stp; simp only [h, if_true]
    rw [e2]
    subst h
    by_cases h' : p = 0
    · simp only [h', if_true]; exact .zero (by omega)
    · simp only [h', if_false]; exact .one (by omega) (by omega) h1
  · have e2 : stp [q] = [q] := by unfold stp stp; simp only [h, if_false]
    rw [e2]
    exact .two e h0 h1 (by omega) h3
theorem normal_0 {φ : PV → Prop} (hp : φ (.lis [])) : normal_D [.lis []] φ := by
  refine normal_go ?_
  ktr_unf
  all_goals exact hp
theorem normal_1 {a : Int} {φ : PV → Prop} (hp : φ (.lis ((stp [a]).map .int))) : normal_D [.lis [.int a]] φ := by
  refine normal_go ?_
  ktr_unf
  all_goals (simp_all [stp]; exact hp)
theorem normal_2 {a b : Int} {φ : PV → Prop} (hp : φ (.lis ((stp [a, b]).map .int))) : normal_D [.lis [.int a, .int b]] φ := by
  refine normal_go ?_
  ktr_unf
  all_goals (simp_all [stp]; exact hp)
/-! add -/
theorem add_s {k B x y : Int} {vs us : List PV} {φ : PV → Prop} (W : Wd k B) (hx : Lm B x vs) (hy : Lm B y us) (hs : x + y < B * B) (hp : ∀ ws, Lm B (x + y) ws → φ (.lis ws)) : add_D [.lis vs, .lis us, .int k] φ := by
  have hB := W.ge
  refine add_go ?_
  cases hx <;> cases hy
  all_goals ktr_unf
  all_goals refine hp _ ?_
  all_goals subst_vars
  all_goals (simp only [Int.zero_add] at *)
  all_goals first
  | (refine Lm.zero ?_; omega)
  | (refine Lm.one ?_ ?_ ?_ <;> omega)
  | (refine fin1 ?_ ?_ ?_ ?_ ?_ <;> first | assumption | omega)
  | (refine fin1' ?_ ?_ ?_ ?_ <;> first | assumption | omega)
  | (refine Lm.two ?_ ?_ ?_ ?_ ?_ <;> first | assumption | omega)
  | (refine fin2 ?_ ?_ ?_ ?_ ?_ <;> first | assumption | omega | (simp only [Int.add_mul]; omega))
  | (refine' False.elim (fin2x ?a ?b ?c ?d ?e); (case e => assumption); (case d => assumption); (case a => omega); (case b => first | omega | (simp only [Int.add_mul]; omega)); (case c => omega))
/-! nat_of -/
theorem nat_of_s {k B n : Int} {φ : PV → Prop} (W : Wd k B) (h0 : 0 ≤ n) (h1 : n < B) (hp : ∀ ws, Lm B n ws → φ (.lis ws)) : nat_of_D [.int n, .int k] φ := by
  have hB := W.ge
  refine nat_of_go ?_
  ktr_unf
  all_goals refine hp _ ?_
  all_goals subst_vars
  all_goals first
  | (refine Lm.zero ?_; omega)
  | (refine Lm.one ?_ ?_ ?_ <;> omega)
/-! _law_limbs -/
theorem law_limbs_s {k B n : Int} {φ : PV → Prop} (W : Wd k B) (h0 : 0 ≤ n) (h1 : n < B * B) (hp : ∀ ws, Lm B n ws → φ (.lis ws)) : law_limbs_D [.int n, .int k] φ := by
  have hB := W.ge
  have hB2 := W.le
  refine law_limbs_go ?_
  ktr_unf
  all_goals refine hp _ ?_
  all_goals subst_vars
  · exact fin1 (by omega) rfl h0 h1 ‹_›
  · exact fin1' (by omega) rfl ‹_› (by omega)
  · exact .zero (by omega)
/-! compare -/
theorem compare_s {B x y : Int} {vs us : List PV} {φ : PV → Prop} (hB : 0 < B) (hx : Lm B x vs) (hy : Lm B y us) (hp : ∀ c, ((x < y ∧ c = -1) ∨ (x = y ∧ c = 0) ∨ (y < x ∧ c = 1)) → φ (.int c)) : compare_D [.lis vs, .lis us] φ := by
  refine compare_go ?_
  cases hx with
  | zero e => cases hy with
    | zero e2 => ktr_unf; all_goals (refine hp _ ?_; omega)
    | one e2 h0 h1 => ktr_unf; all_goals (refine hp _ ?_; omega)
    | two e2 h0 h1 h2 h3 =>
      have := one_lt_two (B := B) (a := 0) (by omega) (by omega) h0 h2
      ktr_unf; all_goals (refine hp _ ?_; omega)
  | @one a e p0 p1 => cases hy with
    | zero e2 => ktr_unf; all_goals (refine hp _ ?_; omega)
    | one e2 h0 h1 => ktr_unf; all_goals (refine hp _ ?_; omega)
    | two e2 h0 h1 h2 h3 =>
      have := one_lt_two (by omega) p1 h0 h2
      ktr_unf; all_goals (refine hp _ ?_; omega)
  | @two a b e p0 p1 p2 p3 => cases hy with
    | zero e2 =>
      have := one_lt_two (B := B) (a := 0) (by omega) (by omega) p0 p2
      ktr_unf; all_goals (refine hp _ ?_; omega)
    | one e2 h0 h1 =>
      have := one_lt_two (by omega) h1 p0 p2
      ktr_unf; all_goals (refine hp _ ?_; omega)
    | @two c d e2 h0 h1 h2 h3 =>
      have t : (b < d ∧ x < y) ∨ (d < b ∧ y < x) ∨ (b = d ∧ x - y = a - c) := by
        rcases Int.lt_trichotomy b d with q | q | q
        · exact .inl ⟨q, by rw [e, e2]; exact two_lt hB p1 h0 q⟩
        · subst q; exact .inr (.inr ⟨rfl, by omega⟩)
        · exact .inr (.inl ⟨q, by rw [e, e2]; exact two_lt hB h1 p0 q⟩)
      ktr_unf; all_goals (refine hp _ ?_; omega)
local macro_rules | `(tactic| ktr_rel) => `(tactic| first
  | refine normal_0 ?_
  | refine normal_1 ?_
  | refine normal_2 ?_
  | (refine' compare_s ?cB ?cx ?cy (fun c hc => ?_); (case cx => assumption); (case cy => assumption); (case cB => omega)))
/-! sub -/
theorem sub_s {k B x y : Int} {vs us : List PV} {φ : PV → Prop} (W : Wd k B) (hx : Lm B x vs) (hy : Lm B y us) (hs : y ≤ x) (hp : ∀ ws, Lm B (x - y) ws → φ (.lis ws)) : sub_D [.lis vs, .lis us, .int k] φ := by
  have hB := W.ge
  have hx' := hx
  have hy' := hy
  refine sub_go ?_
  rcases sub_shapes hB hx hy hs with ⟨rfl, rfl, e1, e2⟩ | ⟨a, rfl, rfl, e1, e2, h1, h2⟩ | ⟨a, c, rfl, rfl, e1, e2, h1, h2, h3⟩ | ⟨a, b, rfl, rfl, e1, e2, h1, h2, h3, h4⟩ | ⟨a, b, c, rfl, rfl, e1, e2, h1, h2, h3, h4, h5, h6⟩ | ⟨a, b, c, d, rfl, rfl, e1, e2, h1, h2, h3, h4, h5, h6, h7, h8, h9⟩
  all_goals ktr_unf
  all_goals refine hp _ ?_
  all_goals first
  | (refine Lm.zero ?_; omega)
  | (refine stp1 ?_ ?_ ?_ <;> omega)
  | (refine stp2 ?_ ?_ ?_ ?_ ?_ <;> first | omega | (subst_vars; simp only [Int.sub_mul]; omega))
/-! mul_school -/
theorem mul_school_s {k B x y : Int} {vs us : List PV} {φ : PV → Prop} (W : Wd k B) (hx : Lm B x vs) (hy : Lm B y us) (h1 : x < B) (h2 : y < B) (hp : ∀ ws, Lm B (x * y) ws → φ (.lis ws)) : mul_school_D [.lis vs, .lis us, .int k] φ := by
  have hB := W.ge
  have hB2 := W.le
  refine mul_school_go ?_
  rcases hx.short h1 with ⟨rfl, rfl⟩ | ⟨a, rfl, rfl, ha⟩ <;> rcases hy.short h2 with ⟨rfl, rfl⟩ | ⟨b, rfl, rfl, hb⟩
  all_goals ktr_unf
  all_goals refine hp _ ?_
  all_goals first
  | (refine Lm.zero ?_; simp; done)
  | (subst_vars; (try simp only [Int.zero_add] at *); refine stp1 ?_ ?_ ?_ <;> omega)
  | (subst_vars; simp only [Int.zero_add]; exact stp2 (dm_eq _ _) (dm_lo _ (by omega)).1 (dm_lo _ (by omega)).2 (mulq0 (by omega) ha hb) (mulq1 (by omega) ha hb h1 h2))
/-! divrem_limb, divrem_small, divrem_school, by one -/
theorem divrem_limb_s {k B x : Int} {vs : List PV} {φ : PV → Prop} (W : Wd k B) (hx : Lm B x vs) (hp : φ (.tup [.lis vs, .int 0])) : divrem_limb_D [.lis vs, .int 1, .int k] φ := by
  have hB := W.ge
  refine divrem_limb_go ?_
  cases hx with
  | zero e => ktr_unf; all_goals exact hp
  | @one a e h0 h1 =>
    ktr_unf
    rename_i z r e1 _ q e2 s e3
    obtain rfl : q = a := by omega
    obtain rfl : s = 0 := by omega
    have e4 : (stp [q]).map PV.int = [.int q] := by unfold stp stp; simp only [show q ≠ 0 by omega, if_false]; rfl
    rw [← e4] at hp
    exact hp
  | @two a b e h0 h1 h2 h3 =>
    ktr_unf
    rename_i q0 e0 q1 e1 q2 e2 q3 e3 q4 e4 q5 e5 q6 e6 q7 e7
    obtain rfl : q2 = b := by omega
    obtain rfl : q6 = a := by omega
    obtain rfl : q7 = 0 := by omega
    have e8 : (stp [q6, q2]).map PV.int = [.int q6, .int q2] := by
      unfold stp stp stp; simp only [show q2 ≠ 0 by omega, if_false]; rfl
    rw [← e8] at hp
    exact hp
local macro_rules | `(tactic| ktr_rel) => `(tactic| first
  | refine normal_0 ?_
  | refine normal_1 ?_
  | refine normal_2 ?_
  | (refine' compare_s ?cB ?cx ?cy (fun c hc => ?_); (case cx => assumption); (case cy => assumption); (case cB => omega))
  | (refine' divrem_limb_s ?dW ?dx ?_; (case dW => assumption); (case dx => assumption)))
theorem divrem_small_s {k B x : Int} {vs : List PV} {φ : PV → Prop} (W : Wd k B) (hx : Lm B x vs) (hp : φ (.tup [.lis vs, .lis []])) : divrem_small_D [.lis vs, .lis [.int 1], .int k] φ := by
  have hB := W.ge
  refine divrem_small_go ?_
  ktr_unf
  all_goals exact hp
local macro_rules | `(tactic| ktr_rel) => `(tactic| first
  | (refine' compare_s ?cB ?cx ?cy (fun c hc => ?_); (case cx => assumption); (case cy => assumption); (case cB => omega))
  | (refine' divrem_small_s ?dW ?dx ?_; (case dW => assumption); (case dx => assumption)))
theorem divrem_school_s {k B x : Int} {vs : List PV} {φ : PV → Prop} (W : Wd k B) (hx : Lm B x vs) (hp : φ (.tup [.lis vs, .lis []])) : divrem_school_D [.lis vs, .lis [.int 1], .int k] φ := by
  have hB := W.ge
  have hy : Lm B 1 [.int 1] := .unit (by omega)
  refine divrem_school_go ?_
  cases hx with
  | zero e =>
    have hx : Lm B x [] := .zero e
    ktr_unf
    all_goals exact hp
  | @one a e h0 h1 =>
    have hx : Lm B x [.int a] := .one e h0 h1
    ktr_unf
    all_goals exact hp
  | @two a b e h0 h1 h2 h3 =>
    have hx : Lm B x [.int a, .int b] := .two e h0 h1 h2 h3
    have := one_lt_two (B := B) (a := 1) (by omega) (by omega) h0 h2
    ktr_unf
    all_goals exact hp
/-! signed -/
theorem signed_s {B n : Int} {b : Bool} {vs : List PV} {φ : PV → Prop} (h : Lm B n vs) (hp : φ (.tup [.raw (.bool (b && decide (0 < vs.length))), .lis vs])) : signed_D [.raw (.bool b), .lis vs] φ := by
  refine signed_go ?_
  cases h <;> cases b
  all_goals ktr_unf
  all_goals exact hp
local macro_rules | `(tactic| ktr_rel) => `(tactic| first
  | (refine' nat_of_s ?nW ?n0 ?n1 (fun ws hw => ?_); (case nW => assumption); (case n0 => omega); (case n1 => omega))
  | (refine' signed_s ?sh ?_; (case sh => assumption))
  | (refine' compare_s ?cB ?cx ?cy (fun c hc => ?_); (case cx => assumption); (case cy => assumption); (case cB => omega))
  | (refine' add_s ?aW ?ax ?ay ?as (fun ws hw => ?_); (case aW => assumption); (case ax => assumption); (case ay => assumption); (case as => omega))
  | (refine' sub_s ?uW ?ux ?uy ?us (fun ws hw => ?_); (case uW => assumption); (case ux => assumption); (case uy => assumption); (case us => omega))
  | (refine' mul_school_s ?mW ?mx ?my ?m1 ?m2 (fun ws hw => ?_); (case mW => assumption); (case mx => assumption); (case my => assumption); (case m1 => omega); (case m2 => omega))
  | (refine' divrem_school_s ?dW ?dx ?_; (case dW => assumption); (case dx => assumption)))
/-! s_of -/
theorem s_of_s {k B z : Int} {φ : PV → Prop} (W : Wd k B) (h0 : -64 ≤ z) (h1 : z ≤ 64) (hp : φ (num B z)) : s_of_D [.int z, .int k] φ := by
  have hB := W.ge
  refine s_of_go ?_
  ktr_unf
  rename_i ws hw
  obtain rfl : ws = lim B (ab z) := Lm.lim hw (by omega)
  exact hp
/-! s_neg -/
theorem s_neg_s {k B z : Int} {φ : PV → Prop} (W : Wd k B) (h0 : ab z < B * B) (hp : φ (num B (-z))) : s_neg_D [num B z] φ := by
  have hB := W.ge
  have hz := lim_Lm (show 0 < B by omega) (ab_nn z) h0
  refine s_neg_go ?_
  ktr_unf
  rw [sg_neg hz (by omega)]
  have e : num B (-z) = .tup [.raw (.bool (ng (-z))), .lis (lim B (ab z))] := by unfold num; rw [ab_neg]
  rw [e] at hp
  exact hp
/-! s_sign -/
theorem s_sign_s {k B z : Int} {φ : PV → Prop} (W : Wd k B) (h0 : ab z < B * B) (hp : ∀ c, (c = 0 ↔ z = 0) → φ (.int c)) : s_sign_D [num B z] φ := by
  have hB := W.ge
  have hz := lim_Lm (show 0 < B by omega) (ab_nn z) h0
  refine s_sign_go ?_
  unfold num
  generalize lim B (ab z) = vs at hz
  have h1 := (hz.pos (by omega)).2
  have h2 : ab z = 0 ↔ z = 0 := by unfold ab; split <;> omega
  cases hz
  all_goals ktr_unf
  all_goals (refine hp _ ?_; simp only [List.length_cons, List.length_nil] at h1; omega)
/-! s_add -/
theorem s_add_s {k B x y : Int} {φ : PV → Prop} (W : Wd k B) (hx : ab x < B * B) (hy : ab y < B * B) (hs : ab x + ab y < B * B) (hp : φ (num B (x + y))) : s_add_D [num B x, num B y, .int k] φ := by
  have hB := W.ge
  have zx := lim_Lm (show 0 < B by omega) (ab_nn x) hx
  have zy := lim_Lm (show 0 < B by omega) (ab_nn y) hy
  have key : ∀ {b ws}, b = ng (x + y) ∧ Lm B (ab (x + y)) ws → φ (.tup [.raw (.bool b), .lis ws]) := fun {b ws} h => by
    obtain ⟨rfl, h2⟩ := h
    obtain rfl : ws = lim B (ab (x + y)) := h2.lim (by omega)
    exact hp
  refine s_add_go ?_
  ktr_unf
  · exact key (sg_same ‹_› (by omega) ‹_›)
  · exact key (sg_lt ‹_› (by omega) ‹_› (by omega))
  · exact key (sg_ge ‹_› (by omega) ‹_› (by omega))
/-! s_sub -/
local macro_rules | `(tactic| ktr_rel) => `(tactic| first
  | (refine' s_neg_s ?gW ?g0 ?_; (case gW => assumption); (case g0 => assumption))
  | (refine' s_add_s ?fW ?fx ?fy ?fs ?_; (case fW => assumption); (case fx => assumption); (case fy => first | assumption | (rw [ab_neg]; assumption)); (case fs => first | assumption | (rw [ab_neg]; assumption))))
theorem s_sub_s {k B x y : Int} {φ : PV → Prop} (W : Wd k B) (hx : ab x < B * B) (hy : ab y < B * B) (hs : ab x + ab y < B * B) (hp : φ (num B (x - y))) : s_sub_D [num B x, num B y, .int k] φ := by
  refine s_sub_go ?_
  rw [Int.sub_eq_add_neg] at hp
  ktr_unf
  all_goals exact hp
/-! s_mul -/
local macro_rules | `(tactic| ktr_rel) => `(tactic| first
  | (refine' signed_s ?sh ?_; (case sh => assumption))
  | (refine' mul_school_s ?mW ?mx ?my ?m1 ?m2 (fun ws hw => ?_); (case mW => assumption); (case mx => assumption); (case my => assumption); (case m1 => omega); (case m2 => omega))
  | (refine' divrem_school_s ?dW ?dx ?_; (case dW => assumption); (case dx => assumption)))
theorem s_mul_s {k B x y : Int} {φ : PV → Prop} (W : Wd k B) (hx : ab x < B) (hy : ab y < B) (hp : φ (num B (x * y))) : s_mul_D [num B x, num B y, .int k, .raw (.ref 236)] φ := by
  have hB := W.ge
  have hBB := W.bb
  have zx := lim_Lm (show 0 < B by omega) (ab_nn x) (by omega)
  have zy := lim_Lm (show 0 < B by omega) (ab_nn y) (by omega)
  refine s_mul_go ?_
  ktr_unf
  rename_i ws hw
  obtain ⟨h1, h2⟩ := sg_mul hw (show 0 < B by omega)
  obtain rfl : ws = lim B (ab (x * y)) := h2.lim (by omega)
  have e : decide (ng x ≠ ng y) = (ng x != ng y) := (bne_dec _ _).symm
  have h3 : num B (x * y) = .tup [.raw (.bool ((decide (ng x ≠ ng y)) && decide (0 < (lim B (ab (x * y))).length))), .lis (lim B (ab (x * y)))] := by
    unfold num; rw [e, h1]
  rw [h3] at hp
  exact hp
/-! tdiv, exact: by one -/
theorem tdiv_s {k B x : Int} {φ : PV → Prop} (W : Wd k B) (hx : ab x < B * B) (hp : φ (.tup [num B x, num B 0])) : tdiv_D [num B x, num B 1, .int k, .raw (.ref 278)] φ := by
  have hB := W.ge
  have zx := lim_Lm (show 0 < B by omega) (ab_nn x) hx
  have z0 : Lm B 0 [] := .zero rfl
  rw [num_one (by omega)]
  refine tdiv_go ?_
  ktr_unf
  have e1 : (decide (ng x ≠ false) && decide (0 < (lim B (ab x)).length)) = ng x := by
    have h := sg_keep zx (show 0 < B by omega)
    rw [show decide (ng x ≠ false) = ng x by cases ng x <;> rfl]
    exact h
  have e2 : (ng x && decide (0 < ([] : List PV).length)) = false := by simp
  have e3 : PV.tup [num B x, num B 0] = .tup [.tup [.raw (.bool (decide (ng x ≠ false) && decide (0 < (lim B (ab x)).length))), .lis (lim B (ab x))], .tup [.raw (.bool (ng x && decide (0 < ([] : List PV).length))), .lis []]] := by
    rw [e1, e2]; rfl
  rw [e3] at hp
  exact hp
local macro_rules | `(tactic| ktr_rel) => `(tactic| (refine' tdiv_s ?dW ?dx ?_; (case dW => assumption); (case dx => assumption)))
theorem exact_s {k B x : Int} {φ : PV → Prop} (W : Wd k B) (hx : ab x < B * B) (hp : φ (num B x)) : exact_D [num B x, num B 1, .int k, .raw (.ref 278)] φ := by
  refine exact_go ?_
  ktr_unf
  all_goals exact hp
/-! _law_signed -/
local macro_rules | `(tactic| ktr_rel) => `(tactic| (refine' law_limbs_s ?dW ?d0 ?d1 (fun ws hw => ?_); (case dW => assumption); (case d0 => exact ab_nn _); (case d1 => assumption)))
theorem law_signed_s {k B z : Int} {φ : PV → Prop} (W : Wd k B) (hz : ab z < B * B) (hp : φ (num B z)) : law_signed_D [.int z, .int k] φ := by
  have hB := W.ge
  refine law_signed_go ?_
  ktr_unf
  rename_i ws hw
  obtain rfl : ws = lim B (ab z) := Lm.lim hw (by omega)
  exact hp
theorem fit1 {a B : Int} (hB : 128 ≤ B) (a1 : -16383 ≤ a) (a2 : a ≤ 16383) : ab a < B * B := by
  have h1 := ab_le a1 a2
  have h3 := bb_ge hB
  omega
-- calls on numbers
local macro_rules | `(tactic| ktr_rel) => `(tactic| first
  | (refine' s_sign_s ?gW ?g0 (fun c hc => ?_); (case gW => assumption); (case g0 => (refine fit1 ?_ ?_ ?_ <;> omega)))
  | (refine' s_mul_s ?mW ?mx ?my ?_; (case mW => assumption); (case mx => (refine ab_lt ?_ ?_ ?_ <;> omega)); (case my => (refine ab_lt ?_ ?_ ?_ <;> omega)))
  | (refine' s_add_s ?fW ?fx ?fy ?fs ?_; (case fW => assumption); (case fx => (refine fit1 ?_ ?_ ?_ <;> omega)); (case fy => (refine fit1 ?_ ?_ ?_ <;> omega)); (case fs => (refine ab_fit ?_ ?_ ?_ ?_ ?_ <;> omega)))
  | (refine' s_sub_s ?fW ?fx ?fy ?fs ?_; (case fW => assumption); (case fx => (refine fit1 ?_ ?_ ?_ <;> omega)); (case fy => (refine fit1 ?_ ?_ ?_ <;> omega)); (case fs => (refine ab_fit ?_ ?_ ?_ ?_ ?_ <;> omega)))
  | (refine' exact_s ?eW ?ex ?_; (case eW => assumption); (case ex => (refine fit1 ?_ ?_ ?_ <;> omega)))
  | (refine' s_neg_s ?gW ?g0 ?_; (case gW => assumption); (case g0 => (refine fit1 ?_ ?_ ?_ <;> omega)))
  | (refine' s_of_s ?oW ?o0 ?o1 ?_; (case oW => assumption); (case o0 => omega); (case o1 => omega)))
/-! pivot_row -/
theorem pivot0_s {k B a b c d : Int} {φ : PV → Prop} (W : Wd k B) (hb : -64 ≤ a ∧ a ≤ 64) (hd : -64 ≤ c ∧ c ≤ 64) (h1 : a ≠ 0 → φ (.int 0)) (h2 : a = 0 → c ≠ 0 → φ (.int 1)) (h3 : a = 0 → c = 0 → φ (.int (-1))) :
    pivot_row_D [.lis [.lis [num B a, num B b], .lis [num B c, num B d]], .int 0, .int 0] φ := by
  have hB := W.ge
  refine pivot_row_go ?_
  ktr_unf
  · exact h1 (by omega)
  · exact h2 (by omega) (by omega)
  · exact h3 (by omega) (by omega)
theorem pivot1_s {k B a b c d : Int} {φ : PV → Prop} (W : Wd k B) (hb : -64 ≤ b ∧ b ≤ 64) (hd : -64 ≤ d ∧ d ≤ 64) (h1 : b ≠ 0 → φ (.int 0)) (h2 : b = 0 → d ≠ 0 → φ (.int 1)) (h3 : b = 0 → d = 0 → φ (.int (-1))) :
    pivot_row_D [.lis [.lis [num B a, num B b], .lis [num B c, num B d]], .int 0, .int 1] φ := by
  have hB := W.ge
  refine pivot_row_go ?_
  ktr_unf
  · exact h1 (by omega)
  · exact h2 (by omega) (by omega)
  · exact h3 (by omega) (by omega)
theorem pivot2_s {k B d : Int} {r x : PV} {φ : PV → Prop} (W : Wd k B) (hd : -8192 ≤ d ∧ d ≤ 8192) (h2 : d ≠ 0 → φ (.int 1)) (h3 : d = 0 → φ (.int (-1))) :
    pivot_row_D [.lis [r, .lis [x, num B d]], .int 1, .int 1] φ := by
  have hB := W.ge
  refine pivot_row_go ?_
  ktr_unf
  · exact h2 (by omega)
  · exact h3 (by omega)
/-! cleared -/
theorem cleared0_s {k B a b c d : Int} {φ : PV → Prop} (W : Wd k B) (ha : -64 ≤ a ∧ a ≤ 64) (hb : -64 ≤ b ∧ b ≤ 64) (hc : -64 ≤ c ∧ c ≤ 64) (hd : -64 ≤ d ∧ d ≤ 64) (hp : ∀ x, φ (.lis [x, num B (d * a - c * b)])) :
    cleared_D [.lis [num B c, num B d], .lis [num B a, num B b], .int 0, num B 1, .int k, .raw (.ref 236), .raw (.ref 278)] φ := by
  have hB := W.ge
  have p1 := in64 hc ha
  have p2 := in64 hd ha
  have p3 := in64 hc hb
  refine cleared_go ?_
  ktr_unf
  all_goals exact hp _
theorem cleared1_s {k B a b c d : Int} {φ : PV → Prop} (W : Wd k B) (ha : -64 ≤ a ∧ a ≤ 64) (hb : -64 ≤ b ∧ b ≤ 64) (hc : -64 ≤ c ∧ c ≤ 64) (hd : -64 ≤ d ∧ d ≤ 64) (hp : ∀ x y, φ (.lis [x, y])) :
    cleared_D [.lis [num B c, num B d], .lis [num B a, num B b], .int 1, num B 1, .int k, .raw (.ref 236), .raw (.ref 278)] φ := by
  have hB := W.ge
  have p1 := in64 hc hb
  have p2 := in64 hd ha
  have p3 := in64 hd hb
  refine cleared_go ?_
  ktr_unf
  all_goals exact hp _ _
/-! steps_down, det_bareiss -/
local macro_rules | `(tactic| ktr_rel) => `(tactic| first
  | (refine' pivot2_s ?gW ?gd (fun _ => ?_) (fun _ => ?_); (case gW => assumption); (case gd => omega))
  | (refine' pivot0_s ?gW ?gb ?gd (fun _ => ?_) (fun _ _ => ?_) (fun _ _ => ?_); (case gW => assumption); (case gb => assumption); (case gd => assumption))
  | (refine' pivot1_s ?gW ?gb ?gd (fun _ => ?_) (fun _ _ => ?_) (fun _ _ => ?_); (case gW => assumption); (case gb => assumption); (case gd => assumption))
  | (refine' cleared0_s ?cW ?ca ?cb ?cc ?cd (fun _ => ?_); (case cW => assumption); (case ca => assumption); (case cb => assumption); (case cc => assumption); (case cd => assumption))
  | (refine' cleared1_s ?cW ?ca ?cb ?cc ?cd (fun _ _ => ?_); (case cW => assumption); (case ca => assumption); (case cb => assumption); (case cc => assumption); (case cd => assumption)))
theorem steps_s {k B a b c d : Int} {φ : PV → Prop} (W : Wd k B) (ha : -64 ≤ a ∧ a ≤ 64) (hb : -64 ≤ b ∧ b ≤ 64) (hc : -64 ≤ c ∧ c ≤ 64) (hd : -64 ≤ d ∧ d ≤ 64)
    (h0 : ∀ (r x : PV) (z : Int), (-8192 ≤ z ∧ z ≤ 8192) → z = a * d - b * c → φ (.tup [.lis [r, .lis [x, num B z]], .lis [.int 0, .int 1], .raw (.bool false)]))
    (h1 : ∀ (r x : PV) (z : Int), (-8192 ≤ z ∧ z ≤ 8192) → -z = a * d - b * c → φ (.tup [.lis [r, .lis [x, num B z]], .lis [.int 0, .int 1], .raw (.bool true)]))
    (h2 : ∀ (x : PV) (p : Int) (o : Bool), a * d - b * c = 0 → φ (.tup [x, .lis [.int p], .raw (.bool o)])) (h3 : ∀ (x : PV) (o : Bool), a * d - b * c = 0 → φ (.tup [x, .lis [], .raw (.bool o)])) :
    steps_down_D [.lis [.lis [num B a, num B b], .lis [num B c, num B d]], .int 2, .int k, .raw (.ref 236), .raw (.ref 278)] φ := by
  have hB := W.ge
  have p1 := in64 hd ha
  have p2 := in64 hc hb
  have p3 := in64 hb hc
  have p4 := in64 ha hd
  have q1 := Int.mul_comm d a
  have q2 := Int.mul_comm c b
  have u1 : num B 1 = .tup [.raw (.bool false), .lis [.int 1]] := num_one (by omega)
  refine steps_down_go ?_
  unfold steps_down_W
  rw [← u1]
  ktr_unf
  all_goals first
    | (refine h0 _ _ _ ?_ ?_ <;> omega)
    | (refine h1 _ _ _ ?_ ?_ <;> omega)
    | (refine h2 _ _ _ ?_; first | omega | (subst_vars; simp) | (simp_all))
    | (refine h3 _ _ ?_; first | omega | (subst_vars; simp) | (simp_all))
-- calls on numbers
local macro_rules | `(tactic| ktr_rel) => `(tactic| first
  | (refine' s_mul_s ?mW ?mx ?my ?_; (case mW => assumption); (case mx => (refine ab_lt ?_ ?_ ?_ <;> omega)); (case my => (refine ab_lt ?_ ?_ ?_ <;> omega)))
  | (refine' s_add_s ?fW ?fx ?fy ?fs ?_; (case fW => assumption); (case fx => (refine fit1 ?_ ?_ ?_ <;> omega)); (case fy => (refine fit1 ?_ ?_ ?_ <;> omega)); (case fs => (refine ab_fit ?_ ?_ ?_ ?_ ?_ <;> omega)))
  | (refine' s_neg_s ?gW ?g0 ?_; (case gW => assumption); (case g0 => (refine fit1 ?_ ?_ ?_ <;> omega)))
  | (refine' s_of_s ?oW ?o0 ?o1 ?_; (case oW => assumption); (case o0 => omega); (case o1 => omega))
  | (refine' steps_s ?sW ?sa ?sb ?sc ?sd (fun _ _ _ _ _ => ?_) (fun _ _ _ _ _ => ?_) (fun _ _ _ _ => ?_) (fun _ _ _ => ?_); (case sW => assumption); (case sa => assumption); (case sb => assumption); (case sc => assumption); (case sd => assumption)))
theorem det_s {k B a b c d : Int} {φ : PV → Prop} (W : Wd k B) (ha : -64 ≤ a ∧ a ≤ 64) (hb : -64 ≤ b ∧ b ≤ 64) (hc : -64 ≤ c ∧ c ≤ 64) (hd : -64 ≤ d ∧ d ≤ 64) (hp : φ (num B (a * d - b * c))) :
    det_bareiss_D [.lis [.lis [num B a, num B b], .lis [num B c, num B d]], .int k, .raw (.ref 236), .raw (.ref 278)] φ := by
  have hB := W.ge
  have key : ∀ z, z = a * d - b * c → φ (num B z) := fun z h => h ▸ hp
  have u0 : num B 0 = .tup [.raw (.bool false), .lis []] := rfl
  refine det_bareiss_go ?_
  unfold det_bareiss_W
  rw [← u0]
  ktr_unf
  all_goals first | exact key _ ‹_› | (refine key _ ?_; omega)
abbrev In4 (a : Int) : Prop := -4 ≤ a ∧ a ≤ 4
/-! m_of -/
theorem m_of_s {k B a b c d a' b' c' d' : Int} {φ : PV → Prop} (W : Wd k B) (ha : -4 ≤ a ∧ a ≤ 4) (hb : -4 ≤ b ∧ b ≤ 4) (hc : -4 ≤ c ∧ c ≤ 4) (hd : -4 ≤ d ∧ d ≤ 4) (ha' : -4 ≤ a' ∧ a' ≤ 4) (hb' : -4 ≤ b' ∧ b' ≤ 4) (hc' : -4 ≤ c' ∧ c' ≤ 4) (hd' : -4 ≤ d' ∧ d' ≤ 4)
    (hp : φ (.lis [.lis [num B a, num B b, num B c, num B d], .lis [num B a', num B b', num B c', num B d']])) :
    m_of_D [.lis [.lis [.int a, .int b, .int c, .int d], .lis [.int a', .int b', .int c', .int d']], .int k] φ := by
  refine m_of_go ?_
  ktr_unf
  all_goals exact hp
theorem m_of_t {k B a b c d a' b' c' d' : Int} {φ : PV → Prop} (W : Wd k B) (ha : -4 ≤ a ∧ a ≤ 4) (hb : -4 ≤ b ∧ b ≤ 4) (hc : -4 ≤ c ∧ c ≤ 4) (hd : -4 ≤ d ∧ d ≤ 4) (ha' : -4 ≤ a' ∧ a' ≤ 4) (hb' : -4 ≤ b' ∧ b' ≤ 4) (hc' : -4 ≤ c' ∧ c' ≤ 4) (hd' : -4 ≤ d' ∧ d' ≤ 4)
    (hp : φ (.lis [.lis [num B a, num B b], .lis [num B c, num B d], .lis [num B a', num B b'], .lis [num B c', num B d']])) :
    m_of_D [.lis [.lis [.int a, .int b], .lis [.int c, .int d], .lis [.int a', .int b'], .lis [.int c', .int d']], .int k] φ := by
  refine m_of_go ?_
  ktr_unf
  all_goals exact hp
local macro_rules | `(tactic| ktr_rel) => `(tactic| first
  | (refine' s_mul_s ?mW ?mx ?my ?_; (case mW => assumption); (case mx => (refine ab_lt ?_ ?_ ?_ <;> omega)); (case my => (refine ab_lt ?_ ?_ ?_ <;> omega)))
  | (refine' s_add_s ?fW ?fx ?fy ?fs ?_; (case fW => assumption); (case fx => (refine fit1 ?_ ?_ ?_ <;> omega)); (case fy => (refine fit1 ?_ ?_ ?_ <;> omega)); (case fs => (refine ab_fit ?_ ?_ ?_ ?_ ?_ <;> omega))))
theorem turn_w1 {B a1 b1 : Int} {φ : PV → Prop} (hp : φ (.lis [.lis [num B a1, num B b1]])) : m_turned_D [.lis [.lis [num B a1], .lis [num B b1]]] φ := by
  refine m_turned_go ?_
  ktr_unf
  all_goals exact hp
theorem turn_h1 {B a1 b1 : Int} {φ : PV → Prop} (hp : φ (.lis [.lis [num B a1], .lis [num B b1]])) : m_turned_D [.lis [.lis [num B a1, num B b1]]] φ := by
  refine m_turned_go ?_
  ktr_unf
  all_goals exact hp
theorem turn_w2 {B a1 a2 b1 b2 : Int} {φ : PV → Prop} (hp : φ (.lis [.lis [num B a1, num B b1], .lis [num B a2, num B b2]])) : m_turned_D [.lis [.lis [num B a1, num B a2], .lis [num B b1, num B b2]]] φ := by
  refine m_turned_go ?_
  ktr_unf
  all_goals exact hp
theorem turn_w3 {B a1 a2 a3 b1 b2 b3 : Int} {φ : PV → Prop} (hp : φ (.lis [.lis [num B a1, num B b1], .lis [num B a2, num B b2], .lis [num B a3, num B b3]])) : m_turned_D [.lis [.lis [num B a1, num B a2, num B a3], .lis [num B b1, num B b2, num B b3]]] φ := by
  refine m_turned_go ?_
  ktr_unf
  all_goals exact hp
theorem turn_h3 {B a1 a2 a3 b1 b2 b3 : Int} {φ : PV → Prop} (hp : φ (.lis [.lis [num B a1, num B a2, num B a3], .lis [num B b1, num B b2, num B b3]])) : m_turned_D [.lis [.lis [num B a1, num B b1], .lis [num B a2, num B b2], .lis [num B a3, num B b3]]] φ := by
  refine m_turned_go ?_
  ktr_unf
  all_goals exact hp
theorem turn_w4 {B a1 a2 a3 a4 b1 b2 b3 b4 : Int} {φ : PV → Prop} (hp : φ (.lis [.lis [num B a1, num B b1], .lis [num B a2, num B b2], .lis [num B a3, num B b3], .lis [num B a4, num B b4]])) : m_turned_D [.lis [.lis [num B a1, num B a2, num B a3, num B a4], .lis [num B b1, num B b2, num B b3, num B b4]]] φ := by
  refine m_turned_go ?_
  ktr_unf
  all_goals exact hp
theorem turn_h4 {B a1 a2 a3 a4 b1 b2 b3 b4 : Int} {φ : PV → Prop} (hp : φ (.lis [.lis [num B a1, num B a2, num B a3, num B a4], .lis [num B b1, num B b2, num B b3, num B b4]])) : m_turned_D [.lis [.lis [num B a1, num B b1], .lis [num B a2, num B b2], .lis [num B a3, num B b3], .lis [num B a4, num B b4]]] φ := by
  refine m_turned_go ?_
  ktr_unf
  all_goals exact hp
theorem inner_1 {k B x1 y1 : Int} {φ : PV → Prop} (W : Wd k B) (hx1 : In4 x1) (hy1 : In4 y1) (hp : φ (num B (0 + x1 * y1))) :
    inner_D [.lis [num B x1], .lis [num B y1], .int k, .raw (.ref 236)] φ := by
  have hB := W.ge
  have p1 := in4 hx1 hy1
  have u0 : num B 0 = .tup [.raw (.bool false), .lis []] := rfl
  refine inner_go ?_
  unfold inner_W
  rw [← u0]
  ktr_unf
  all_goals exact hp
theorem inner_2 {k B x1 x2 y1 y2 : Int} {φ : PV → Prop} (W : Wd k B) (hx1 : In4 x1) (hx2 : In4 x2) (hy1 : In4 y1) (hy2 : In4 y2) (hp : φ (num B (0 + x1 * y1 + x2 * y2))) :
    inner_D [.lis [num B x1, num B x2], .lis [num B y1, num B y2], .int k, .raw (.ref 236)] φ := by
  have hB := W.ge
  have p1 := in4 hx1 hy1
  have p2 := in4 hx2 hy2
  have u0 : num B 0 = .tup [.raw (.bool false), .lis []] := rfl
  refine inner_go ?_
  unfold inner_W
  rw [← u0]
  ktr_unf
  all_goals exact hp
theorem inner_3 {k B x1 x2 x3 y1 y2 y3 : Int} {φ : PV → Prop} (W : Wd k B) (hx1 : In4 x1) (hx2 : In4 x2) (hx3 : In4 x3) (hy1 : In4 y1) (hy2 : In4 y2) (hy3 : In4 y3) (hp : φ (num B (0 + x1 * y1 + x2 * y2 + x3 * y3))) :
    inner_D [.lis [num B x1, num B x2, num B x3], .lis [num B y1, num B y2, num B y3], .int k, .raw (.ref 236)] φ := by
  have hB := W.ge
  have p1 := in4 hx1 hy1
  have p2 := in4 hx2 hy2
  have p3 := in4 hx3 hy3
  have u0 : num B 0 = .tup [.raw (.bool false), .lis []] := rfl
  refine inner_go ?_
  unfold inner_W
  rw [← u0]
  ktr_unf
  all_goals exact hp
theorem inner_4 {k B x1 x2 x3 x4 y1 y2 y3 y4 : Int} {φ : PV → Prop} (W : Wd k B) (hx1 : In4 x1) (hx2 : In4 x2) (hx3 : In4 x3) (hx4 : In4 x4) (hy1 : In4 y1) (hy2 : In4 y2) (hy3 : In4 y3) (hy4 : In4 y4) (hp : φ (num B (0 + x1 * y1 + x2 * y2 + x3 * y3 + x4 * y4))) :
    inner_D [.lis [num B x1, num B x2, num B x3, num B x4], .lis [num B y1, num B y2, num B y3, num B y4], .int k, .raw (.ref 236)] φ := by
  have hB := W.ge
  have p1 := in4 hx1 hy1
  have p2 := in4 hx2 hy2
  have p3 := in4 hx3 hy3
  have p4 := in4 hx4 hy4
  have u0 : num B 0 = .tup [.raw (.bool false), .lis []] := rfl
  refine inner_go ?_
  unfold inner_W
  rw [← u0]
  ktr_unf
  all_goals exact hp
local macro_rules | `(tactic| ktr_rel) => `(tactic| first
  | (refine' inner_1 ?iW ?i0 ?i1 ?_; (case iW => assumption); (case i0 => assumption); (case i1 => assumption))
  | (refine' inner_2 ?iW ?i0 ?i1 ?i2 ?i3 ?_; (case iW => assumption); (case i0 => assumption); (case i1 => assumption); (case i2 => assumption); (case i3 => assumption))
  | (refine' inner_3 ?iW ?i0 ?i1 ?i2 ?i3 ?i4 ?i5 ?_; (case iW => assumption); (case i0 => assumption); (case i1 => assumption); (case i2 => assumption); (case i3 => assumption); (case i4 => assumption); (case i5 => assumption))
  | (refine' inner_4 ?iW ?i0 ?i1 ?i2 ?i3 ?i4 ?i5 ?i6 ?i7 ?_; (case iW => assumption); (case i0 => assumption); (case i1 => assumption); (case i2 => assumption); (case i3 => assumption); (case i4 => assumption); (case i5 => assumption); (case i6 => assumption); (case i7 => assumption))
  | refine' turn_w1 ?_
  | refine' turn_h1 ?_
  | refine' turn_w2 ?_
  | refine' turn_w3 ?_
  | refine' turn_h3 ?_
  | refine' turn_w4 ?_
  | refine' turn_h4 ?_)
theorem mm_1 {k B a1 b1 c1 d1 : Int} {φ : PV → Prop} (W : Wd k B) (ha1 : In4 a1) (hb1 : In4 b1) (hc1 : In4 c1) (hd1 : In4 d1) (hp : φ (.lis [.lis [num B (0 + a1 * c1), num B (0 + a1 * d1)], .lis [num B (0 + b1 * c1), num B (0 + b1 * d1)]])) :
    m_mul_D [.lis [.lis [num B a1], .lis [num B b1]], .lis [.lis [num B c1, num B d1]], .int k, .raw (.ref 236)] φ := by
  refine m_mul_go ?_
  ktr_unf
  all_goals exact hp
theorem mm_2 {k B a1 a2 b1 b2 c1 c2 d1 d2 : Int} {φ : PV → Prop} (W : Wd k B) (ha1 : In4 a1) (ha2 : In4 a2) (hb1 : In4 b1) (hb2 : In4 b2) (hc1 : In4 c1) (hc2 : In4 c2) (hd1 : In4 d1) (hd2 : In4 d2) (hp : φ (.lis [.lis [num B (0 + a1 * c1 + a2 * c2), num B (0 + a1 * d1 + a2 * d2)], .lis [num B (0 + b1 * c1 + b2 * c2), num B (0 + b1 * d1 + b2 * d2)]])) :
    m_mul_D [.lis [.lis [num B a1, num B a2], .lis [num B b1, num B b2]], .lis [.lis [num B c1, num B d1], .lis [num B c2, num B d2]], .int k, .raw (.ref 236)] φ := by
  refine m_mul_go ?_
  ktr_unf
  all_goals exact hp
theorem mm_3 {k B a1 a2 a3 b1 b2 b3 c1 c2 c3 d1 d2 d3 : Int} {φ : PV → Prop} (W : Wd k B) (ha1 : In4 a1) (ha2 : In4 a2) (ha3 : In4 a3) (hb1 : In4 b1) (hb2 : In4 b2) (hb3 : In4 b3) (hc1 : In4 c1) (hc2 : In4 c2) (hc3 : In4 c3) (hd1 : In4 d1) (hd2 : In4 d2) (hd3 : In4 d3) (hp : φ (.lis [.lis [num B (0 + a1 * c1 + a2 * c2 + a3 * c3), num B (0 + a1 * d1 + a2 * d2 + a3 * d3)], .lis [num B (0 + b1 * c1 + b2 * c2 + b3 * c3), num B (0 + b1 * d1 + b2 * d2 + b3 * d3)]])) :
    m_mul_D [.lis [.lis [num B a1, num B a2, num B a3], .lis [num B b1, num B b2, num B b3]], .lis [.lis [num B c1, num B d1], .lis [num B c2, num B d2], .lis [num B c3, num B d3]], .int k, .raw (.ref 236)] φ := by
  refine m_mul_go ?_
  ktr_unf
  all_goals exact hp
theorem mm_4 {k B a1 a2 a3 a4 b1 b2 b3 b4 c1 c2 c3 c4 d1 d2 d3 d4 : Int} {φ : PV → Prop} (W : Wd k B) (ha1 : In4 a1) (ha2 : In4 a2) (ha3 : In4 a3) (ha4 : In4 a4) (hb1 : In4 b1) (hb2 : In4 b2) (hb3 : In4 b3) (hb4 : In4 b4) (hc1 : In4 c1) (hc2 : In4 c2) (hc3 : In4 c3) (hc4 : In4 c4) (hd1 : In4 d1) (hd2 : In4 d2) (hd3 : In4 d3) (hd4 : In4 d4) (hp : φ (.lis [.lis [num B (0 + a1 * c1 + a2 * c2 + a3 * c3 + a4 * c4), num B (0 + a1 * d1 + a2 * d2 + a3 * d3 + a4 * d4)], .lis [num B (0 + b1 * c1 + b2 * c2 + b3 * c3 + b4 * c4), num B (0 + b1 * d1 + b2 * d2 + b3 * d3 + b4 * d4)]])) :
    m_mul_D [.lis [.lis [num B a1, num B a2, num B a3, num B a4], .lis [num B b1, num B b2, num B b3, num B b4]], .lis [.lis [num B c1, num B d1], .lis [num B c2, num B d2], .lis [num B c3, num B d3], .lis [num B c4, num B d4]], .int k, .raw (.ref 236)] φ := by
  refine m_mul_go ?_
  ktr_unf
  all_goals exact hp
def Ints (ps : List PV) : Prop := ∀ v ∈ ps, ∃ x, v = .int x

theorem nlen_s {n m : PV} {ps : List PV} {Φ : PV → St → Prop} (hl : ps.length ≤ 17) (hp : Φ (.int ps.length) ⟨[some (.own 0), some m], [[n, .lis ps]], true⟩) :
    hidW (argsW (consW (twoW (locW 0) (intW 1) idxW) nilW) lenW) ⟨[some (.own 0), some m], [[n, .lis ps]], true⟩ Φ := by
  rw [hid_eq]
  show ps.length ≤ 1000 ∧ lenC ps fun n => _
  rw [lenC_eq]
  exact ⟨by omega, hp⟩
theorem nidx_s {n : Int} {m : PV} {ps : List PV} {Φ : PV → St → Prop} (hi : Ints ps) (hl : ps.length ≤ 17) (h1 : 1 ≤ n) (h2 : n ≤ ps.length) (hp : ∀ x, Φ (.int x) ⟨[some (.own 0), some m], [[.int n, .lis ps]], true⟩) :
    hidW (twoW (twoW (locW 0) (intW 1) idxW) (twoW (twoW (locW 0) (intW 0) idxW) (intW 1) (i2W Any2 (· - ·))) idxW) ⟨[some (.own 0), some m], [[.int n, .lis ps]], true⟩ Φ := by
  rw [hid_eq]
  show i2W Any2 (· - ·) (.int n) (.int 1) _ (fun b σ₂ => idxW (.lis ps) b σ₂ Φ)
  refine i2_sub fun z hz => ?_
  have hlt : z.toNat < ps.length := by omega
  obtain ⟨x, hx⟩ := hi _ (List.getElem_mem hlt)
  have hk : pick ps z = some (.int x) := by
    unfold pick
    rw [if_pos (by omega), if_pos (by omega), List.getElem?_eq_getElem hlt, hx]
  show (match pick ps z with | some v => _ | none => _)
  rw [hk]
  exact hp x
local macro_rules | `(tactic| ktr_rel) => `(tactic| first
  | refine' nlen_s (by assumption) ?_
  | refine' nidx_s (by assumption) (by assumption) (by omega) (by omega) (fun _ => ?_))
theorem law_next_s {n many : Int} {ps : List PV} {φ : Int → List PV → Prop} (hn : 0 ≤ n ∧ n ≤ 1000) (hi : Ints ps) (hl : ps.length ≤ 17) (hm : 0 < many) (hp : ∀ z, 0 ≤ z → z < many → φ z [.int (n + 1), .lis ps]) :
    law_next_D [.own 0, .int many] [.int n, .lis ps] φ := by
  refine law_next_go ?_
  ktr_unf
  all_goals (subst_vars; exact hp _ (Int.emod_nonneg _ (by omega)) (Int.emod_lt_of_pos _ hm))
/-! the poles -/
theorem ints_take {ps : List PV} (h : Ints ps) (n : Nat) : Ints (ps.take n) := fun v hv => h v (List.mem_of_mem_take hv)
abbrev σ0 (x : Option PV) : St := ⟨[x, none, none, none, none, none, none, none, none, none, none, none, none, none, none, none, none, none, none, none], [], true⟩
theorem poles_go {x : Option PV} {K : List PV → St → Prop} : ∀ (us acc : List PV), Ints us → Ints acc → acc.length + us.length ≤ 17 → (∀ ys, Ints ys → ys.length ≤ 17 → K ys (σ0 x)) →
    compGo (argsW (consW (argsW (consW (locW 20) nilW) intCW) nilW) absW) us acc (σ0 x) K
  | [], acc, _, ha, hl, hp => hp acc ha (by simpa using hl)
  | v :: us, acc, hu, ha, hl, hp => by
    obtain ⟨y, rfl⟩ := hu v (.head _)
    rw [compGo_cons]
    refine ⟨rfl, poles_go us (acc ++ [.int (if y < 0 then -y else y)]) (fun w hw => hu w (.tail _ hw)) (fun w hw => ?_) (by simp only [List.length_append, List.length_cons, List.length_nil] at hl ⊢; omega) hp⟩
    rcases List.mem_append.mp hw with h | h
    · exact ha w h
    · exact ⟨_, List.mem_singleton.mp h⟩
theorem poles_s {ss : List PV} {Φ : PV → St → Prop} (hi : Ints ss) (hl : ss.length ≤ 1000)
    (hp : ∀ ps, Ints ps → ps.length ≤ 17 → Φ (.lis ps) (σ0 (some (.lis ss)))) :
    hidW (compW (cutsW (locW 0) (some (intW 17))) (argsW (consW (argsW (consW (locW 20) nilW) intCW) nilW) absW)) (σ0 (some (.lis ss))) Φ := by
  rw [hid_eq]
  show ss.length ≤ 1000 ∧ (0 : Int) ≤ 17 ∧ takeC ss 17 fun us => us.length ≤ 1000 ∧ compGo _ us [] _ _
  rw [takeC_eq]
  have h1 := List.length_take_le 17 ss
  exact ⟨hl, by decide, by omega, poles_go _ _ (ints_take hi 17) (fun _ h => by cases h) (by simp only [List.length_nil]; omega) hp⟩
theorem neT_num {B x y : Int} {σ : St} {Φ : PV → St → Prop} (e : x = y) (h : Φ (.raw (.bool false)) σ) : neTW (num B x) (num B y) σ Φ := by
  subst e
  have h1 : ∃ ns : List Int, lim B (ab x) = ns.map .int := by
    unfold lim
    split
    · exact ⟨[], rfl⟩
    · split
      · exact ⟨[_], rfl⟩
      · exact ⟨[_, _], rfl⟩
  obtain ⟨ns, h1⟩ := h1
  exact neT_of (x := ng x) (ns := ns) (by unfold num; rw [h1]) rfl h
abbrev Z0 : PV := .tup [.raw (.bool false), .lis []]
theorem in32 {a b : Int} (a1 : -32 ≤ a ∧ a ≤ 32) (b1 : -32 ≤ b ∧ b ≤ 32) : -1024 ≤ a * b ∧ a * b ≤ 1024 := mul_in (c := 32) (d := 32) (by decide) a1.1 a1.2 b1.1 b1.2
local macro_rules | `(tactic| ktr_rel) => `(tactic| first
  | (refine' s_mul_s ?mW ?mx ?my ?_; (case mW => assumption); (case mx => (refine ab_lt ?_ ?_ ?_ <;> omega)); (case my => (refine ab_lt ?_ ?_ ?_ <;> omega)))
  | (refine' s_add_s ?fW ?fx ?fy ?fs ?_; (case fW => assumption); (case fx => (refine fit1 ?_ ?_ ?_ <;> omega)); (case fy => (refine fit1 ?_ ?_ ?_ <;> omega)); (case fs => (refine ab_fit ?_ ?_ ?_ ?_ ?_ <;> omega)))
  | (refine' det_s ?dW ?da ?db ?dc ?dd ?_; (case dW => assumption); (case da => omega); (case db => omega); (case dc => omega); (case dd => omega)))
theorem pair_01 {k B a0 a1 a2 a3 b0 b1 b2 b3 c0 c1 c2 c3 d0 d1 d2 d3 : Int} {y0 y1 : PV} {o13 o14 o15 o16 o17 o18 o19 : Option PV} {O : List (List PV)} {β : Bool} {Φ : Fl → St → Prop} (W : Wd k B) (ha0 : In4 a0) (ha1 : In4 a1) (hb0 : In4 b0) (hb1 : In4 b1) (hc0 : In4 c0) (hd0 : In4 d0) (hc1 : In4 c1) (hd1 : In4 d1)
    (hp : ∀ (X Y P S : Int) (x13 x14 x15 x16 : Option PV), P = X * Y → S = X * X → X = a0 * b1 - a1 * b0 → Y = c0 * d1 - d0 * c1 → (-1024 ≤ P ∧ P ≤ 1024) → (-1024 ≤ S ∧ S ≤ 1024) → Φ .next ⟨[some y0, some y1, some (.int k), some (.lis [.lis [.int a0, .int a1, .int a2, .int a3], .lis [.int b0, .int b1, .int b2, .int b3]]), some (.lis [.lis [.int c0, .int d0], .lis [.int c1, .int d1], .lis [.int c2, .int d2], .lis [.int c3, .int d3]]), some (.lis [.lis [num B a0, num B a1, num B a2, num B a3], .lis [num B b0, num B b1, num B b2, num B b3]]), some (.lis [.lis [num B c0, num B d0], .lis [num B c1, num B d1], .lis [num B c2, num B d2], .lis [num B c3, num B d3]]), some (num B (0 + P)), some (num B (0 + S)), some (.int (0 + P)), some (.int (0 + S)), some (.int 2), some (.int 0), x13, x14, x15, x16, o17, o18, o19], O, β⟩) :
    hidS law_pair_W ⟨[some y0, some y1, some (.int k), some (.lis [.lis [.int a0, .int a1, .int a2, .int a3], .lis [.int b0, .int b1, .int b2, .int b3]]), some (.lis [.lis [.int c0, .int d0], .lis [.int c1, .int d1], .lis [.int c2, .int d2], .lis [.int c3, .int d3]]), some (.lis [.lis [num B a0, num B a1, num B a2, num B a3], .lis [num B b0, num B b1, num B b2, num B b3]]), some (.lis [.lis [num B c0, num B d0], .lis [num B c1, num B d1], .lis [num B c2, num B d2], .lis [num B c3, num B d3]]), some (Z0), some (Z0), some (.int (0)), some (.int (0)), some (.int 2), some (.int 0), o13, o14, o15, o16, o17, o18, o19], O, β⟩ Φ := by
  have hB := W.ge
  have q1 := in4 ha0 hb1
  have q2 := in4 ha1 hb0
  have q3 := in4 hc0 hd1
  have q4 := in4 hd0 hc1
  have q5 := in32 (a := a0 * b1 - a1 * b0) (b := c0 * d1 - d0 * c1) (by omega) (by omega)
  have q6 := in32 (a := a0 * b1 - a1 * b0) (b := a0 * b1 - a1 * b0) (by omega) (by omega)
  rw [hidS_eq]
  have u0 : Z0 = num B 0 := rfl
  rw [u0]
  ktr_unf
  subst_vars
  exact hp _ _ _ _ _ _ _ _ rfl rfl rfl rfl q5 q6
theorem pair_02 {k B a0 a1 a2 a3 b0 b1 b2 b3 c0 c1 c2 c3 d0 d1 d2 d3 t s : Int} {y0 y1 : PV} {o13 o14 o15 o16 o17 o18 o19 : Option PV} {O : List (List PV)} {β : Bool} {Φ : Fl → St → Prop} (W : Wd k B) (ha0 : In4 a0) (ha2 : In4 a2) (hb0 : In4 b0) (hb2 : In4 b2) (hc0 : In4 c0) (hd0 : In4 d0) (hc2 : In4 c2) (hd2 : In4 d2) (ht : -7000 ≤ t ∧ t ≤ 7000) (hs : -7000 ≤ s ∧ s ≤ 7000)
    (hp : ∀ (X Y P S : Int) (x13 x14 x15 x16 : Option PV), P = X * Y → S = X * X → X = a0 * b2 - a2 * b0 → Y = c0 * d2 - d0 * c2 → (-1024 ≤ P ∧ P ≤ 1024) → (-1024 ≤ S ∧ S ≤ 1024) → Φ .next ⟨[some y0, some y1, some (.int k), some (.lis [.lis [.int a0, .int a1, .int a2, .int a3], .lis [.int b0, .int b1, .int b2, .int b3]]), some (.lis [.lis [.int c0, .int d0], .lis [.int c1, .int d1], .lis [.int c2, .int d2], .lis [.int c3, .int d3]]), some (.lis [.lis [num B a0, num B a1, num B a2, num B a3], .lis [num B b0, num B b1, num B b2, num B b3]]), some (.lis [.lis [num B c0, num B d0], .lis [num B c1, num B d1], .lis [num B c2, num B d2], .lis [num B c3, num B d3]]), some (num B (t + P)), some (num B (s + S)), some (.int (t + P)), some (.int (s + S)), some (.int 3), some (.int 0), x13, x14, x15, x16, o17, o18, o19], O, β⟩) :
    hidS law_pair_W ⟨[some y0, some y1, some (.int k), some (.lis [.lis [.int a0, .int a1, .int a2, .int a3], .lis [.int b0, .int b1, .int b2, .int b3]]), some (.lis [.lis [.int c0, .int d0], .lis [.int c1, .int d1], .lis [.int c2, .int d2], .lis [.int c3, .int d3]]), some (.lis [.lis [num B a0, num B a1, num B a2, num B a3], .lis [num B b0, num B b1, num B b2, num B b3]]), some (.lis [.lis [num B c0, num B d0], .lis [num B c1, num B d1], .lis [num B c2, num B d2], .lis [num B c3, num B d3]]), some (num B t), some (num B s), some (.int (t)), some (.int (s)), some (.int 3), some (.int 0), o13, o14, o15, o16, o17, o18, o19], O, β⟩ Φ := by
  have hB := W.ge
  have q1 := in4 ha0 hb2
  have q2 := in4 ha2 hb0
  have q3 := in4 hc0 hd2
  have q4 := in4 hd0 hc2
  have q5 := in32 (a := a0 * b2 - a2 * b0) (b := c0 * d2 - d0 * c2) (by omega) (by omega)
  have q6 := in32 (a := a0 * b2 - a2 * b0) (b := a0 * b2 - a2 * b0) (by omega) (by omega)
  rw [hidS_eq]
  ktr_unf
  subst_vars
  exact hp _ _ _ _ _ _ _ _ rfl rfl rfl rfl q5 q6
theorem pair_12 {k B a0 a1 a2 a3 b0 b1 b2 b3 c0 c1 c2 c3 d0 d1 d2 d3 t s : Int} {y0 y1 : PV} {o13 o14 o15 o16 o17 o18 o19 : Option PV} {O : List (List PV)} {β : Bool} {Φ : Fl → St → Prop} (W : Wd k B) (ha1 : In4 a1) (ha2 : In4 a2) (hb1 : In4 b1) (hb2 : In4 b2) (hc1 : In4 c1) (hd1 : In4 d1) (hc2 : In4 c2) (hd2 : In4 d2) (ht : -7000 ≤ t ∧ t ≤ 7000) (hs : -7000 ≤ s ∧ s ≤ 7000)
    (hp : ∀ (X Y P S : Int) (x13 x14 x15 x16 : Option PV), P = X * Y → S = X * X → X = a1 * b2 - a2 * b1 → Y = c1 * d2 - d1 * c2 → (-1024 ≤ P ∧ P ≤ 1024) → (-1024 ≤ S ∧ S ≤ 1024) → Φ .next ⟨[some y0, some y1, some (.int k), some (.lis [.lis [.int a0, .int a1, .int a2, .int a3], .lis [.int b0, .int b1, .int b2, .int b3]]), some (.lis [.lis [.int c0, .int d0], .lis [.int c1, .int d1], .lis [.int c2, .int d2], .lis [.int c3, .int d3]]), some (.lis [.lis [num B a0, num B a1, num B a2, num B a3], .lis [num B b0, num B b1, num B b2, num B b3]]), some (.lis [.lis [num B c0, num B d0], .lis [num B c1, num B d1], .lis [num B c2, num B d2], .lis [num B c3, num B d3]]), some (num B (t + P)), some (num B (s + S)), some (.int (t + P)), some (.int (s + S)), some (.int 3), some (.int 1), x13, x14, x15, x16, o17, o18, o19], O, β⟩) :
    hidS law_pair_W ⟨[some y0, some y1, some (.int k), some (.lis [.lis [.int a0, .int a1, .int a2, .int a3], .lis [.int b0, .int b1, .int b2, .int b3]]), some (.lis [.lis [.int c0, .int d0], .lis [.int c1, .int d1], .lis [.int c2, .int d2], .lis [.int c3, .int d3]]), some (.lis [.lis [num B a0, num B a1, num B a2, num B a3], .lis [num B b0, num B b1, num B b2, num B b3]]), some (.lis [.lis [num B c0, num B d0], .lis [num B c1, num B d1], .lis [num B c2, num B d2], .lis [num B c3, num B d3]]), some (num B t), some (num B s), some (.int (t)), some (.int (s)), some (.int 3), some (.int 1), o13, o14, o15, o16, o17, o18, o19], O, β⟩ Φ := by
  have hB := W.ge
  have q1 := in4 ha1 hb2
  have q2 := in4 ha2 hb1
  have q3 := in4 hc1 hd2
  have q4 := in4 hd1 hc2
  have q5 := in32 (a := a1 * b2 - a2 * b1) (b := c1 * d2 - d1 * c2) (by omega) (by omega)
  have q6 := in32 (a := a1 * b2 - a2 * b1) (b := a1 * b2 - a2 * b1) (by omega) (by omega)
  rw [hidS_eq]
  ktr_unf
  subst_vars
  exact hp _ _ _ _ _ _ _ _ rfl rfl rfl rfl q5 q6
theorem pair_03 {k B a0 a1 a2 a3 b0 b1 b2 b3 c0 c1 c2 c3 d0 d1 d2 d3 t s : Int} {y0 y1 : PV} {o13 o14 o15 o16 o17 o18 o19 : Option PV} {O : List (List PV)} {β : Bool} {Φ : Fl → St → Prop} (W : Wd k B) (ha0 : In4 a0) (ha3 : In4 a3) (hb0 : In4 b0) (hb3 : In4 b3) (hc0 : In4 c0) (hd0 : In4 d0) (hc3 : In4 c3) (hd3 : In4 d3) (ht : -7000 ≤ t ∧ t ≤ 7000) (hs : -7000 ≤ s ∧ s ≤ 7000)
    (hp : ∀ (X Y P S : Int) (x13 x14 x15 x16 : Option PV), P = X * Y → S = X * X → X = a0 * b3 - a3 * b0 → Y = c0 * d3 - d0 * c3 → (-1024 ≤ P ∧ P ≤ 1024) → (-1024 ≤ S ∧ S ≤ 1024) → Φ .next ⟨[some y0, some y1, some (.int k), some (.lis [.lis [.int a0, .int a1, .int a2, .int a3], .lis [.int b0, .int b1, .int b2, .int b3]]), some (.lis [.lis [.int c0, .int d0], .lis [.int c1, .int d1], .lis [.int c2, .int d2], .lis [.int c3, .int d3]]), some (.lis [.lis [num B a0, num B a1, num B a2, num B a3], .lis [num B b0, num B b1, num B b2, num B b3]]), some (.lis [.lis [num B c0, num B d0], .lis [num B c1, num B d1], .lis [num B c2, num B d2], .lis [num B c3, num B d3]]), some (num B (t + P)), some (num B (s + S)), some (.int (t + P)), some (.int (s + S)), some (.int 4), some (.int 0), x13, x14, x15, x16, o17, o18, o19], O, β⟩) :
    hidS law_pair_W ⟨[some y0, some y1, some (.int k), some (.lis [.lis [.int a0, .int a1, .int a2, .int a3], .lis [.int b0, .int b1, .int b2, .int b3]]), some (.lis [.lis [.int c0, .int d0], .lis [.int c1, .int d1], .lis [.int c2, .int d2], .lis [.int c3, .int d3]]), some (.lis [.lis [num B a0, num B a1, num B a2, num B a3], .lis [num B b0, num B b1, num B b2, num B b3]]), some (.lis [.lis [num B c0, num B d0], .lis [num B c1, num B d1], .lis [num B c2, num B d2], .lis [num B c3, num B d3]]), some (num B t), some (num B s), some (.int (t)), some (.int (s)), some (.int 4), some (.int 0), o13, o14, o15, o16, o17, o18, o19], O, β⟩ Φ := by
  have hB := W.ge
  have q1 := in4 ha0 hb3
  have q2 := in4 ha3 hb0
  have q3 := in4 hc0 hd3
  have q4 := in4 hd0 hc3
  have q5 := in32 (a := a0 * b3 - a3 * b0) (b := c0 * d3 - d0 * c3) (by omega) (by omega)
  have q6 := in32 (a := a0 * b3 - a3 * b0) (b := a0 * b3 - a3 * b0) (by omega) (by omega)
  rw [hidS_eq]
  ktr_unf
  subst_vars
  exact hp _ _ _ _ _ _ _ _ rfl rfl rfl rfl q5 q6
theorem pair_13 {k B a0 a1 a2 a3 b0 b1 b2 b3 c0 c1 c2 c3 d0 d1 d2 d3 t s : Int} {y0 y1 : PV} {o13 o14 o15 o16 o17 o18 o19 : Option PV} {O : List (List PV)} {β : Bool} {Φ : Fl → St → Prop} (W : Wd k B) (ha1 : In4 a1) (ha3 : In4 a3) (hb1 : In4 b1) (hb3 : In4 b3) (hc1 : In4 c1) (hd1 : In4 d1) (hc3 : In4 c3) (hd3 : In4 d3) (ht : -7000 ≤ t ∧ t ≤ 7000) (hs : -7000 ≤ s ∧ s ≤ 7000)
    (hp : ∀ (X Y P S : Int) (x13 x14 x15 x16 : Option PV), P = X * Y → S = X * X → X = a1 * b3 - a3 * b1 → Y = c1 * d3 - d1 * c3 → (-1024 ≤ P ∧ P ≤ 1024) → (-1024 ≤ S ∧ S ≤ 1024) → Φ .next ⟨[some y0, some y1, some (.int k), some (.lis [.lis [.int a0, .int a1, .int a2, .int a3], .lis [.int b0, .int b1, .int b2, .int b3]]), some (.lis [.lis [.int c0, .int d0], .lis [.int c1, .int d1], .lis [.int c2, .int d2], .lis [.int c3, .int d3]]), some (.lis [.lis [num B a0, num B a1, num B a2, num B a3], .lis [num B b0, num B b1, num B b2, num B b3]]), some (.lis [.lis [num B c0, num B d0], .lis [num B c1, num B d1], .lis [num B c2, num B d2], .lis [num B c3, num B d3]]), some (num B (t + P)), some (num B (s + S)), some (.int (t + P)), some (.int (s + S)), some (.int 4), some (.int 1), x13, x14, x15, x16, o17, o18, o19], O, β⟩) :
    hidS law_pair_W ⟨[some y0, some y1, some (.int k), some (.lis [.lis [.int a0, .int a1, .int a2, .int a3], .lis [.int b0, .int b1, .int b2, .int b3]]), some (.lis [.lis [.int c0, .int d0], .lis [.int c1, .int d1], .lis [.int c2, .int d2], .lis [.int c3, .int d3]]), some (.lis [.lis [num B a0, num B a1, num B a2, num B a3], .lis [num B b0, num B b1, num B b2, num B b3]]), some (.lis [.lis [num B c0, num B d0], .lis [num B c1, num B d1], .lis [num B c2, num B d2], .lis [num B c3, num B d3]]), some (num B t), some (num B s), some (.int (t)), some (.int (s)), some (.int 4), some (.int 1), o13, o14, o15, o16, o17, o18, o19], O, β⟩ Φ := by
  have hB := W.ge
  have q1 := in4 ha1 hb3
  have q2 := in4 ha3 hb1
  have q3 := in4 hc1 hd3
  have q4 := in4 hd1 hc3
  have q5 := in32 (a := a1 * b3 - a3 * b1) (b := c1 * d3 - d1 * c3) (by omega) (by omega)
  have q6 := in32 (a := a1 * b3 - a3 * b1) (b := a1 * b3 - a3 * b1) (by omega) (by omega)
  rw [hidS_eq]
  ktr_unf
  subst_vars
  exact hp _ _ _ _ _ _ _ _ rfl rfl rfl rfl q5 q6
theorem pair_23 {k B a0 a1 a2 a3 b0 b1 b2 b3 c0 c1 c2 c3 d0 d1 d2 d3 t s : Int} {y0 y1 : PV} {o13 o14 o15 o16 o17 o18 o19 : Option PV} {O : List (List PV)} {β : Bool} {Φ : Fl → St → Prop} (W : Wd k B) (ha2 : In4 a2) (ha3 : In4 a3) (hb2 : In4 b2) (hb3 : In4 b3) (hc2 : In4 c2) (hd2 : In4 d2) (hc3 : In4 c3) (hd3 : In4 d3) (ht : -7000 ≤ t ∧ t ≤ 7000) (hs : -7000 ≤ s ∧ s ≤ 7000)
    (hp : ∀ (X Y P S : Int) (x13 x14 x15 x16 : Option PV), P = X * Y → S = X * X → X = a2 * b3 - a3 * b2 → Y = c2 * d3 - d2 * c3 → (-1024 ≤ P ∧ P ≤ 1024) → (-1024 ≤ S ∧ S ≤ 1024) → Φ .next ⟨[some y0, some y1, some (.int k), some (.lis [.lis [.int a0, .int a1, .int a2, .int a3], .lis [.int b0, .int b1, .int b2, .int b3]]), some (.lis [.lis [.int c0, .int d0], .lis [.int c1, .int d1], .lis [.int c2, .int d2], .lis [.int c3, .int d3]]), some (.lis [.lis [num B a0, num B a1, num B a2, num B a3], .lis [num B b0, num B b1, num B b2, num B b3]]), some (.lis [.lis [num B c0, num B d0], .lis [num B c1, num B d1], .lis [num B c2, num B d2], .lis [num B c3, num B d3]]), some (num B (t + P)), some (num B (s + S)), some (.int (t + P)), some (.int (s + S)), some (.int 4), some (.int 2), x13, x14, x15, x16, o17, o18, o19], O, β⟩) :
    hidS law_pair_W ⟨[some y0, some y1, some (.int k), some (.lis [.lis [.int a0, .int a1, .int a2, .int a3], .lis [.int b0, .int b1, .int b2, .int b3]]), some (.lis [.lis [.int c0, .int d0], .lis [.int c1, .int d1], .lis [.int c2, .int d2], .lis [.int c3, .int d3]]), some (.lis [.lis [num B a0, num B a1, num B a2, num B a3], .lis [num B b0, num B b1, num B b2, num B b3]]), some (.lis [.lis [num B c0, num B d0], .lis [num B c1, num B d1], .lis [num B c2, num B d2], .lis [num B c3, num B d3]]), some (num B t), some (num B s), some (.int (t)), some (.int (s)), some (.int 4), some (.int 2), o13, o14, o15, o16, o17, o18, o19], O, β⟩ Φ := by
  have hB := W.ge
  have q1 := in4 ha2 hb3
  have q2 := in4 ha3 hb2
  have q3 := in4 hc2 hd3
  have q4 := in4 hd2 hc3
  have q5 := in32 (a := a2 * b3 - a3 * b2) (b := c2 * d3 - d2 * c3) (by omega) (by omega)
  have q6 := in32 (a := a2 * b3 - a3 * b2) (b := a2 * b3 - a3 * b2) (by omega) (by omega)
  rw [hidS_eq]
  ktr_unf
  subst_vars
  exact hp _ _ _ _ _ _ _ _ rfl rfl rfl rfl q5 q6
local macro_rules | `(tactic| ktr_rel) => `(tactic| first
  | (refine neT_num (by assumption) ?_)
  | (refine' mm_1 ?iW ?i0 ?i1 ?i2 ?i3 ?_; (case iW => assumption); (case i0 => assumption); (case i1 => assumption); (case i2 => assumption); (case i3 => assumption))
  | refine' turn_w1 ?_
  | (refine' mm_2 ?iW ?i0 ?i1 ?i2 ?i3 ?i4 ?i5 ?i6 ?i7 ?_; (case iW => assumption); (case i0 => assumption); (case i1 => assumption); (case i2 => assumption); (case i3 => assumption); (case i4 => assumption); (case i5 => assumption); (case i6 => assumption); (case i7 => assumption))
  | refine' turn_w2 ?_
  | (refine' mm_3 ?iW ?i0 ?i1 ?i2 ?i3 ?i4 ?i5 ?i6 ?i7 ?i8 ?i9 ?i10 ?i11 ?_; (case iW => assumption); (case i0 => assumption); (case i1 => assumption); (case i2 => assumption); (case i3 => assumption); (case i4 => assumption); (case i5 => assumption); (case i6 => assumption); (case i7 => assumption); (case i8 => assumption); (case i9 => assumption); (case i10 => assumption); (case i11 => assumption))
  | refine' turn_w3 ?_
  | (refine' mm_4 ?iW ?i0 ?i1 ?i2 ?i3 ?i4 ?i5 ?i6 ?i7 ?i8 ?i9 ?i10 ?i11 ?i12 ?i13 ?i14 ?i15 ?_; (case iW => assumption); (case i0 => assumption); (case i1 => assumption); (case i2 => assumption); (case i3 => assumption); (case i4 => assumption); (case i5 => assumption); (case i6 => assumption); (case i7 => assumption); (case i8 => assumption); (case i9 => assumption); (case i10 => assumption); (case i11 => assumption); (case i12 => assumption); (case i13 => assumption); (case i14 => assumption); (case i15 => assumption))
  | refine' turn_w4 ?_
  | (refine' law_signed_s ?lW ?lz ?_; (case lW => assumption); (case lz => (refine fit1 ?_ ?_ ?_ <;> omega)))
  | (refine' det_s ?dW ?da ?db ?dc ?dd ?_; (case dW => assumption); (case da => omega); (case db => omega); (case dc => omega); (case dd => omega)))
theorem check_1 {k B a0 a1 a2 a3 b0 b1 b2 b3 c0 c1 c2 c3 d0 d1 d2 d3 : Int} {y0 y1 : PV} {y3 y4 o12 o13 o14 o15 o16 o17 o18 o19 : Option PV} {O : List (List PV)} {β : Bool} {Φ : Fl → St → Prop} (W : Wd k B) (ha0 : In4 a0) (hb0 : In4 b0) (hc0 : In4 c0) (hd0 : In4 d0) (hT : (0 + a0 * c0) * (0 + b0 * d0) - (0 + a0 * d0) * (0 + b0 * c0) = 0) (hS : (0 + a0 * a0) * (0 + b0 * b0) - (0 + a0 * b0) * (0 + b0 * a0) = 0)
    (hp : ∀ (x17 x18 x19 : Option PV), Φ .next ⟨[some y0, some y1, some (.int k), y3, y4, some (.lis [.lis [num B a0, num B a1, num B a2, num B a3], .lis [num B b0, num B b1, num B b2, num B b3]]), some (.lis [.lis [num B c0, num B d0], .lis [num B c1, num B d1], .lis [num B c2, num B d2], .lis [num B c3, num B d3]]), some (Z0), some (Z0), some (.int (0)), some (.int (0)), some (.int 1), o12, o13, o14, o15, o16, x17, x18, x19], O, β⟩) :
    hidS law_check_W ⟨[some y0, some y1, some (.int k), y3, y4, some (.lis [.lis [num B a0, num B a1, num B a2, num B a3], .lis [num B b0, num B b1, num B b2, num B b3]]), some (.lis [.lis [num B c0, num B d0], .lis [num B c1, num B d1], .lis [num B c2, num B d2], .lis [num B c3, num B d3]]), some (Z0), some (Z0), some (.int (0)), some (.int (0)), some (.int 1), o12, o13, o14, o15, o16, o17, o18, o19], O, β⟩ Φ := by
  have hB := W.ge
  have p0 := in4 ha0 hc0
  have p1 := in4 ha0 hd0
  have p2 := in4 hb0 hc0
  have p3 := in4 hb0 hd0
  have p4 := in4 ha0 ha0
  have p5 := in4 hb0 hb0
  have p6 := in4 ha0 hb0
  have p7 := in4 hb0 ha0
  rw [hidS_eq]
  have u0 : Z0 = num B 0 := rfl
  rw [u0]
  ktr_unf
  all_goals exact hp _ _ _
theorem check_2 {k B a0 a1 a2 a3 b0 b1 b2 b3 c0 c1 c2 c3 d0 d1 d2 d3 t s : Int} {y0 y1 : PV} {y3 y4 o12 o13 o14 o15 o16 o17 o18 o19 : Option PV} {O : List (List PV)} {β : Bool} {Φ : Fl → St → Prop} (W : Wd k B) (ha0 : In4 a0) (ha1 : In4 a1) (hb0 : In4 b0) (hb1 : In4 b1) (hc0 : In4 c0) (hc1 : In4 c1) (hd0 : In4 d0) (hd1 : In4 d1) (hT : (0 + a0 * c0 + a1 * c1) * (0 + b0 * d0 + b1 * d1) - (0 + a0 * d0 + a1 * d1) * (0 + b0 * c0 + b1 * c1) = t) (hS : (0 + a0 * a0 + a1 * a1) * (0 + b0 * b0 + b1 * b1) - (0 + a0 * b0 + a1 * b1) * (0 + b0 * a0 + b1 * a1) = s) (ht : -7000 ≤ t ∧ t ≤ 7000) (hs : -7000 ≤ s ∧ s ≤ 7000)
    (hp : ∀ (x17 x18 x19 : Option PV), Φ .next ⟨[some y0, some y1, some (.int k), y3, y4, some (.lis [.lis [num B a0, num B a1, num B a2, num B a3], .lis [num B b0, num B b1, num B b2, num B b3]]), some (.lis [.lis [num B c0, num B d0], .lis [num B c1, num B d1], .lis [num B c2, num B d2], .lis [num B c3, num B d3]]), some (num B t), some (num B s), some (.int (t)), some (.int (s)), some (.int 2), o12, o13, o14, o15, o16, x17, x18, x19], O, β⟩) :
    hidS law_check_W ⟨[some y0, some y1, some (.int k), y3, y4, some (.lis [.lis [num B a0, num B a1, num B a2, num B a3], .lis [num B b0, num B b1, num B b2, num B b3]]), some (.lis [.lis [num B c0, num B d0], .lis [num B c1, num B d1], .lis [num B c2, num B d2], .lis [num B c3, num B d3]]), some (num B t), some (num B s), some (.int (t)), some (.int (s)), some (.int 2), o12, o13, o14, o15, o16, o17, o18, o19], O, β⟩ Φ := by
  have hB := W.ge
  have p0 := in4 ha0 hc0
  have p1 := in4 ha1 hc1
  have p2 := in4 ha0 hd0
  have p3 := in4 ha1 hd1
  have p4 := in4 hb0 hc0
  have p5 := in4 hb1 hc1
  have p6 := in4 hb0 hd0
  have p7 := in4 hb1 hd1
  have p8 := in4 ha0 ha0
  have p9 := in4 ha1 ha1
  have p10 := in4 hb0 hb0
  have p11 := in4 hb1 hb1
  have p12 := in4 ha0 hb0
  have p13 := in4 ha1 hb1
  have p14 := in4 hb0 ha0
  have p15 := in4 hb1 ha1
  rw [hidS_eq]
  ktr_unf
  all_goals exact hp _ _ _
theorem check_3 {k B a0 a1 a2 a3 b0 b1 b2 b3 c0 c1 c2 c3 d0 d1 d2 d3 t s : Int} {y0 y1 : PV} {y3 y4 o12 o13 o14 o15 o16 o17 o18 o19 : Option PV} {O : List (List PV)} {β : Bool} {Φ : Fl → St → Prop} (W : Wd k B) (ha0 : In4 a0) (ha1 : In4 a1) (ha2 : In4 a2) (hb0 : In4 b0) (hb1 : In4 b1) (hb2 : In4 b2) (hc0 : In4 c0) (hc1 : In4 c1) (hc2 : In4 c2) (hd0 : In4 d0) (hd1 : In4 d1) (hd2 : In4 d2) (hT : (0 + a0 * c0 + a1 * c1 + a2 * c2) * (0 + b0 * d0 + b1 * d1 + b2 * d2) - (0 + a0 * d0 + a1 * d1 + a2 * d2) * (0 + b0 * c0 + b1 * c1 + b2 * c2) = t) (hS : (0 + a0 * a0 + a1 * a1 + a2 * a2) * (0 + b0 * b0 + b1 * b1 + b2 * b2) - (0 + a0 * b0 + a1 * b1 + a2 * b2) * (0 + b0 * a0 + b1 * a1 + b2 * a2) = s) (ht : -7000 ≤ t ∧ t ≤ 7000) (hs : -7000 ≤ s ∧ s ≤ 7000)
    (hp : ∀ (x17 x18 x19 : Option PV), Φ .next ⟨[some y0, some y1, some (.int k), y3, y4, some (.lis [.lis [num B a0, num B a1, num B a2, num B a3], .lis [num B b0, num B b1, num B b2, num B b3]]), some (.lis [.lis [num B c0, num B d0], .lis [num B c1, num B d1], .lis [num B c2, num B d2], .lis [num B c3, num B d3]]), some (num B t), some (num B s), some (.int (t)), some (.int (s)), some (.int 3), o12, o13, o14, o15, o16, x17, x18, x19], O, β⟩) :
    hidS law_check_W ⟨[some y0, some y1, some (.int k), y3, y4, some (.lis [.lis [num B a0, num B a1, num B a2, num B a3], .lis [num B b0, num B b1, num B b2, num B b3]]), some (.lis [.lis [num B c0, num B d0], .lis [num B c1, num B d1], .lis [num B c2, num B d2], .lis [num B c3, num B d3]]), some (num B t), some (num B s), some (.int (t)), some (.int (s)), some (.int 3), o12, o13, o14, o15, o16, o17, o18, o19], O, β⟩ Φ := by
  have hB := W.ge
  have p0 := in4 ha0 hc0
  have p1 := in4 ha1 hc1
  have p2 := in4 ha2 hc2
  have p3 := in4 ha0 hd0
  have p4 := in4 ha1 hd1
  have p5 := in4 ha2 hd2
  have p6 := in4 hb0 hc0
  have p7 := in4 hb1 hc1
  have p8 := in4 hb2 hc2
  have p9 := in4 hb0 hd0
  have p10 := in4 hb1 hd1
  have p11 := in4 hb2 hd2
  have p12 := in4 ha0 ha0
  have p13 := in4 ha1 ha1
  have p14 := in4 ha2 ha2
  have p15 := in4 hb0 hb0
  have p16 := in4 hb1 hb1
  have p17 := in4 hb2 hb2
  have p18 := in4 ha0 hb0
  have p19 := in4 ha1 hb1
  have p20 := in4 ha2 hb2
  have p21 := in4 hb0 ha0
  have p22 := in4 hb1 ha1
  have p23 := in4 hb2 ha2
  rw [hidS_eq]
  ktr_unf
  all_goals exact hp _ _ _
theorem check_4 {k B a0 a1 a2 a3 b0 b1 b2 b3 c0 c1 c2 c3 d0 d1 d2 d3 t s : Int} {y0 y1 : PV} {y3 y4 o12 o13 o14 o15 o16 o17 o18 o19 : Option PV} {O : List (List PV)} {β : Bool} {Φ : Fl → St → Prop} (W : Wd k B) (ha0 : In4 a0) (ha1 : In4 a1) (ha2 : In4 a2) (ha3 : In4 a3) (hb0 : In4 b0) (hb1 : In4 b1) (hb2 : In4 b2) (hb3 : In4 b3) (hc0 : In4 c0) (hc1 : In4 c1) (hc2 : In4 c2) (hc3 : In4 c3) (hd0 : In4 d0) (hd1 : In4 d1) (hd2 : In4 d2) (hd3 : In4 d3) (hT : (0 + a0 * c0 + a1 * c1 + a2 * c2 + a3 * c3) * (0 + b0 * d0 + b1 * d1 + b2 * d2 + b3 * d3) - (0 + a0 * d0 + a1 * d1 + a2 * d2 + a3 * d3) * (0 + b0 * c0 + b1 * c1 + b2 * c2 + b3 * c3) = t) (hS : (0 + a0 * a0 + a1 * a1 + a2 * a2 + a3 * a3) * (0 + b0 * b0 + b1 * b1 + b2 * b2 + b3 * b3) - (0 + a0 * b0 + a1 * b1 + a2 * b2 + a3 * b3) * (0 + b0 * a0 + b1 * a1 + b2 * a2 + b3 * a3) = s) (ht : -7000 ≤ t ∧ t ≤ 7000) (hs : -7000 ≤ s ∧ s ≤ 7000)
    (hp : ∀ (x17 x18 x19 : Option PV), Φ .next ⟨[some y0, some y1, some (.int k), y3, y4, some (.lis [.lis [num B a0, num B a1, num B a2, num B a3], .lis [num B b0, num B b1, num B b2, num B b3]]), some (.lis [.lis [num B c0, num B d0], .lis [num B c1, num B d1], .lis [num B c2, num B d2], .lis [num B c3, num B d3]]), some (num B t), some (num B s), some (.int (t)), some (.int (s)), some (.int 4), o12, o13, o14, o15, o16, x17, x18, x19], O, β⟩) :
    hidS law_check_W ⟨[some y0, some y1, some (.int k), y3, y4, some (.lis [.lis [num B a0, num B a1, num B a2, num B a3], .lis [num B b0, num B b1, num B b2, num B b3]]), some (.lis [.lis [num B c0, num B d0], .lis [num B c1, num B d1], .lis [num B c2, num B d2], .lis [num B c3, num B d3]]), some (num B t), some (num B s), some (.int (t)), some (.int (s)), some (.int 4), o12, o13, o14, o15, o16, o17, o18, o19], O, β⟩ Φ := by
  have hB := W.ge
  have p0 := in4 ha0 hc0
  have p1 := in4 ha1 hc1
  have p2 := in4 ha2 hc2
  have p3 := in4 ha3 hc3
  have p4 := in4 ha0 hd0
  have p5 := in4 ha1 hd1
  have p6 := in4 ha2 hd2
  have p7 := in4 ha3 hd3
  have p8 := in4 hb0 hc0
  have p9 := in4 hb1 hc1
  have p10 := in4 hb2 hc2
  have p11 := in4 hb3 hc3
  have p12 := in4 hb0 hd0
  have p13 := in4 hb1 hd1
  have p14 := in4 hb2 hd2
  have p15 := in4 hb3 hd3
  have p16 := in4 ha0 ha0
  have p17 := in4 ha1 ha1
  have p18 := in4 ha2 ha2
  have p19 := in4 ha3 ha3
  have p20 := in4 hb0 hb0
  have p21 := in4 hb1 hb1
  have p22 := in4 hb2 hb2
  have p23 := in4 hb3 hb3
  have p24 := in4 ha0 hb0
  have p25 := in4 ha1 hb1
  have p26 := in4 ha2 hb2
  have p27 := in4 ha3 hb3
  have p28 := in4 hb0 ha0
  have p29 := in4 hb1 ha1
  have p30 := in4 hb2 ha2
  have p31 := in4 hb3 ha3
  rw [hidS_eq]
  ktr_unf
  all_goals exact hp _ _ _
theorem wd_of {k : Int} (h : 7 ≤ k ∧ k ≤ 11) : Wd k (2 ^ k.toNat) := by
  have h1 : k = 7 ∨ k = 8 ∨ k = 9 ∨ k = 10 ∨ k = 11 := by omega
  rcases h1 with rfl | rfl | rfl | rfl | rfl <;> exact ⟨by decide, by decide, by decide⟩
theorem m_of_w {k a b c d a' b' c' d' : Int} {φ : PV → Prop} (hk : 7 ≤ k ∧ k ≤ 11) (ha : -4 ≤ a ∧ a ≤ 4) (hb : -4 ≤ b ∧ b ≤ 4) (hc : -4 ≤ c ∧ c ≤ 4) (hd : -4 ≤ d ∧ d ≤ 4) (ha' : -4 ≤ a' ∧ a' ≤ 4) (hb' : -4 ≤ b' ∧ b' ≤ 4) (hc' : -4 ≤ c' ∧ c' ≤ 4) (hd' : -4 ≤ d' ∧ d' ≤ 4)
    (hp : ∀ B, Wd k B → In4 a → In4 b → In4 c → In4 d → In4 a' → In4 b' → In4 c' → In4 d' → φ (.lis [.lis [num B a, num B b, num B c, num B d], .lis [num B a', num B b', num B c', num B d']])) :
    m_of_D [.lis [.lis [.int a, .int b, .int c, .int d], .lis [.int a', .int b', .int c', .int d']], .int k] φ :=
  m_of_s (wd_of hk) ha hb hc hd ha' hb' hc' hd' (hp _ (wd_of hk) ha hb hc hd ha' hb' hc' hd')
theorem m_of_v {k B a b c d a' b' c' d' : Int} {φ : PV → Prop} (W : Wd k B) (ha : -4 ≤ a ∧ a ≤ 4) (hb : -4 ≤ b ∧ b ≤ 4) (hc : -4 ≤ c ∧ c ≤ 4) (hd : -4 ≤ d ∧ d ≤ 4) (ha' : -4 ≤ a' ∧ a' ≤ 4) (hb' : -4 ≤ b' ∧ b' ≤ 4) (hc' : -4 ≤ c' ∧ c' ≤ 4) (hd' : -4 ≤ d' ∧ d' ≤ 4)
    (hp : In4 a → In4 b → In4 c → In4 d → In4 a' → In4 b' → In4 c' → In4 d' → φ (.lis [.lis [num B a, num B b], .lis [num B c, num B d], .lis [num B a', num B b'], .lis [num B c', num B d']])) :
    m_of_D [.lis [.lis [.int a, .int b], .lis [.int c, .int d], .lis [.int a', .int b'], .lis [.int c', .int d']], .int k] φ :=
  m_of_t W ha hb hc hd ha' hb' hc' hd' (hp ha hb hc hd ha' hb' hc' hd')
theorem cb_1 {a0 b0 c0 d0 : Int}   : (0 + a0 * c0) * (0 + b0 * d0) - (0 + a0 * d0) * (0 + b0 * c0) = 0 := by
  subst_vars
  grind
theorem lg_1 {a0 b0 : Int}   : (0 + a0 * a0) * (0 + b0 * b0) - (0 + a0 * b0) * (0 + b0 * a0) = 0 := by
  subst_vars
  grind
theorem cb_2 {a0 a1 b0 b1 c0 c1 d0 d1 P01 X01 Y01 : Int} (hP01 : P01 = X01 * Y01) (hX01 : X01 = a0 * b1 - a1 * b0) (hY01 : Y01 = c0 * d1 - d0 * c1) : (0 + a0 * c0 + a1 * c1) * (0 + b0 * d0 + b1 * d1) - (0 + a0 * d0 + a1 * d1) * (0 + b0 * c0 + b1 * c1) = 0 + P01 := by
  subst_vars
  grind
theorem lg_2 {a0 a1 b0 b1 S01 X01 : Int} (hS01 : S01 = X01 * X01) (hX01 : X01 = a0 * b1 - a1 * b0) : (0 + a0 * a0 + a1 * a1) * (0 + b0 * b0 + b1 * b1) - (0 + a0 * b0 + a1 * b1) * (0 + b0 * a0 + b1 * a1) = 0 + S01 := by
  subst_vars
  grind
theorem cb_3 {a0 a1 a2 b0 b1 b2 c0 c1 c2 d0 d1 d2 P01 X01 Y01 P02 X02 Y02 P12 X12 Y12 : Int} (hP01 : P01 = X01 * Y01) (hP02 : P02 = X02 * Y02) (hP12 : P12 = X12 * Y12) (hX01 : X01 = a0 * b1 - a1 * b0) (hY01 : Y01 = c0 * d1 - d0 * c1) (hX02 : X02 = a0 * b2 - a2 * b0) (hY02 : Y02 = c0 * d2 - d0 * c2) (hX12 : X12 = a1 * b2 - a2 * b1) (hY12 : Y12 = c1 * d2 - d1 * c2) : (0 + a0 * c0 + a1 * c1 + a2 * c2) * (0 + b0 * d0 + b1 * d1 + b2 * d2) - (0 + a0 * d0 + a1 * d1 + a2 * d2) * (0 + b0 * c0 + b1 * c1 + b2 * c2) = 0 + P01 + P02 + P12 := by
  subst_vars
  grind
theorem lg_3 {a0 a1 a2 b0 b1 b2 S01 X01 S02 X02 S12 X12 : Int} (hS01 : S01 = X01 * X01) (hS02 : S02 = X02 * X02) (hS12 : S12 = X12 * X12) (hX01 : X01 = a0 * b1 - a1 * b0) (hX02 : X02 = a0 * b2 - a2 * b0) (hX12 : X12 = a1 * b2 - a2 * b1) : (0 + a0 * a0 + a1 * a1 + a2 * a2) * (0 + b0 * b0 + b1 * b1 + b2 * b2) - (0 + a0 * b0 + a1 * b1 + a2 * b2) * (0 + b0 * a0 + b1 * a1 + b2 * a2) = 0 + S01 + S02 + S12 := by
  subst_vars
  grind
theorem cb_4 {a0 a1 a2 a3 b0 b1 b2 b3 c0 c1 c2 c3 d0 d1 d2 d3 P01 X01 Y01 P02 X02 Y02 P12 X12 Y12 P03 X03 Y03 P13 X13 Y13 P23 X23 Y23 : Int} (hP01 : P01 = X01 * Y01) (hP02 : P02 = X02 * Y02) (hP12 : P12 = X12 * Y12) (hP03 : P03 = X03 * Y03) (hP13 : P13 = X13 * Y13) (hP23 : P23 = X23 * Y23) (hX01 : X01 = a0 * b1 - a1 * b0) (hY01 : Y01 = c0 * d1 - d0 * c1) (hX02 : X02 = a0 * b2 - a2 * b0) (hY02 : Y02 = c0 * d2 - d0 * c2) (hX12 : X12 = a1 * b2 - a2 * b1) (hY12 : Y12 = c1 * d2 - d1 * c2) (hX03 : X03 = a0 * b3 - a3 * b0) (hY03 : Y03 = c0 * d3 - d0 * c3) (hX13 : X13 = a1 * b3 - a3 * b1) (hY13 : Y13 = c1 * d3 - d1 * c3) (hX23 : X23 = a2 * b3 - a3 * b2) (hY23 : Y23 = c2 * d3 - d2 * c3) : (0 + a0 * c0 + a1 * c1 + a2 * c2 + a3 * c3) * (0 + b0 * d0 + b1 * d1 + b2 * d2 + b3 * d3) - (0 + a0 * d0 + a1 * d1 + a2 * d2 + a3 * d3) * (0 + b0 * c0 + b1 * c1 + b2 * c2 + b3 * c3) = 0 + P01 + P02 + P12 + P03 + P13 + P23 := by
  subst_vars
  grind
theorem lg_4 {a0 a1 a2 a3 b0 b1 b2 b3 S01 X01 S02 X02 S12 X12 S03 X03 S13 X13 S23 X23 : Int} (hS01 : S01 = X01 * X01) (hS02 : S02 = X02 * X02) (hS12 : S12 = X12 * X12) (hS03 : S03 = X03 * X03) (hS13 : S13 = X13 * X13) (hS23 : S23 = X23 * X23) (hX01 : X01 = a0 * b1 - a1 * b0) (hX02 : X02 = a0 * b2 - a2 * b0) (hX12 : X12 = a1 * b2 - a2 * b1) (hX03 : X03 = a0 * b3 - a3 * b0) (hX13 : X13 = a1 * b3 - a3 * b1) (hX23 : X23 = a2 * b3 - a3 * b2) : (0 + a0 * a0 + a1 * a1 + a2 * a2 + a3 * a3) * (0 + b0 * b0 + b1 * b1 + b2 * b2 + b3 * b3) - (0 + a0 * b0 + a1 * b1 + a2 * b2 + a3 * b3) * (0 + b0 * a0 + b1 * a1 + b2 * a2 + b3 * a3) = 0 + S01 + S02 + S12 + S03 + S13 + S23 := by
  subst_vars
  grind
local macro_rules | `(tactic| ktr_rel) => `(tactic| first
  | refine' poles_s (by assumption) (by assumption) (fun _ _ _ => ?_)
  | refine' law_next_s (by omega) (by assumption) (by assumption) (by omega) (fun _ _ _ => ?_)
  | (refine' m_of_w ?k0 ?k1 ?k2 ?k3 ?k4 ?k5 ?k6 ?k7 ?k8 (fun _ _ _ _ _ _ _ _ _ _ => ?_); (case k0 => omega); (case k1 => omega); (case k2 => omega); (case k3 => omega); (case k4 => omega); (case k5 => omega); (case k6 => omega); (case k7 => omega); (case k8 => omega))
  | (refine' m_of_v ?k0 ?k1 ?k2 ?k3 ?k4 ?k5 ?k6 ?k7 ?k8 (fun _ _ _ _ _ _ _ _ => ?_); (case k0 => assumption); (case k1 => omega); (case k2 => omega); (case k3 => omega); (case k4 => omega); (case k5 => omega); (case k6 => omega); (case k7 => omega); (case k8 => omega))
  | (refine' pair_01 ?pW ?h0 ?h1 ?h2 ?h3 ?h4 ?h5 ?h6 ?h7 (fun _ _ _ _ _ _ _ _ _ _ _ _ _ _ => ?_); (case pW => assumption); (case h0 => assumption); (case h1 => assumption); (case h2 => assumption); (case h3 => assumption); (case h4 => assumption); (case h5 => assumption); (case h6 => assumption); (case h7 => assumption))
  | (refine' pair_02 ?pW ?h0 ?h1 ?h2 ?h3 ?h4 ?h5 ?h6 ?h7 ?ht ?hs (fun _ _ _ _ _ _ _ _ _ _ _ _ _ _ => ?_); (case pW => assumption); (case h0 => assumption); (case h1 => assumption); (case h2 => assumption); (case h3 => assumption); (case h4 => assumption); (case h5 => assumption); (case h6 => assumption); (case h7 => assumption); (case ht => omega); (case hs => omega))
  | (refine' pair_12 ?pW ?h0 ?h1 ?h2 ?h3 ?h4 ?h5 ?h6 ?h7 ?ht ?hs (fun _ _ _ _ _ _ _ _ _ _ _ _ _ _ => ?_); (case pW => assumption); (case h0 => assumption); (case h1 => assumption); (case h2 => assumption); (case h3 => assumption); (case h4 => assumption); (case h5 => assumption); (case h6 => assumption); (case h7 => assumption); (case ht => omega); (case hs => omega))
  | (refine' pair_03 ?pW ?h0 ?h1 ?h2 ?h3 ?h4 ?h5 ?h6 ?h7 ?ht ?hs (fun _ _ _ _ _ _ _ _ _ _ _ _ _ _ => ?_); (case pW => assumption); (case h0 => assumption); (case h1 => assumption); (case h2 => assumption); (case h3 => assumption); (case h4 => assumption); (case h5 => assumption); (case h6 => assumption); (case h7 => assumption); (case ht => omega); (case hs => omega))
  | (refine' pair_13 ?pW ?h0 ?h1 ?h2 ?h3 ?h4 ?h5 ?h6 ?h7 ?ht ?hs (fun _ _ _ _ _ _ _ _ _ _ _ _ _ _ => ?_); (case pW => assumption); (case h0 => assumption); (case h1 => assumption); (case h2 => assumption); (case h3 => assumption); (case h4 => assumption); (case h5 => assumption); (case h6 => assumption); (case h7 => assumption); (case ht => omega); (case hs => omega))
  | (refine' pair_23 ?pW ?h0 ?h1 ?h2 ?h3 ?h4 ?h5 ?h6 ?h7 ?ht ?hs (fun _ _ _ _ _ _ _ _ _ _ _ _ _ _ => ?_); (case pW => assumption); (case h0 => assumption); (case h1 => assumption); (case h2 => assumption); (case h3 => assumption); (case h4 => assumption); (case h5 => assumption); (case h6 => assumption); (case h7 => assumption); (case ht => omega); (case hs => omega))
  | (refine' check_1 ?kW ?h0 ?h1 ?h2 ?h3 ?hT ?hS (fun _ _ _ => ?_); (case kW => assumption); (case h0 => assumption); (case h1 => assumption); (case h2 => assumption); (case h3 => assumption); (case hT => exact cb_1); (case hS => exact lg_1))
  | (refine' check_2 ?kW ?h0 ?h1 ?h2 ?h3 ?h4 ?h5 ?h6 ?h7 ?hT ?hS ?ht ?hs (fun _ _ _ => ?_); (case kW => assumption); (case h0 => assumption); (case h1 => assumption); (case h2 => assumption); (case h3 => assumption); (case h4 => assumption); (case h5 => assumption); (case h6 => assumption); (case h7 => assumption); (case hT => exact cb_2 (by assumption) (by assumption) (by assumption)); (case hS => exact lg_2 (by assumption) (by assumption)); (case ht => omega); (case hs => omega))
  | (refine' check_3 ?kW ?h0 ?h1 ?h2 ?h3 ?h4 ?h5 ?h6 ?h7 ?h8 ?h9 ?h10 ?h11 ?hT ?hS ?ht ?hs (fun _ _ _ => ?_); (case kW => assumption); (case h0 => assumption); (case h1 => assumption); (case h2 => assumption); (case h3 => assumption); (case h4 => assumption); (case h5 => assumption); (case h6 => assumption); (case h7 => assumption); (case h8 => assumption); (case h9 => assumption); (case h10 => assumption); (case h11 => assumption); (case hT => exact cb_3 (by assumption) (by assumption) (by assumption) (by assumption) (by assumption) (by assumption) (by assumption) (by assumption) (by assumption)); (case hS => exact lg_3 (by assumption) (by assumption) (by assumption) (by assumption) (by assumption) (by assumption)); (case ht => omega); (case hs => omega))
  | (refine' check_4 ?kW ?h0 ?h1 ?h2 ?h3 ?h4 ?h5 ?h6 ?h7 ?h8 ?h9 ?h10 ?h11 ?h12 ?h13 ?h14 ?h15 ?hT ?hS ?ht ?hs (fun _ _ _ => ?_); (case kW => assumption); (case h0 => assumption); (case h1 => assumption); (case h2 => assumption); (case h3 => assumption); (case h4 => assumption); (case h5 => assumption); (case h6 => assumption); (case h7 => assumption); (case h8 => assumption); (case h9 => assumption); (case h10 => assumption); (case h11 => assumption); (case h12 => assumption); (case h13 => assumption); (case h14 => assumption); (case h15 => assumption); (case hT => exact cb_4 (by assumption) (by assumption) (by assumption) (by assumption) (by assumption) (by assumption) (by assumption) (by assumption) (by assumption) (by assumption) (by assumption) (by assumption) (by assumption) (by assumption) (by assumption) (by assumption) (by assumption) (by assumption)); (case hS => exact lg_4 (by assumption) (by assumption) (by assumption) (by assumption) (by assumption) (by assumption) (by assumption) (by assumption) (by assumption) (by assumption) (by assumption) (by assumption)); (case ht => omega); (case hs => omega)))
theorem law_s {ss : List PV} (hi : Ints ss) (hl : ss.length ≤ 1000) : law_D [.lis ss] (fun v => v = .raw (.bool true)) := by
  refine law_go ?_
  ktr_unf
  all_goals rfl
/-! the head -/
abbrev P0 : Program := PySem.Challenge.pw_xw0113_01
def qv : Program := { P0 with main := { P0.main with body := [stAt 46] } }
def qloose : List Str := [Str.ofString "GmpError", Str.ofString "DivisionByZero", Str.ofString "OutOfRange", Str.ofString "normal", Str.ofString "nat_of", Str.ofString "compare", Str.ofString "add", Str.ofString "sub", Str.ofString "divrem_limb", Str.ofString "shift_left", Str.ofString "shift_right", Str.ofString "bits", Str.ofString "signed", Str.ofString "s_of", Str.ofString "s_neg", Str.ofString "s_sign", Str.ofString "s_add", Str.ofString "s_sub", Str.ofString "s_mul", Str.ofString "tdiv", Str.ofString "NOUGHT", Str.ofString "UNIT", Str.ofString "m_of", Str.ofString "m_turned", Str.ofString "inner", Str.ofString "m_mul", Str.ofString "exact", Str.ofString "pivot_row", Str.ofString "cleared", Str.ofString "steps_down", Str.ofString "det_bareiss", Str.ofString "mul_school", Str.ofString "divrem_small", Str.ofString "guessed_limb", Str.ofString "take_away", Str.ofString "put_back", Str.ofString "divide_rows", Str.ofString "divrem_school", Str.ofString "_law_next", Str.ofString "_law_limbs", Str.ofString "_law_signed"]
def defTab : List (Nat × Addr × Str) := [(4, 58, Str.ofString "normal"), (5, 65, Str.ofString "nat_of"), (6, 72, Str.ofString "compare"), (7, 79, Str.ofString "add"), (8, 86, Str.ofString "sub"), (9, 93, Str.ofString "divrem_limb"), (14, 121, Str.ofString "signed"), (15, 128, Str.ofString "s_of"), (16, 135, Str.ofString "s_neg"), (17, 142, Str.ofString "s_sign"), (18, 149, Str.ofString "s_add"), (19, 156, Str.ofString "s_sub"), (20, 163, Str.ofString "s_mul"), (21, 170, Str.ofString "tdiv"), (25, 179, Str.ofString "m_of"), (26, 184, Str.ofString "m_turned"), (27, 191, Str.ofString "inner"), (28, 196, Str.ofString "m_mul"), (29, 203, Str.ofString "exact"), (30, 210, Str.ofString "pivot_row"), (31, 217, Str.ofString "cleared"), (32, 222, Str.ofString "steps_down"), (33, 229, Str.ofString "det_bareiss"), (35, 236, Str.ofString "mul_school"), (36, 243, Str.ofString "divrem_small"), (41, 278, Str.ofString "divrem_school"), (43, 285, Str.ofString "_law_next"), (44, 292, Str.ofString "_law_limbs"), (45, 299, Str.ofString "_law_signed"), (46, 304, Str.ofString "law")]
def extTab : List (Str × Option Value) := [(Str.ofString "NOUGHT", some (.ref 172)), (Str.ofString "UNIT", some (.ref 174)), (Str.ofString "len", none), (Str.ofString "abs", none), (Str.ofString "int", none), (Str.ofString "range", none), (Str.ofString "enumerate", none)]
def kAs : List Addr := 3 :: defTab.flatMap fun d => [d.2.1 - 1, d.2.1]
def Kof (h : Heap) : Frag := kAs.filterMap fun a => (h.get? a).map fun o => (a, o)
abbrev FS : Type := Str × Str × Arguments × FuncBody × Scope × Addr × List (Str × Addr) × Value × Value × Value × Value × Addr
def fnSeen (K : Frag) (a : Addr) : Option FS := match K.lookup a with
  | some ⟨_, _, .func f, _⟩ => some (f.name, f.qualname, f.params, f.body, f.scope, f.globals, f.closure, f.defaults, f.kwdefaults, f.code, f.closureTuple, f.builtins)
  | _ => none
def nuL : Led := [(171, lisO [] 0), (172, tupO [.bool false, .ref 171]), (173, lisO [.int 1 420] 0), (174, tupO [.bool false, .ref 173])]
abbrev YT : Type := (List (Option (Option Value)) × List (Option (Option Value))) × (List (Option FS) × List Bool) × List (Option Obj)
def Yfn (s : Shared) : YT :=
  ((defTab.map fun d => nsIn (Kof s.heap) mainGlobals d.2.2, extTab.map fun x => nsIn (Kof s.heap) mainGlobals x.1), (defTab.map fun d => fnSeen (Kof s.heap) d.2.1, defTab.map fun d => codeIn (Kof s.heap) (.ref (d.2.1 - 1)) d.2.2), nuL.map fun p => s.heap.get? p.1)
def Yan (_ : World) : YT :=
  ((defTab.map fun d => some (some (.ref d.2.1)), extTab.map fun x => some x.2), (defTab.map fun d => some (d.2.2, d.2.2, dArgs d.1, .stmts (dBody d.1), dScope d.1, mainGlobals, [], .none, .none, .ref (d.2.1 - 1), .none, builtinsNs), defTab.map fun _ => true), nuL.map fun p => some p.2)
theorem lookup_kof {h : Heap} {a : Addr} {o : Obj} : ∀ {l : List Addr}, (l.filterMap fun a => (h.get? a).map fun o => (a, o)).lookup a = some o → h.get? a = some o ∧ a ∈ l
  | [], e => by simp at e
  | b :: l, e => by
    rw [List.filterMap_cons] at e
    cases q : h.get? b with
    | none =>
      rw [q] at e
      have r := lookup_kof e
      exact ⟨r.1, .tail _ r.2⟩
    | some o' =>
      rw [q] at e
      simp only [Option.map_some, List.lookup_cons] at e
      split at e
      · rename_i hb
        have hb' : a = b := by simpa using hb
        cases e
        exact ⟨hb' ▸ q, hb' ▸ .head _⟩
      · have r := lookup_kof e
        exact ⟨r.1, .tail _ r.2⟩
structure Seen (K : Frag) : Prop where
  g : ∀ d ∈ defTab, nsIn K mainGlobals d.2.2 = some (some (.ref d.2.1))
  e : ∀ x ∈ extTab, nsIn K mainGlobals x.1 = some x.2
  d : ∀ d ∈ defTab, DefIn K d.2.1 d.2.2 (dArgs d.1) (dBody d.1) (dScope d.1) (.ref (d.2.1 - 1))
structure YPr (h : Heap) : Prop where
  k : ∃ K : Frag, K.In h ∧ (∀ a o, K.lookup a = some o → a ∈ kAs) ∧ Seen K
  n : ∀ p ∈ nuL, h.get? p.1 = some p.2
theorem fnSeen_is {K : Frag} {a : Addr} {nm : Str} {ps : Arguments} {b : List Stmt} {sc : Scope} {cd : Value} (h : fnSeen K a = some (nm, nm, ps, .stmts b, sc, mainGlobals, [], .none, .none, cd, .none, builtinsNs)) :
    ∃ oc od osl doc pm an, K.lookup a = some ⟨oc, od, .func (fnOf nm nm ps b sc .none .none doc pm an cd .none), osl⟩ := by
  unfold fnSeen at h
  split at h
  · rename_i oc od f osl hK
    obtain ⟨f1, f2, f3, f4, f5, f6, f7, f8, f9, f10, f11, f12, f13, f14, f15⟩ := f
    simp only [Option.some.injEq, Prod.mk.injEq] at h
    obtain ⟨rfl, rfl, rfl, rfl, rfl, rfl, rfl, rfl, rfl, rfl, rfl, rfl⟩ := h
    exact ⟨oc, od, osl, f10, f11, f12, hK⟩
  · cases h
theorem seen_of {w : World} {s : Shared} (e : Yfn s = Yan w) : YPr s.heap := by
  have e1 := (Prod.mk.inj e).1
  have e2 := (Prod.mk.inj e).2
  have a1 := List.map_inj_left.mp (Prod.mk.inj e1).1
  have a2 := List.map_inj_left.mp (Prod.mk.inj e1).2
  have b1 := List.map_inj_left.mp (Prod.mk.inj (Prod.mk.inj e2).1).1
  have b2 := List.map_inj_left.mp (Prod.mk.inj (Prod.mk.inj e2).1).2
  have c := List.map_inj_left.mp (Prod.mk.inj e2).2
  exact ⟨⟨Kof s.heap, fun a o h => (lookup_kof h).1, fun a o h => (lookup_kof h).2, ⟨a1, a2, fun d hd => ⟨fnSeen_is (b1 d hd), b2 d hd⟩⟩⟩, c⟩
theorem seen_keeps {h h' : Heap} (y : YPr h) (hk : ∀ b o, h.get? b = some o → h'.get? b = some o) : YPr h' :=
  let ⟨K, a, b, c⟩ := y.k
  ⟨⟨K, fun x o e => hk x o (a x o e), b, c⟩, fun p hp => hk _ _ (y.n p hp)⟩
theorem kok_of {D : Rn} (S : Seen D.K) (hf : D.fx = nuL) : KOk D := by
  obtain ⟨hg, he, hd⟩ := S
  obtain ⟨D1, D2, K, D4, D5, D6, D7, fx⟩ := D
  subst hf
  exact {
    g_normal := hg (4, 58, Str.ofString "normal") (List.mem_of_getElem? (i := 0) rfl)
    d_normal := hd (4, 58, Str.ofString "normal") (List.mem_of_getElem? (i := 0) rfl)
    g_nat_of := hg (5, 65, Str.ofString "nat_of") (List.mem_of_getElem? (i := 1) rfl)
    d_nat_of := hd (5, 65, Str.ofString "nat_of") (List.mem_of_getElem? (i := 1) rfl)
    g_compare := hg (6, 72, Str.ofString "compare") (List.mem_of_getElem? (i := 2) rfl)
    d_compare := hd (6, 72, Str.ofString "compare") (List.mem_of_getElem? (i := 2) rfl)
    g_add := hg (7, 79, Str.ofString "add") (List.mem_of_getElem? (i := 3) rfl)
    d_add := hd (7, 79, Str.ofString "add") (List.mem_of_getElem? (i := 3) rfl)
    g_sub := hg (8, 86, Str.ofString "sub") (List.mem_of_getElem? (i := 4) rfl)
    d_sub := hd (8, 86, Str.ofString "sub") (List.mem_of_getElem? (i := 4) rfl)
    g_divrem_limb := hg (9, 93, Str.ofString "divrem_limb") (List.mem_of_getElem? (i := 5) rfl)
    d_divrem_limb := hd (9, 93, Str.ofString "divrem_limb") (List.mem_of_getElem? (i := 5) rfl)
    g_signed := hg (14, 121, Str.ofString "signed") (List.mem_of_getElem? (i := 6) rfl)
    d_signed := hd (14, 121, Str.ofString "signed") (List.mem_of_getElem? (i := 6) rfl)
    g_s_of := hg (15, 128, Str.ofString "s_of") (List.mem_of_getElem? (i := 7) rfl)
    d_s_of := hd (15, 128, Str.ofString "s_of") (List.mem_of_getElem? (i := 7) rfl)
    g_s_neg := hg (16, 135, Str.ofString "s_neg") (List.mem_of_getElem? (i := 8) rfl)
    d_s_neg := hd (16, 135, Str.ofString "s_neg") (List.mem_of_getElem? (i := 8) rfl)
    g_s_sign := hg (17, 142, Str.ofString "s_sign") (List.mem_of_getElem? (i := 9) rfl)
    d_s_sign := hd (17, 142, Str.ofString "s_sign") (List.mem_of_getElem? (i := 9) rfl)
    g_s_add := hg (18, 149, Str.ofString "s_add") (List.mem_of_getElem? (i := 10) rfl)
    d_s_add := hd (18, 149, Str.ofString "s_add") (List.mem_of_getElem? (i := 10) rfl)
    g_s_sub := hg (19, 156, Str.ofString "s_sub") (List.mem_of_getElem? (i := 11) rfl)
    d_s_sub := hd (19, 156, Str.ofString "s_sub") (List.mem_of_getElem? (i := 11) rfl)
    g_s_mul := hg (20, 163, Str.ofString "s_mul") (List.mem_of_getElem? (i := 12) rfl)
    d_s_mul := hd (20, 163, Str.ofString "s_mul") (List.mem_of_getElem? (i := 12) rfl)
    g_tdiv := hg (21, 170, Str.ofString "tdiv") (List.mem_of_getElem? (i := 13) rfl)
    d_tdiv := hd (21, 170, Str.ofString "tdiv") (List.mem_of_getElem? (i := 13) rfl)
    g_m_of := hg (25, 179, Str.ofString "m_of") (List.mem_of_getElem? (i := 14) rfl)
    d_m_of := hd (25, 179, Str.ofString "m_of") (List.mem_of_getElem? (i := 14) rfl)
    g_m_turned := hg (26, 184, Str.ofString "m_turned") (List.mem_of_getElem? (i := 15) rfl)
    d_m_turned := hd (26, 184, Str.ofString "m_turned") (List.mem_of_getElem? (i := 15) rfl)
    g_inner := hg (27, 191, Str.ofString "inner") (List.mem_of_getElem? (i := 16) rfl)
    d_inner := hd (27, 191, Str.ofString "inner") (List.mem_of_getElem? (i := 16) rfl)
    g_m_mul := hg (28, 196, Str.ofString "m_mul") (List.mem_of_getElem? (i := 17) rfl)
    d_m_mul := hd (28, 196, Str.ofString "m_mul") (List.mem_of_getElem? (i := 17) rfl)
    g_exact := hg (29, 203, Str.ofString "exact") (List.mem_of_getElem? (i := 18) rfl)
    d_exact := hd (29, 203, Str.ofString "exact") (List.mem_of_getElem? (i := 18) rfl)
    g_pivot_row := hg (30, 210, Str.ofString "pivot_row") (List.mem_of_getElem? (i := 19) rfl)
    d_pivot_row := hd (30, 210, Str.ofString "pivot_row") (List.mem_of_getElem? (i := 19) rfl)
    g_cleared := hg (31, 217, Str.ofString "cleared") (List.mem_of_getElem? (i := 20) rfl)
    d_cleared := hd (31, 217, Str.ofString "cleared") (List.mem_of_getElem? (i := 20) rfl)
    g_steps_down := hg (32, 222, Str.ofString "steps_down") (List.mem_of_getElem? (i := 21) rfl)
    d_steps_down := hd (32, 222, Str.ofString "steps_down") (List.mem_of_getElem? (i := 21) rfl)
    g_det_bareiss := hg (33, 229, Str.ofString "det_bareiss") (List.mem_of_getElem? (i := 22) rfl)
    d_det_bareiss := hd (33, 229, Str.ofString "det_bareiss") (List.mem_of_getElem? (i := 22) rfl)
    g_mul_school := hg (35, 236, Str.ofString "mul_school") (List.mem_of_getElem? (i := 23) rfl)
    d_mul_school := hd (35, 236, Str.ofString "mul_school") (List.mem_of_getElem? (i := 23) rfl)
    g_divrem_small := hg (36, 243, Str.ofString "divrem_small") (List.mem_of_getElem? (i := 24) rfl)
    d_divrem_small := hd (36, 243, Str.ofString "divrem_small") (List.mem_of_getElem? (i := 24) rfl)
    g_divrem_school := hg (41, 278, Str.ofString "divrem_school") (List.mem_of_getElem? (i := 25) rfl)
    d_divrem_school := hd (41, 278, Str.ofString "divrem_school") (List.mem_of_getElem? (i := 25) rfl)
    g_law_next := hg (43, 285, Str.ofString "_law_next") (List.mem_of_getElem? (i := 26) rfl)
    d_law_next := hd (43, 285, Str.ofString "_law_next") (List.mem_of_getElem? (i := 26) rfl)
    g_law_limbs := hg (44, 292, Str.ofString "_law_limbs") (List.mem_of_getElem? (i := 27) rfl)
    d_law_limbs := hd (44, 292, Str.ofString "_law_limbs") (List.mem_of_getElem? (i := 27) rfl)
    g_law_signed := hg (45, 299, Str.ofString "_law_signed") (List.mem_of_getElem? (i := 28) rfl)
    d_law_signed := hd (45, 299, Str.ofString "_law_signed") (List.mem_of_getElem? (i := 28) rfl)
    g_law := hg (46, 304, Str.ofString "law") (List.mem_of_getElem? (i := 29) rfl)
    d_law := hd (46, 304, Str.ofString "law") (List.mem_of_getElem? (i := 29) rfl)
    g_NOUGHT := he (Str.ofString "NOUGHT", some (.ref 172)) (List.mem_of_getElem? (i := 0) rfl)
    g_UNIT := he (Str.ofString "UNIT", some (.ref 174)) (List.mem_of_getElem? (i := 1) rfl)
    g_len := he (Str.ofString "len", none) (List.mem_of_getElem? (i := 2) rfl)
    g_abs := he (Str.ofString "abs", none) (List.mem_of_getElem? (i := 3) rfl)
    g_int := he (Str.ofString "int", none) (List.mem_of_getElem? (i := 4) rfl)
    g_range := he (Str.ofString "range", none) (List.mem_of_getElem? (i := 5) rfl)
    g_enumerate := he (Str.ofString "enumerate", none) (List.mem_of_getElem? (i := 6) rfl)
    f_NOUGHT := .tup (rs := [.bool false, .ref 171]) (.tail _ (.head _)) (.cons (.raw _) (.cons (.lis (rs := []) (n := 0) (.head _) .nil) .nil))
    f_UNIT := .tup (rs := [.bool false, .ref 173]) (.tail _ (.tail _ (.tail _ (.head _)))) (.cons (.raw _) (.cons (.lis (rs := [.int 1 420]) (n := 0) (.tail _ (.tail _ (.head _))) (.cons (.int 1 420) .nil)) .nil)) }
abbrev rr : OpenRow := PySem.Challenge.rw_xw0113_01.row
theorem left : LeftO rr.prog qv qloose (fun s => recOk [] s) Yfn Yan 3906 := fun w => by
  have h : (((Fast.tw10274390034422433532 Fast.tw14364793385576792824 (opening P0) w 3906 (Fast.tw1435165496053646825 (opening P0)).1 (Fast.tw1435165496053646825 (opening P0)).2).bind (Fast.tw14289696077712309145 P0)).bind (fun s₀ =>
      match s₀.heap.isNs mainGlobals && s₀.gens.size == 0 with
      | true => (Fast.tw14082659384304107361 Fast.tw14364793385576792824 P0 w s₀.heap.objs.size (s₀.heap.nsMap mainGlobals "__annotations__") 3906 s₀ (topStub P0)).bind fun s₁ => match staticsOk (importedModules P0.main.body) s₀.heap s₁.heap && namesBound P0 s₁.heap && gensDone s₁ && laidKept s₀.heap s₁.heap with
        | true => some s₁
        | false => none
      | false => none)).map (fun s => (Fast.tw4187177175401517315 qv qloose (importedModules P0.main.body) (fun s => recOk [] s) true s, Yfn s)) = some (openGood qv qloose, Yan w) := by kernel_rfl
  rw [← Fast.te10274390034422433532, ← Fast.te14364793385576792824, ← Fast.te1435165496053646825, ← Fast.te14289696077712309145, ← Fast.te14082659384304107361, ← Fast.te4187177175401517315] at h
  exact h
/-! the walk, the end -/
theorem codeIn_is {K : Frag} {x : Addr} {q : Str} (h : codeIn K (.ref x) q = true) : ∃ oc od vs osl, K.lookup x = some ⟨oc, od, .fields vs, osl⟩ := by
  change (match K.lookup x with
    | some ⟨_, _, .fields vs, _⟩ => (match vs.toList with | _ :: .str n _ :: _ => n == q | _ => false)
    | _ => false) = true at h
  split at h
  · rename_i hk
    exact ⟨_, _, _, _, hk⟩
  · cases h
theorem kind_off {K : Frag} {h : Heap} (X : K.In h) (S : Seen K) {a : Addr} (ha : a ∈ kAs) {its : List Value} {n : Nat} (e : h.get? a = some (lisO its n)) : False := by
  rcases List.mem_cons.mp ha with rfl | ha
  · have g := S.g (46, 304, Str.ofString "law") (List.mem_of_getElem? (i := 29) rfl)
    unfold nsIn at g
    split at g
    · rename_i hk
      have q := congrArg Obj.data (Option.some.inj ((X _ _ hk).symm.trans e))
      cases q
    · cases g
  · obtain ⟨d, hd, ha⟩ := List.mem_flatMap.mp ha
    have D := S.d d hd
    rcases List.mem_cons.mp ha with rfl | ha
    · have c := D.cd
      obtain ⟨oc, od, vs, osl, hk⟩ := codeIn_is c
      have q := congrArg Obj.data (Option.some.inj ((X _ _ hk).symm.trans e))
      cases q
    · rw [List.mem_singleton.mp ha] at e
      obtain ⟨oc, od, osl, doc, pm, an, hk⟩ := D.at'
      have q := congrArg Obj.data (Option.some.inj ((X _ _ hk).symm.trans e))
      cases q
theorem ints_vrs {H : Led} : ∀ {rs : List Value} {ns : List Int}, IntsAre rs ns → VRs H [] (ns.map PV.int) rs
  | _, _, .nil => .nil
  | _, _, .cons i t r => .cons (.int i t) (ints_vrs r)
theorem nu_seq : ∀ p ∈ nuL, ∃ its, p.2.data = .seq its 0 := by
  intro p hp
  simp only [nuL, List.mem_cons, List.not_mem_nil, or_false] at hp
  rcases hp with rfl | rfl | rfl | rfl <;> exact ⟨_, rfl⟩
theorem nu_off : ∀ a ∈ kAs, a ∉ nuL.map (fun x : Addr × Obj => x.1) := by decide +kernel
def lawP : Pos := match stAt 46 with
  | .FunctionDef _ _ _ _ _ _ _ _ _ p => p
  | _ => ⟨0, 0, 0, 0⟩
theorem walk : WalkO qv qloose (fun _ _ => True) (fun _ h => YPr h) rr.toRowW ⟨Str.ofString "law", dArgs 46, dBody 46, dScope 46, lawP⟩ [] (fun f vs => PySem.call f vs) := by
  intro w s₀ s₁ mg mb G Y a o pm cd doc dV kV ho hd hcd hD hmg hg args vals as hpre hlay hrd hwl hlo
  clear hd hcd hD
  wrow_args hpre hlay hrd hwl hlo
  rename_i zs hs hlay0 hL1 hr1 hl2 as0 as1 L rs as2 hL ra w1 r0 hI hr2 hlen ht
  have hobj : s₁.heap.get? L = some (lisO rs 0) := by
    have w2 : Well w.params s₁.heap (.ref L) (.list (ofPys (zs.map PyData.int))) := w1
    cases w2 with
    | list h1 h2 =>
      obtain ⟨o', e1, e2, n, e3⟩ := hL
      rw [h1] at e1
      cases e1
      simp only [Data.seq.injEq] at e3
      rw [h1, e3.1]
  clear hs hlay0 hL1 hr1 hl2 ra w1 r0 hr2 hL
  obtain ⟨⟨K, hK, hKa, hS⟩, hn⟩ := Y
  have e := hS.g (46, 304, Str.ofString "law") (List.mem_of_getElem? (i := 29) rfl)
  have T := topRead_of G.T
  have h304 : mg (Str.ofString "law") = some (.ref 304) := mg_of hK T.g e
  have ha : a = 304 := by
    have h2 : mg (Str.ofString "law") = some (.ref a) := hmg
    rw [h304] at h2
    cases h2
    rfl
  subst ha
  have hlen' : zs.length ≤ 63 := by omega
  refine enter_call (codeAny_mono (law_start (D := ⟨rr.prog, w, K, qv, looseW qv qloose, mg, mb, nuL⟩) (kok_of hS rfl) (H := (L, lisO rs 0) :: nuL) (vs := [.lis (zs.map PV.int)]) (φ := fun v => v = .raw (.bool true)) (fun p hp => ?_) (fun p hp es n => ?_) hK (fun b ob hb hm => ?_) T (fun p hp => .tail _ hp)
    (law_s (fun v hv => ?_) ?_) (.cons (.lis (n := 0) (.head _) (ints_vrs hI)) .nil) (RR := fun res s' => GoodW rr.toRowW.claim (classAt s₀.heap) (ExcName.means s₀.heap) [ofPy (PyData.list (List.map PyData.int zs))] s₁ res s') fun v r Z h' tk' L' m hv F' V' => ?_) fun _ _ g => g.toG)
  · rcases List.mem_cons.mp hp with rfl | hp
    · exact hobj
    · exact hn p hp
  · rcases List.mem_cons.mp hp with rfl | hp
    · exact fun q => nomatch q
    · obtain ⟨its, q⟩ := nu_seq p hp
      rw [q]
      exact fun q => nomatch q
  · have hb' := hKa b ob hb
    rcases List.mem_cons.mp hm with rfl | hm
    · exact kind_off hK hS hb' hobj
    · exact nu_off b hb' hm
  · obtain ⟨i, _, rfl⟩ := List.mem_map.mp hv
    exact ⟨i, rfl⟩
  · rw [List.length_map]; omega
  · subst hv
    cases V'
    exact goodW_bool F' hg (raisesW_false (by wrow_none_raised)) (by wrow_post)
theorem said_ok : PySem.Challenge.rw_xw0113_01.wellSaid = true := by
  have h : Fast.tw9446332074065402090 PySem.Challenge.rw_xw0113_01 = true := by kernel_rfl
  rw [← Fast.te9446332074065402090] at h
  exact h
end Mine
theorem PySem.Challenge.cw_xw0113_01_holds : PySem.Challenge.rw_xw0113_01.Holds := by
  refine holds_law Mine.said_ok fun said => ?_
  refine holds_open (q := Mine.qv) (loose := Mine.qloose) (Xt := fun s => recOk [] s) (XP := fun _ _ => True) (Yf := Mine.Yfn) (Ya := Mine.Yan) (YP := fun _ h => Mine.YPr h) (N := 3906) Mine.left (fun _ _ e => Mine.seen_of e) (fun _ _ _ y k => Mine.seen_keeps y k) (fun _ _ => trivial) (fun _ _ _ _ _ => trivial)
    (by rfl) (by rfl) (by rfl) (fun s e => recFacts_of e) (by rfl) (by assumption) (by decide +kernel) ⟨rfl, rfl, rfl, rfl, rfl, by decide +kernel⟩ ?hw Mine.walk
  case hw => w_witness2
