import PyProof.Rows.All
import Wide.All
import OpenK.AllK
import Wide.FinOn
import Lean
import PySem.Challenge.RW_pq0678_01
open PySem PySem.W PyProof.Rows
set_option Elab.async false
set_option maxRecDepth 100000
set_option maxHeartbeats 80000000
namespace Mine
section
local macro_rules | `(tactic| o_head $_) => `(tactic| assumption)
theorem k0 (h : PySem.Challenge.rw_pq0678_01.row.Holds) : PySem.Challenge.rw_pq0678_01.row.Holds := by k_head
end
end Mine
namespace Mine

abbrev Led := List (Addr × Obj)

/-- the ledger with one object turned -/
def put (d : Addr) (o' : Obj) (l : Led) : Led := (d, o') :: l.filter (fun p => p.1 ≠ d)
theorem mem_put_self {d : Addr} {o' : Obj} {l : Led} : (d, o') ∈ put d o' l := .head _
theorem mem_put_ne {d b : Addr} {o o' : Obj} {l : Led} (h : b ≠ d) (hm : (b, o) ∈ l) : (b, o) ∈ put d o' l :=
  .tail _ (List.mem_filter.mpr ⟨hm, by simpa using h⟩)
theorem mem_put {d b : Addr} {o o' : Obj} {l : Led} : (b, o) ∈ put d o' l ↔ (b = d ∧ o = o') ∨ (b ≠ d ∧ (b, o) ∈ l) := by
  unfold put
  simp only [List.mem_cons, Prod.mk.injEq, List.mem_filter, ne_eq, decide_not, Bool.not_eq_true', decide_eq_false_iff_not]
  constructor
  · rintro (h | h); exact .inl h; exact .inr ⟨h.2, h.1⟩
  · rintro (h | h); exact .inl h; exact .inr ⟨h.2, h.1⟩
theorem news_front {h₀ h : Heap} {L d : Addr} {o : Obj} {l : Led} (N : News h₀ L h l) (hm : (d, o) ∈ l) : News h₀ L h ((d, o) :: l.filter (fun p => p.1 ≠ d)) := fun p hp => by
  rcases List.mem_cons.mp hp with rfl | hp
  · exact N _ hm
  · exact N _ (List.mem_filter.mp hp).1
theorem upd_put {d : Addr} {o o' : Obj} {l : Led} : Upd d o o' ((d, o) :: l.filter (fun p => p.1 ≠ d)) (put d o' l) :=
  .head fun p hp => by simpa using (List.mem_filter.mp hp).2
theorem updF_put {d : Addr} {o : Obj} {l : Led} : UpdF d o ((d, o) :: l.filter (fun p => p.1 ≠ d)) (fun o' => put d o' l) :=
  .head fun p hp => by simpa using (List.mem_filter.mp hp).2

/-- what a call of a def does, over any caller's frame -/
def Ctr (w : World) (p : Program) (loose : List Str) (mean : ExcName → Option Value) (mg mb : Str → Option Value) (f : Addr) (vs : List Value) (l : Led) (nd : Nat) (Out : Value → Led → Prop) : Prop :=
  ∀ (dp un : Nat) (gd : Option (List Code)) (cn : Str) (cs : Scope) (a : Addr) (ccd : Value) (cl : List (Str × Addr)) (outer : List Env) (A₀ : Around) (base h₀ : Heap) (L : Addr) (m : Str → Option Value) (s : Shared)
    (Q E : Value → Shared → Prop),
    Below A₀ base outer h₀ → Fr h₀ L s.heap m → (Mine.k0.heap_1 w.params).In h₀ → News h₀ L s.heap l → Top p loose mean mg mb h₀ → cs.kind = .function →
    dp + nd < recursionLimit → un + 8 * nd < cLine →
    (∀ r l' h' tk', Fr h₀ L h' m → News h₀ L h' l' → Out r l' → Q r { s with heap := h', toks := tk' }) →
    codeAny (model PySem.Challenge.rw_pq0678_01.row.prog w) (ktrTop dp un gd cn cs L a ccd cl outer) (.call (.ref f) ⟨vs, []⟩) (fun r s' => match r with | .ok (.ret v) => Q v s' | .ok _ => False | .error e => E e s') s

theorem Ctr.use {w : World} {p : Program} {loose : List Str} {mean : ExcName → Option Value} {mg mb : Str → Option Value} {f : Addr} {vs : List Value} {l : Led} {nd : Nat} {Out : Value → Led → Prop}
    {dp un : Nat} {gd : Option (List Code)} {cn : Str} {cs : Scope} {a : Addr} {ccd : Value} {cl : List (Str × Addr)} {outer : List Env} {A₀ : Around} {base h₀ : Heap} {L : Addr} {m : Str → Option Value} {s : Shared}
    {Q E : Value → Shared → Prop} (B : Below A₀ base outer h₀) (F : Fr h₀ L s.heap m) (X : (Mine.k0.heap_1 w.params).In h₀) (N : News h₀ L s.heap l) (T : Top p loose mean mg mb h₀) (hk : cs.kind = .function)
    (C : Ctr w p loose mean mg mb f vs l nd Out) (hd : dp + nd < recursionLimit) (hu : un + 8 * nd < cLine)
    (ret : ∀ r l' h' tk', Fr h₀ L h' m → News h₀ L h' l' → Out r l' → Q r { s with heap := h', toks := tk' }) :
    wpAny (model PySem.Challenge.rw_pq0678_01.row.prog w) (ktrTop dp un gd cn cs L a ccd cl outer) (call (.ref f) vs) Q E s :=
  wpAny_call (C _ _ _ _ _ _ _ _ _ _ _ _ _ _ _ _ _ B F X N T hk hd hu ret)
theorem Ctr.useM {w : World} {p : Program} {loose : List Str} {mean : ExcName → Option Value} {mg mb : Str → Option Value} {f q : Addr} {self : Value} {vs : List Value} {l : Led} {nd : Nat} {Out : Value → Led → Prop}
    {dp un : Nat} {gd : Option (List Code)} {cn : Str} {cs : Scope} {a : Addr} {ccd : Value} {cl : List (Str × Addr)} {outer : List Env} {A₀ : Around} {base h₀ : Heap} {L : Addr} {m : Str → Option Value} {s : Shared}
    {Q E : Value → Shared → Prop} (B : Below A₀ base outer h₀) (F : Fr h₀ L s.heap m) (X : (Mine.k0.heap_1 w.params).In h₀) (N : News h₀ L s.heap l) (T : Top p loose mean mg mb h₀) (hk : cs.kind = .function)
    (hq : (q, methodObj (.ref f) self) ∈ l) (C : Ctr w p loose mean mg mb f (self :: vs) l nd Out) (hd : dp + nd < recursionLimit) (hu : un + 8 * nd < cLine)
    (ret : ∀ r l' h' tk', Fr h₀ L h' m → News h₀ L h' l' → Out r l' → Q r { s with heap := h', toks := tk' }) :
    wpAny (model PySem.Challenge.rw_pq0678_01.row.prog w) (ktrTop dp un gd cn cs L a ccd cl outer) (call (.ref q) vs) Q E s :=
  call_meth N hq (C _ _ _ _ _ _ _ _ _ _ _ _ _ _ _ _ _ B F X N T hk hd hu ret)

section
variable {prog : Program} {w : World} {A : Around} {E : Value → Shared → Prop} {s : Shared} {K : Frag} {x C dx L : Addr} {h₀ : Heap} {m : Str → Option Value} {l : Led} {sl : Array (Option Value)} {es es' : List DictEntry} {n n' : Nat} {name : Str} {v : Value}
theorem set_put {Q : Unit → Shared → Prop} (F : Fr h₀ L s.heap m) (X₀ : K.In h₀) (N : News h₀ L s.heap l) (hx : (x, (⟨.ref C, some dx, .plain, sl⟩ : Obj)) ∈ l) (hdx : (dx, dictOf es n) ∈ l)
    (hs : findIn K (.ref C) "__setattr__" = some (some (.builtin "object.__setattr__"))) (hp : plainOver K C = true) (ht : takerIn K C name = some none) (hh : hasDictIn K C = true) (hl : (getL name es).isSome = true)
    (e : (putL name (PyData.keyHash w.params name) (.str name (s.toks + 1)) v es, putN name es n) = (es', n')) (hz : es'.length ≤ 1000)
    (h : ∀ h', Fr h₀ L h' m → News h₀ L h' (put dx (dictOf es' n') l) → Q () { s with heap := h', toks := s.toks + 2 }) :
    wpAny (model prog w) A (setAttr (.ref x) name v) Q E s :=
  set_dict F X₀ (news_front N hdx) (InstAt.of_news N hx hdx) rfl hs hp ht hh hl e upd_put hz h
theorem append_put {D : Addr} {its : Array Value} {n : Nat} {x : Value} {Q : Value → Shared → Prop} (F : Fr h₀ L s.heap m) (N : News h₀ L s.heap l) (hm : (D, PySem.W.listOf its n) ∈ l)
    (hsz : its.size ≤ sizeLine) (h : ∀ h', Fr h₀ L h' m → News h₀ L h' (put D (PySem.W.listOf (its.push x) (n + 1)) l) → Q .none { s with heap := h' }) : wpAny (model prog w) A (call (.builtin "list.append") [.ref D, x]) Q E s :=
  append_K F (news_front N hm) upd_put h hsz
theorem pop_put {D : Addr} {p : List Value} {y : Value} {its : Array Value} {n : Nat} {Q : Value → Shared → Prop} (F : Fr h₀ L s.heap m) (N : News h₀ L s.heap l) (hm : (D, PySem.W.listOf its n) ∈ l) (e : its.toList = p ++ [y])
    (hz : its.toList.length ≤ sizeLine) (h : ∀ h', Fr h₀ L h' m → News h₀ L h' (put D (PySem.W.listOf p.toArray (n + 1)) l) → Q y { s with heap := h' }) : wpAny (model prog w) A (call (.builtin "list.pop") [.ref D]) Q E s :=
  kl_pop F (news_front N hm) (by rw [e]; exact kpa_last y p) upd_put hz h
end

end Mine
namespace Mine
section
abbrev PR : Program := PySem.Challenge.rw_pq0678_01.row.prog

/-- an object of the heap kept by the collector: its dict -/
abbrev obD (P : Params) (t : Nat → Tok) (i mk sz : Int) : Obj :=
  dictOf [⟨PyData.keyHash P (Str.ofString "number"), .str (Str.ofString "number") (t 0), .int i (t 3)⟩,
    ⟨PyData.keyHash P (Str.ofString "mark"), .str (Str.ofString "mark") (t 1), .int mk (t 4)⟩,
    ⟨PyData.keyHash P (Str.ofString "size"), .str (Str.ofString "size") (t 2), .int sz (t 5)⟩] 3

abbrev mkD (P : Params) (t : Nat → Tok) (ch so : Addr) (wh : Int) (gr ga we : Addr) : Obj :=
  dictOf [⟨PyData.keyHash P (Str.ofString "children"), .str (Str.ofString "children") (t 0), .ref ch⟩,
    ⟨PyData.keyHash P (Str.ofString "sort_of"), .str (Str.ofString "sort_of") (t 1), .ref so⟩,
    ⟨PyData.keyHash P (Str.ofString "white"), .str (Str.ofString "white") (t 2), .int wh (t 6)⟩,
    ⟨PyData.keyHash P (Str.ofString "grey"), .str (Str.ofString "grey") (t 3), .ref gr⟩,
    ⟨PyData.keyHash P (Str.ofString "grey_again"), .str (Str.ofString "grey_again") (t 4), .ref ga⟩,
    ⟨PyData.keyHash P (Str.ofString "weak"), .str (Str.ofString "weak") (t 5), .ref we⟩] 6

abbrev cyD (P : Params) (t : Nat → Tok) (od mk rl : Addr) (phase : Int) (ts : Addr) (total est debt thr cyc : Int) : Obj :=
  dictOf [⟨PyData.keyHash P (Str.ofString "objects"), .str (Str.ofString "objects") (t 0), .ref od⟩,
    ⟨PyData.keyHash P (Str.ofString "marks"), .str (Str.ofString "marks") (t 1), .ref mk⟩,
    ⟨PyData.keyHash P (Str.ofString "root_list"), .str (Str.ofString "root_list") (t 2), .ref rl⟩,
    ⟨PyData.keyHash P (Str.ofString "phase"), .str (Str.ofString "phase") (t 3), .int phase (t 14)⟩,
    ⟨PyData.keyHash P (Str.ofString "to_sweep"), .str (Str.ofString "to_sweep") (t 4), .ref ts⟩,
    ⟨PyData.keyHash P (Str.ofString "total"), .str (Str.ofString "total") (t 5), .int total (t 15)⟩,
    ⟨PyData.keyHash P (Str.ofString "estimate"), .str (Str.ofString "estimate") (t 6), .int est (t 16)⟩,
    ⟨PyData.keyHash P (Str.ofString "debt"), .str (Str.ofString "debt") (t 7), .int debt (t 17)⟩,
    ⟨PyData.keyHash P (Str.ofString "step_size"), .str (Str.ofString "step_size") (t 8), .int 64 (t 18)⟩,
    ⟨PyData.keyHash P (Str.ofString "sweep_max"), .str (Str.ofString "sweep_max") (t 9), .int 16 (t 19)⟩,
    ⟨PyData.keyHash P (Str.ofString "threshold"), .str (Str.ofString "threshold") (t 10), .int thr (t 20)⟩,
    ⟨PyData.keyHash P (Str.ofString "pause"), .str (Str.ofString "pause") (t 11), .int 200 (t 21)⟩,
    ⟨PyData.keyHash P (Str.ofString "step_mul"), .str (Str.ofString "step_mul") (t 12), .int 200 (t 22)⟩,
    ⟨PyData.keyHash P (Str.ofString "cycles"), .str (Str.ofString "cycles") (t 13), .int cyc (t 23)⟩] 14

def tkSet (t : Nat → Tok) (i : Nat) (k : Tok) : Nat → Tok := fun j => if j = i then k else t j

/-- the world as data -/
structure St where
  n : Nat
  mark : Nat → Int
  size : Nat → Int
  edges : Nat → List Nat
  roots : List Nat
  kept : List Nat
  white : Int
  grey : List Nat
  rlist : List Nat
  phase : Int
  sweep : List Nat
  total : Int
  est : Int
  debt : Int
  thr : Int
  cyc : Int

inductive Sl where
  | wd | al | ed | ro | cy | cd | od | mi | md | ch | so | chc | soc | ce | rl | ts | gr | ga | we
  | x (i : Nat) | d (i : Nat) | e (i : Nat)

structure Fix where
  wd : Addr
  al : Addr
  ed : Addr
  ro : Addr
  cy : Addr
  cd : Addr
  od : Addr
  mi : Addr
  md : Addr
  ch : Addr
  so : Addr
  chc : Addr
  soc : Addr
  ce : Addr
  x : Nat → Addr
  d : Nat → Addr
  e : Nat → Addr
  /-- what is in the row of all, and among the edges, ahead of its being taken in -/
  xal : List Addr
  xed : List (Int × Addr)

structure Mut where
  rl : Addr
  ts : Addr
  gr : Addr
  ga : Addr
  we : Addr

def Sl.at (f : Fix) (m : Mut) : Sl → Addr
  | .wd => f.wd | .al => f.al | .ed => f.ed | .ro => f.ro | .cy => f.cy | .cd => f.cd | .od => f.od | .mi => f.mi | .md => f.md
  | .ch => f.ch | .so => f.so | .chc => f.chc | .soc => f.soc | .ce => f.ce | .rl => m.rl | .ts => m.ts | .gr => m.gr | .ga => m.ga | .we => m.we
  | .x i => f.x i | .d i => f.d i | .e i => f.e i

def live (n : Nat) : Sl → Prop
  | .x i => 1 ≤ i ∧ i ≤ n
  | .d i => 1 ≤ i ∧ i ≤ n
  | .e i => 1 ≤ i ∧ i ≤ n
  | _ => True

def stmtOf (i : Nat) : Stmt := (PySem.Challenge.pw_pq0678_01.main.body[i]?).getD (Stmt.Pass default)
def defBody : Stmt → List Stmt
  | .FunctionDef _ _ b _ _ _ _ _ _ _ => b
  | _ => []
def callArgs : Stmt → List Expr
  | .Assign _ (.Call _ as _ _) _ => as
  | _ => []
def lamAt (k : Nat) : Expr := ((callArgs (((defBody (stmtOf 40))[1]?).getD (Stmt.Pass default)))[k]?).getD (.Constant .none 0 default)
def lamParams : Expr → Arguments
  | .Lambda a _ _ _ => a
  | _ => default
def lamBody : Expr → Expr
  | .Lambda _ b _ _ => b
  | e => e
def lamScope : Expr → Scope
  | .Lambda _ _ s _ => s
  | _ => default
abbrev lamQual : Str := Str.ofString "law" ++ Str.ofString ".<locals>." ++ Str.ofString "<lambda>"

abbrev zs (ns : List Nat) : List Int := ns.map fun i : Nat => (i : Int)
abbrev refs (f : Fix) (ns : List Nat) : List Value := ns.map fun i : Nat => Value.ref (f.x i)
def IsRefs (f : Fix) (ns : List Nat) (o : Obj) : Prop := ∃ ep, o = PySem.W.listOf (refs f ns).toArray ep
def IsNats (ns : List Nat) (o : Obj) : Prop := ∃ (t : Nat → Tok) (ep : Nat), o = PySem.W.listOf (ns.mapIdx fun j (i : Nat) => Value.int (i : Int) (t j)).toArray ep
def IsCode (q : Str) (o : Obj) : Prop := ∃ vs t, o.data = .fields vs ∧ vs[1]? = some (.str q t)

def what (w : World) (W : St) (f : Fix) (m : Mut) : Sl → Obj → Prop
  | .wd => fun o => o.IsDictOf (PySem.strKind PR w) [(Str.ofString "all", .ref f.al), (Str.ofString "edges", .ref f.ed), (Str.ofString "roots", .ref f.ro), (Str.ofString "heap", .ref f.cy)]
  | .al => fun o => ∃ ep, o = PySem.W.listOf (refs f (List.range' 1 W.n) ++ f.xal.map Value.ref).toArray ep
  | .ed => fun o => o.IsDictOf (PySem.intKind PR w) (((List.range' 1 W.n).map fun i : Nat => ((i : Int), Value.ref (f.e i))) ++ f.xed.map fun q => (q.1, Value.ref q.2))
  | .ro => IsNats W.roots
  | .cy => fun o => o = instObj 346 f.cd
  | .cd => fun o => ∃ t, o = cyD w.params t f.od f.mi m.rl W.phase m.ts W.total W.est W.debt W.thr W.cyc
  | .od => fun o => o.IsDictOf (PySem.intKind PR w) (W.kept.map fun i : Nat => ((i : Int), Value.ref (f.x i)))
  | .mi => fun o => o = instObj 136 f.md
  | .md => fun o => ∃ t, o = mkD w.params t f.ch f.so W.white m.gr m.ga m.we
  | .ch => fun o => ∃ pm ctv, o = kla_obj (Str.ofString "<lambda>") lamQual (lamParams (lamAt 0)) (lamBody (lamAt 0)) (lamScope (lamAt 0)) [(Str.ofString "world", f.ce)] pm f.chc ctv
  | .so => fun o => ∃ pm ctv, o = kla_obj (Str.ofString "<lambda>") lamQual (lamParams (lamAt 1)) (lamBody (lamAt 1)) (lamScope (lamAt 1)) [] pm f.soc ctv
  | .chc => IsCode lamQual
  | .soc => IsCode lamQual
  | .ce => fun o => o.data = .cell (some (.ref f.wd))
  | .rl => IsRefs f W.rlist
  | .ts => IsNats W.sweep
  | .gr => IsRefs f W.grey
  | .ga => IsRefs f []
  | .we => IsRefs f []
  | .x i => fun o => o = instObj 367 (f.d i)
  | .d i => fun o => ∃ t, o = obD w.params t (i : Int) (W.mark i) (W.size i)
  | .e i => IsNats (W.edges i)

structure Rep (w : World) (W : St) (f : Fix) (m : Mut) (l : Led) : Prop where
  has : ∀ s, live W.n s → ∃ o, (s.at f m, o) ∈ l ∧ what w W f m s o
  inj : ∀ s t, live W.n s → live W.n t → s.at f m = t.at f m → s = t
  lo : (f.od == sysModules) = false ∧ (f.ed == sysModules) = false ∧ (f.wd == sysModules) = false

theorem Rep.ne {w W f m l} (R : Rep w W f m l) {s t : Sl} (h : s ≠ t) (hs : live W.n s) (ht : live W.n t) : s.at f m ≠ t.at f m := fun e => h (R.inj s t hs ht e)

theorem Rep.put {w W W' f m l} (R : Rep w W f m l) (s : Sl) {o' : Obj} (hs : live W.n s) (hn : W'.n = W.n) (ho : what w W' f m s o')
    (hst : ∀ t, t ≠ s → live W.n t → ∀ o, what w W f m t o → what w W' f m t o) : Rep w W' f m (put (s.at f m) o' l) where
  has := fun t ht => by
    rw [hn] at ht
    by_cases h : t = s
    · subst h; exact ⟨o', mem_put_self, ho⟩
    · obtain ⟨o, hm, hw⟩ := R.has t ht
      exact ⟨o, mem_put_ne (R.ne h ht hs) hm, hst t h ht o hw⟩
  inj := fun s t hs ht => R.inj s t (hn ▸ hs) (hn ▸ ht)
  lo := R.lo

theorem Rep.mono {w W f m} {l l' : Led} (R : Rep w W f m l) (h : ∀ p ∈ l, p ∈ l') : Rep w W f m l' :=
  ⟨fun s hs => let ⟨o, hm, hw⟩ := R.has s hs; ⟨o, h _ hm, hw⟩, R.inj, R.lo⟩

/-- an address that the world does not use (the row of roots is never turned in place: it counts as beside the world) -/
def Off (n : Nat) (f : Fix) (m : Mut) (a : Addr) : Prop := ∀ s, live n s → s ≠ .rl → s.at f m ≠ a
/-- an object beside the world -/
def Loc (n : Nat) (f : Fix) (m : Mut) (l : Led) (a : Addr) (o : Obj) : Prop := (a, o) ∈ l ∧ Off n f m a
/-- what stands beside the world stays -/
def Keep (n : Nat) (f : Fix) (m : Mut) (l : Led) (n' : Nat) (f' : Fix) (m' : Mut) (l' : Led) : Prop :=
  ∀ a o, Loc n f m l a o → Loc n' f' m' l' a o
/-- the same, and it is not the new one -/
def KeepNew (b : Addr) (n : Nat) (f : Fix) (m : Mut) (l : Led) (n' : Nat) (f' : Fix) (m' : Mut) (l' : Led) : Prop :=
  ∀ a o, Loc n f m l a o → a ≠ b ∧ Loc n' f' m' l' a o
/-- what is not the one handed in stays -/
def KeepBut (b : Addr) (n : Nat) (f : Fix) (m : Mut) (l : Led) (n' : Nat) (f' : Fix) (m' : Mut) (l' : Led) : Prop :=
  ∀ a o, a ≠ b → Loc n f m l a o → Loc n' f' m' l' a o
theorem Keep.refl {n f m l} : Keep n f m l n f m l := fun _ _ h => h
theorem Keep.trans {n f m l n' f' m' l' n'' f'' m'' l''} (a : Keep n f m l n' f' m' l') (b : Keep n' f' m' l' n'' f'' m'' l'') : Keep n f m l n'' f'' m'' l'' :=
  fun x o h => b x o (a x o h)
theorem KeepNew.but {b n f m l n' f' m' l' n'' f'' m'' l''} (x : KeepNew b n f m l n' f' m' l') (y : KeepBut b n' f' m' l' n'' f'' m'' l'') : Keep n f m l n'' f'' m'' l'' :=
  fun a o h => y a o (x a o h).1 (x a o h).2
theorem KeepNew.keep {b n f m l n' f' m' l'} (x : KeepNew b n f m l n' f' m' l') : Keep n f m l n' f' m' l' := fun a o h => (x a o h).2
theorem KeepNew.after {b n f m l n' f' m' l' n'' f'' m'' l''} (x : KeepNew b n f m l n' f' m' l') (y : Keep n' f' m' l' n'' f'' m'' l'') : KeepNew b n f m l n'' f'' m'' l'' :=
  fun a o h => ⟨(x a o h).1, y a o (x a o h).2⟩
theorem Keep.put {n f m l} (s : Sl) {o' : Obj} (hs : live n s) (hr : s ≠ .rl := by nofun) : Keep n f m l n f m (put (s.at f m) o' l) :=
  fun _ _ h => ⟨mem_put_ne (fun e => h.2 s hs hr e.symm) h.1, h.2⟩
theorem Keep.more {n f m} {l l' : Led} (h : ∀ p ∈ l, p ∈ l') : Keep n f m l n f m l' := fun _ _ q => ⟨h _ q.1, q.2⟩
theorem Loc.mem {n f m l a o} (h : Loc n f m l a o) : (a, o) ∈ l := h.1
theorem Keep.loc {n f m l n' f' m' l' a o} (k : Keep n f m l n' f' m' l') (h : Loc n f m l a o) : Loc n' f' m' l' a o := k a o h
theorem KeepNew.loc {b n f m l n' f' m' l' a o} (k : KeepNew b n f m l n' f' m' l') (h : Loc n f m l a o) : Loc n' f' m' l' a o := (k a o h).2

theorem Rep.off {w W f m l} (R : Rep w W f m l) {a : Addr} (h : ∀ p ∈ l, p.1 ≠ a) : Off W.n f m a := fun s hs _ e => by
  obtain ⟨o, hm, _⟩ := R.has s hs
  exact h _ hm e
/-- a new object beside the world -/
theorem Rep.newN {w W f m l} (R : Rep w W f m l) {a : Addr} {o : Obj} (h : ∀ p ∈ l, p.1 ≠ a) :
    Rep w W f m ((a, o) :: l) ∧ Loc W.n f m ((a, o) :: l) a o ∧ KeepNew a W.n f m l W.n f m ((a, o) :: l) :=
  ⟨R.mono fun _ hp => .tail _ hp, ⟨.head _, R.off h⟩, fun _ _ hb => ⟨h _ hb.1, .tail _ hb.1, hb.2⟩⟩
theorem Rep.new {w W f m l} (R : Rep w W f m l) {a : Addr} {o : Obj} (h : ∀ p ∈ l, p.1 < a) :
    Rep w W f m ((a, o) :: l) ∧ Loc W.n f m ((a, o) :: l) a o ∧ KeepNew a W.n f m l W.n f m ((a, o) :: l) := R.newN fun p hp => Nat.ne_of_lt (h p hp)

/-- a slot of the world that moves to an object beside it; its holder is turned -/
theorem Rep.move {w W W' f m m' l} (R : Rep w W f m l) (s g : Sl) {a : Addr} {o o' : Obj} (hs : live W.n s) (hg : live W.n g) (hsg : s ≠ g) (hsr : s ≠ .rl) (hn : W'.n = W.n) (ha : Loc W.n f m l a o) (har : g ≠ .rl → a ≠ m.rl)
    (hga : g.at f m' = a) (hot : ∀ t, t ≠ g → t.at f m' = t.at f m) (ho : what w W' f m' s o') (hgo : what w W' f m' g o)
    (hst : ∀ t, t ≠ s → t ≠ g → live W.n t → ∀ o, what w W f m t o → what w W' f m' t o) :
    Rep w W' f m' (Mine.put (s.at f m) o' l) ∧ KeepBut a W.n f m l W'.n f m' (Mine.put (s.at f m) o' l) := by
  have hsa : a ≠ s.at f m := fun e => ha.2 s hs hsr e.symm
  have hou : ∀ u, u ≠ g → live W.n u → u.at f m ≠ a := fun u hu hl e => by
    by_cases h : u = .rl
    · subst h; exact har (fun q => hu q.symm) e.symm
    · exact ha.2 u hl h e
  refine ⟨⟨fun t ht => ?_, fun t u ht hu e => ?_, R.lo⟩, fun b _ hb hl => ⟨mem_put_ne (fun e => hl.2 s hs hsr e.symm) hl.1, fun t ht hr e => ?_⟩⟩
  · rw [hn] at ht
    by_cases h1 : t = s
    · subst h1; rw [hot t hsg]; exact ⟨o', mem_put_self, ho⟩
    · by_cases h2 : t = g
      · subst h2; rw [hga]; exact ⟨o, mem_put_ne hsa ha.1, hgo⟩
      · rw [hot t h2]
        obtain ⟨o₁, hm, hw⟩ := R.has t ht
        exact ⟨o₁, mem_put_ne (R.ne h1 ht hs) hm, hst t h1 h2 ht _ hw⟩
  · rw [hn] at ht hu
    by_cases h1 : t = g
    · by_cases h2 : u = g
      · rw [h1, h2]
      · rw [h1, hga, hot u h2] at e; exact absurd e.symm (hou u h2 hu)
    · by_cases h2 : u = g
      · rw [h2, hga, hot t h1] at e; exact absurd e (hou t h1 ht)
      · rw [hot t h1, hot u h2] at e; exact R.inj t u ht hu e
  · rw [hn] at ht
    by_cases h1 : t = g
    · rw [h1, hga] at e; exact hb e.symm
    · rw [hot t h1] at e; exact hl.2 t ht hr e

section
variable {w : World} {W : St} {f : Fix} {m : Mut} {l : Led}
theorem Rep.hmi (R : Rep w W f m l) : (f.mi, instObj 136 f.md) ∈ l := by obtain ⟨o, h, e⟩ := R.has .mi trivial; cases e; exact h
theorem Rep.hcy (R : Rep w W f m l) : (f.cy, instObj 346 f.cd) ∈ l := by obtain ⟨o, h, e⟩ := R.has .cy trivial; cases e; exact h
theorem Rep.hmd_ex (R : Rep w W f m l) : ∃ t, (f.md, mkD w.params t f.ch f.so W.white m.gr m.ga m.we) ∈ l := by
  obtain ⟨o, h, t, e⟩ := R.has .md trivial; cases e; exact ⟨_, h⟩
theorem Rep.hcd_ex (R : Rep w W f m l) : ∃ t, (f.cd, cyD w.params t f.od f.mi m.rl W.phase m.ts W.total W.est W.debt W.thr W.cyc) ∈ l := by
  obtain ⟨o, h, t, e⟩ := R.has .cd trivial
  exact ⟨t, e ▸ h⟩
theorem Rep.hx (R : Rep w W f m l) {i : Nat} (h1 : 1 ≤ i) (h2 : i ≤ W.n) : (f.x i, instObj 367 (f.d i)) ∈ l := by obtain ⟨o, h, e⟩ := R.has (.x i) ⟨h1, h2⟩; cases e; exact h
theorem Rep.hd_ex (R : Rep w W f m l) {i : Nat} (h1 : 1 ≤ i) (h2 : i ≤ W.n) : ∃ t, (f.d i, obD w.params t (i : Int) (W.mark i) (W.size i)) ∈ l := by
  obtain ⟨o, h, t, e⟩ := R.has (.d i) ⟨h1, h2⟩; cases e; exact ⟨_, h⟩
theorem Rep.hgr_ex (R : Rep w W f m l) : ∃ ep, (m.gr, PySem.W.listOf (refs f W.grey).toArray ep) ∈ l := by obtain ⟨o, h, ep, e⟩ := R.has .gr trivial; cases e; exact ⟨ep, h⟩
theorem Rep.hga_ex (R : Rep w W f m l) : ∃ ep, (m.ga, PySem.W.listOf #[] ep) ∈ l := by obtain ⟨o, h, ep, e⟩ := R.has .ga trivial; cases e; exact ⟨ep, h⟩
theorem Rep.hwe_ex (R : Rep w W f m l) : ∃ ep, (m.we, PySem.W.listOf #[] ep) ∈ l := by obtain ⟨o, h, ep, e⟩ := R.has .we trivial; cases e; exact ⟨ep, h⟩
theorem Rep.hrl_ex (R : Rep w W f m l) : ∃ ep, (m.rl, PySem.W.listOf (refs f W.rlist).toArray ep) ∈ l := by obtain ⟨o, h, ep, e⟩ := R.has .rl trivial; cases e; exact ⟨ep, h⟩
theorem Rep.hal_ex (R : Rep w W f m l) : ∃ ep, (f.al, PySem.W.listOf (refs f (List.range' 1 W.n) ++ f.xal.map Value.ref).toArray ep) ∈ l := by obtain ⟨o, h, ep, e⟩ := R.has .al trivial; cases e; exact ⟨ep, h⟩
theorem Rep.hro_ex (R : Rep w W f m l) : ∃ q : (Nat → Tok) × Nat, (f.ro, PySem.W.listOf (W.roots.mapIdx fun j (i : Nat) => Value.int (i : Int) (q.1 j)).toArray q.2) ∈ l := by obtain ⟨o, h, t, ep, e⟩ := R.has .ro trivial; cases e; exact ⟨(t, ep), h⟩
theorem Rep.hts_ex (R : Rep w W f m l) : ∃ q : (Nat → Tok) × Nat, (m.ts, PySem.W.listOf (W.sweep.mapIdx fun j (i : Nat) => Value.int (i : Int) (q.1 j)).toArray q.2) ∈ l := by obtain ⟨o, h, t, ep, e⟩ := R.has .ts trivial; cases e; exact ⟨(t, ep), h⟩
theorem Rep.he_ex (R : Rep w W f m l) {i : Nat} (h1 : 1 ≤ i) (h2 : i ≤ W.n) : ∃ q : (Nat → Tok) × Nat, (f.e i, PySem.W.listOf ((W.edges i).mapIdx fun j (i : Nat) => Value.int (i : Int) (q.1 j)).toArray q.2) ∈ l := by
  obtain ⟨o, h, t, ep, e⟩ := R.has (.e i) ⟨h1, h2⟩; cases e; exact ⟨(t, ep), h⟩
theorem Rep.hod_ex (R : Rep w W f m l) : ∃ o : Obj, (f.od, o) ∈ l ∧ o.IsDictOf (PySem.intKind PR w) (W.kept.map fun i : Nat => ((i : Int), Value.ref (f.x i))) := R.has .od trivial
theorem Rep.hed_ex (R : Rep w W f m l) : ∃ o : Obj, (f.ed, o) ∈ l ∧ o.IsDictOf (PySem.intKind PR w) (((List.range' 1 W.n).map fun i : Nat => ((i : Int), Value.ref (f.e i))) ++ f.xed.map fun q => (q.1, Value.ref q.2)) := R.has .ed trivial
theorem Rep.hwd_ex (R : Rep w W f m l) : ∃ o : Obj, (f.wd, o) ∈ l ∧ o.IsDictOf (PySem.strKind PR w) [(Str.ofString "all", .ref f.al), (Str.ofString "edges", .ref f.ed), (Str.ofString "roots", .ref f.ro), (Str.ofString "heap", .ref f.cy)] := R.has .wd trivial

noncomputable def Rep.tmd (R : Rep w W f m l) : Nat → Tok := Classical.choose R.hmd_ex
noncomputable def Rep.tcd (R : Rep w W f m l) : Nat → Tok := Classical.choose R.hcd_ex
noncomputable def Rep.td (R : Rep w W f m l) {i : Nat} (h1 : 1 ≤ i) (h2 : i ≤ W.n) : Nat → Tok := Classical.choose (R.hd_ex h1 h2)
noncomputable def Rep.egr (R : Rep w W f m l) : Nat := Classical.choose R.hgr_ex
noncomputable def Rep.ega (R : Rep w W f m l) : Nat := Classical.choose R.hga_ex
noncomputable def Rep.ewe (R : Rep w W f m l) : Nat := Classical.choose R.hwe_ex
noncomputable def Rep.erl (R : Rep w W f m l) : Nat := Classical.choose R.hrl_ex
noncomputable def Rep.eal (R : Rep w W f m l) : Nat := Classical.choose R.hal_ex
noncomputable def Rep.qro (R : Rep w W f m l) : (Nat → Tok) × Nat := Classical.choose R.hro_ex
noncomputable def Rep.qts (R : Rep w W f m l) : (Nat → Tok) × Nat := Classical.choose R.hts_ex
noncomputable def Rep.qe (R : Rep w W f m l) {i : Nat} (h1 : 1 ≤ i) (h2 : i ≤ W.n) : (Nat → Tok) × Nat := Classical.choose (R.he_ex h1 h2)
noncomputable def Rep.ood (R : Rep w W f m l) : Obj := Classical.choose R.hod_ex
noncomputable def Rep.oed (R : Rep w W f m l) : Obj := Classical.choose R.hed_ex
noncomputable def Rep.owd (R : Rep w W f m l) : Obj := Classical.choose R.hwd_ex
theorem Rep.hmd (R : Rep w W f m l) : (f.md, mkD w.params R.tmd f.ch f.so W.white m.gr m.ga m.we) ∈ l := Classical.choose_spec R.hmd_ex
theorem Rep.hcd (R : Rep w W f m l) : (f.cd, cyD w.params R.tcd f.od f.mi m.rl W.phase m.ts W.total W.est W.debt W.thr W.cyc) ∈ l := Classical.choose_spec R.hcd_ex
theorem Rep.hd (R : Rep w W f m l) {i : Nat} (h1 : 1 ≤ i) (h2 : i ≤ W.n) : (f.d i, obD w.params (R.td h1 h2) (i : Int) (W.mark i) (W.size i)) ∈ l := Classical.choose_spec (R.hd_ex h1 h2)
theorem Rep.hgr (R : Rep w W f m l) : (m.gr, PySem.W.listOf (refs f W.grey).toArray R.egr) ∈ l := Classical.choose_spec R.hgr_ex
theorem Rep.hga (R : Rep w W f m l) : (m.ga, PySem.W.listOf #[] R.ega) ∈ l := Classical.choose_spec R.hga_ex
theorem Rep.hwe (R : Rep w W f m l) : (m.we, PySem.W.listOf #[] R.ewe) ∈ l := Classical.choose_spec R.hwe_ex
theorem Rep.hrl (R : Rep w W f m l) : (m.rl, PySem.W.listOf (refs f W.rlist).toArray R.erl) ∈ l := Classical.choose_spec R.hrl_ex
theorem Rep.hal (R : Rep w W f m l) : (f.al, PySem.W.listOf (refs f (List.range' 1 W.n) ++ f.xal.map Value.ref).toArray R.eal) ∈ l := Classical.choose_spec R.hal_ex
theorem Rep.hro (R : Rep w W f m l) : (f.ro, PySem.W.listOf (W.roots.mapIdx fun j (i : Nat) => Value.int (i : Int) (R.qro.1 j)).toArray R.qro.2) ∈ l := Classical.choose_spec R.hro_ex
theorem Rep.hts (R : Rep w W f m l) : (m.ts, PySem.W.listOf (W.sweep.mapIdx fun j (i : Nat) => Value.int (i : Int) (R.qts.1 j)).toArray R.qts.2) ∈ l := Classical.choose_spec R.hts_ex
theorem Rep.he (R : Rep w W f m l) {i : Nat} (h1 : 1 ≤ i) (h2 : i ≤ W.n) : (f.e i, PySem.W.listOf ((W.edges i).mapIdx fun j (i : Nat) => Value.int (i : Int) ((R.qe h1 h2).1 j)).toArray (R.qe h1 h2).2) ∈ l := Classical.choose_spec (R.he_ex h1 h2)
theorem Rep.hod (R : Rep w W f m l) : (f.od, R.ood) ∈ l := (Classical.choose_spec R.hod_ex).1
theorem Rep.hed (R : Rep w W f m l) : (f.ed, R.oed) ∈ l := (Classical.choose_spec R.hed_ex).1
theorem Rep.hwd (R : Rep w W f m l) : (f.wd, R.owd) ∈ l := (Classical.choose_spec R.hwd_ex).1
theorem Rep.dod (R : Rep w W f m l) : R.ood.IsDictOf (PySem.intKind PR w) (W.kept.map fun i : Nat => ((i : Int), Value.ref (f.x i))) := (Classical.choose_spec R.hod_ex).2
theorem Rep.ded (R : Rep w W f m l) : R.oed.IsDictOf (PySem.intKind PR w) (((List.range' 1 W.n).map fun i : Nat => ((i : Int), Value.ref (f.e i))) ++ f.xed.map fun q => (q.1, Value.ref q.2)) := (Classical.choose_spec R.hed_ex).2
theorem Rep.dwd (R : Rep w W f m l) : R.owd.IsDictOf (PySem.strKind PR w) [(Str.ofString "all", .ref f.al), (Str.ofString "edges", .ref f.ed), (Str.ofString "roots", .ref f.ro), (Str.ofString "heap", .ref f.cy)] := (Classical.choose_spec R.hwd_ex).2
theorem Rep.hso_ex (R : Rep w W f m l) : ∃ q : Value × Value, (f.so, kla_obj (Str.ofString "<lambda>") lamQual (lamParams (lamAt 1)) (lamBody (lamAt 1)) (lamScope (lamAt 1)) [] q.1 f.soc q.2) ∈ l := by
  obtain ⟨o, h, pm, ctv, e⟩ := R.has .so trivial; cases e; exact ⟨(pm, ctv), h⟩
theorem Rep.hch_ex (R : Rep w W f m l) : ∃ q : Value × Value, (f.ch, kla_obj (Str.ofString "<lambda>") lamQual (lamParams (lamAt 0)) (lamBody (lamAt 0)) (lamScope (lamAt 0)) [(Str.ofString "world", f.ce)] q.1 f.chc q.2) ∈ l := by
  obtain ⟨o, h, pm, ctv, e⟩ := R.has .ch trivial; cases e; exact ⟨(pm, ctv), h⟩
noncomputable def Rep.qso (R : Rep w W f m l) : Value × Value := Classical.choose R.hso_ex
noncomputable def Rep.qch (R : Rep w W f m l) : Value × Value := Classical.choose R.hch_ex
theorem Rep.hso (R : Rep w W f m l) : (f.so, kla_obj (Str.ofString "<lambda>") lamQual (lamParams (lamAt 1)) (lamBody (lamAt 1)) (lamScope (lamAt 1)) [] R.qso.1 f.soc R.qso.2) ∈ l := Classical.choose_spec R.hso_ex
theorem Rep.hch (R : Rep w W f m l) : (f.ch, kla_obj (Str.ofString "<lambda>") lamQual (lamParams (lamAt 0)) (lamBody (lamAt 0)) (lamScope (lamAt 0)) [(Str.ofString "world", f.ce)] R.qch.1 f.chc R.qch.2) ∈ l := Classical.choose_spec R.hch_ex
theorem Rep.lrl (R : Rep w W f m l) : Loc W.n f m l m.rl (PySem.W.listOf (refs f W.rlist).toArray R.erl) :=
  ⟨R.hrl, fun s hs hr e => hr (R.inj s .rl hs trivial e)⟩
end
end
end Mine
namespace Mine
section
def St.setMark (W : St) (i : Nat) (v : Int) : St := { W with mark := fun j => if j = i then v else W.mark j }
def St.setWhite (W : St) (v : Int) : St := { W with white := v }
def St.setPhase (W : St) (v : Int) : St := { W with phase := v }
def St.setTotal (W : St) (v : Int) : St := { W with total := v }
def St.setEst (W : St) (v : Int) : St := { W with est := v }
def St.setDebt (W : St) (v : Int) : St := { W with debt := v }
def St.setThr (W : St) (v : Int) : St := { W with thr := v }
def St.setCyc (W : St) (v : Int) : St := { W with cyc := v }
def St.setGrey (W : St) (v : List Nat) : St := { W with grey := v }
def St.setSweep (W : St) (v : List Nat) : St := { W with sweep := v }
def St.setRlist (W : St) (v : List Nat) : St := { W with rlist := v }
def St.setRoots (W : St) (v : List Nat) : St := { W with roots := v }
def St.setKept (W : St) (v : List Nat) : St := { W with kept := v }
def St.setEdges (W : St) (i : Nat) (v : List Nat) : St := { W with edges := fun j => if j = i then v else W.edges j }
section
variable {w : World} {A : Around} {E : Value → Shared → Prop} {s : Shared} {L : Addr} {h₀ : Heap} {mF : Str → Option Value} {l : Led} {W : St} {f : Fix} {m : Mut} {i : Nat} {v : Int} {tk : Tok}
theorem w_set_mark {Q : Unit → Shared → Prop} (F : Fr h₀ L s.heap mF) (X : (Mine.k0.heap_1 w.params).In h₀) (N : News h₀ L s.heap l) (R : Rep w W f m l) (h1 : 1 ≤ i) (h2 : i ≤ W.n)
    (h : ∀ h' l', Fr h₀ L h' mF → News h₀ L h' l' → Rep w (W.setMark i v) f m l' → Keep W.n f m l (W.setMark i v).n f m l' → Q () { s with heap := h', toks := s.toks + 2 }) :
    wpAny (model PySem.Challenge.rw_pq0678_01.row.prog w) A (setAttr (.ref (f.x i)) (Str.ofString "mark") (.int v tk)) Q E s := by
  revert X; k_fill; intro X
  refine' set_put ?k1 ?k2 ?k3 ?k4 ?k5 ?k6 ?k7 ?k8 ?k9 ?k10 ?k11 ?k12 ?_; (case k1 => exact F); (case k2 => exact X); (case k3 => exact N); (case k4 => exact R.hx h1 h2); (case k5 => exact R.hd h1 h2); (case k6 => k_is); (case k7 => k_is); (case k8 => k_is); (case k9 => k_is); (case k10 => k_get); (case k11 => k_put); (case k12 => exact Nat.le_of_ble_eq_true rfl)
  intro h' F' N'
  refine h h' _ F' N' (R.put (.d i) ⟨h1, h2⟩ rfl ⟨tkSet (R.td h1 h2) 4 tk, ?_⟩ ?_) (Keep.put (.d i) ⟨h1, h2⟩)
  · simp only [St.setMark]; rfl
  · intro t ht hl o ho
    cases t <;> try exact ho
    rename_i j
    have hj : j ≠ i := fun e => ht (by rw [e])
    obtain ⟨t, ho⟩ := ho
    exact ⟨t, by rw [ho]; simp only [St.setMark, if_neg hj]⟩
theorem w_set_white {Q : Unit → Shared → Prop} (F : Fr h₀ L s.heap mF) (X : (Mine.k0.heap_1 w.params).In h₀) (N : News h₀ L s.heap l) (R : Rep w W f m l)
    (h : ∀ h' l', Fr h₀ L h' mF → News h₀ L h' l' → Rep w (W.setWhite v) f m l' → Keep W.n f m l (W.setWhite v).n f m l' → Q () { s with heap := h', toks := s.toks + 2 }) :
    wpAny (model PySem.Challenge.rw_pq0678_01.row.prog w) A (setAttr (.ref f.mi) (Str.ofString "white") (.int v tk)) Q E s := by
  revert X; k_fill; intro X
  refine' set_put ?k1 ?k2 ?k3 ?k4 ?k5 ?k6 ?k7 ?k8 ?k9 ?k10 ?k11 ?k12 ?_; (case k1 => exact F); (case k2 => exact X); (case k3 => exact N); (case k4 => exact R.hmi); (case k5 => exact R.hmd); (case k6 => k_is); (case k7 => k_is); (case k8 => k_is); (case k9 => k_is); (case k10 => k_get); (case k11 => k_put); (case k12 => exact Nat.le_of_ble_eq_true rfl)
  intro h' F' N'
  refine h h' _ F' N' (R.put .md trivial rfl ⟨tkSet R.tmd 6 tk, rfl⟩ ?_) (Keep.put .md trivial)
  intro t ht hl o ho
  cases t <;> first | exact ho | exact absurd rfl ht
theorem w_set_phase {Q : Unit → Shared → Prop} (F : Fr h₀ L s.heap mF) (X : (Mine.k0.heap_1 w.params).In h₀) (N : News h₀ L s.heap l) (R : Rep w W f m l)
    (h : ∀ h' l', Fr h₀ L h' mF → News h₀ L h' l' → Rep w (W.setPhase v) f m l' → Keep W.n f m l (W.setPhase v).n f m l' → Q () { s with heap := h', toks := s.toks + 2 }) :
    wpAny (model PySem.Challenge.rw_pq0678_01.row.prog w) A (setAttr (.ref f.cy) (Str.ofString "phase") (.int v tk)) Q E s := by
  revert X; k_fill; intro X
  refine' set_put ?k1 ?k2 ?k3 ?k4 ?k5 ?k6 ?k7 ?k8 ?k9 ?k10 ?k11 ?k12 ?_; (case k1 => exact F); (case k2 => exact X); (case k3 => exact N); (case k4 => exact R.hcy); (case k5 => exact R.hcd); (case k6 => k_is); (case k7 => k_is); (case k8 => k_is); (case k9 => k_is); (case k10 => k_get); (case k11 => k_put); (case k12 => exact Nat.le_of_ble_eq_true rfl)
  intro h' F' N'
  refine h h' _ F' N' (R.put .cd trivial rfl ⟨tkSet R.tcd 14 tk, rfl⟩ ?_) (Keep.put .cd trivial)
  intro t ht hl o ho
  cases t <;> first | exact ho | exact absurd rfl ht
theorem w_set_total {Q : Unit → Shared → Prop} (F : Fr h₀ L s.heap mF) (X : (Mine.k0.heap_1 w.params).In h₀) (N : News h₀ L s.heap l) (R : Rep w W f m l)
    (h : ∀ h' l', Fr h₀ L h' mF → News h₀ L h' l' → Rep w (W.setTotal v) f m l' → Keep W.n f m l (W.setTotal v).n f m l' → Q () { s with heap := h', toks := s.toks + 2 }) :
    wpAny (model PySem.Challenge.rw_pq0678_01.row.prog w) A (setAttr (.ref f.cy) (Str.ofString "total") (.int v tk)) Q E s := by
  revert X; k_fill; intro X
  refine' set_put ?k1 ?k2 ?k3 ?k4 ?k5 ?k6 ?k7 ?k8 ?k9 ?k10 ?k11 ?k12 ?_; (case k1 => exact F); (case k2 => exact X); (case k3 => exact N); (case k4 => exact R.hcy); (case k5 => exact R.hcd); (case k6 => k_is); (case k7 => k_is); (case k8 => k_is); (case k9 => k_is); (case k10 => k_get); (case k11 => k_put); (case k12 => exact Nat.le_of_ble_eq_true rfl)
  intro h' F' N'
  refine h h' _ F' N' (R.put .cd trivial rfl ⟨tkSet R.tcd 15 tk, rfl⟩ ?_) (Keep.put .cd trivial)
  intro t ht hl o ho
  cases t <;> first | exact ho | exact absurd rfl ht
theorem w_set_estimate {Q : Unit → Shared → Prop} (F : Fr h₀ L s.heap mF) (X : (Mine.k0.heap_1 w.params).In h₀) (N : News h₀ L s.heap l) (R : Rep w W f m l)
    (h : ∀ h' l', Fr h₀ L h' mF → News h₀ L h' l' → Rep w (W.setEst v) f m l' → Keep W.n f m l (W.setEst v).n f m l' → Q () { s with heap := h', toks := s.toks + 2 }) :
    wpAny (model PySem.Challenge.rw_pq0678_01.row.prog w) A (setAttr (.ref f.cy) (Str.ofString "estimate") (.int v tk)) Q E s := by
  revert X; k_fill; intro X
  refine' set_put ?k1 ?k2 ?k3 ?k4 ?k5 ?k6 ?k7 ?k8 ?k9 ?k10 ?k11 ?k12 ?_; (case k1 => exact F); (case k2 => exact X); (case k3 => exact N); (case k4 => exact R.hcy); (case k5 => exact R.hcd); (case k6 => k_is); (case k7 => k_is); (case k8 => k_is); (case k9 => k_is); (case k10 => k_get); (case k11 => k_put); (case k12 => exact Nat.le_of_ble_eq_true rfl)
  intro h' F' N'
  refine h h' _ F' N' (R.put .cd trivial rfl ⟨tkSet R.tcd 16 tk, rfl⟩ ?_) (Keep.put .cd trivial)
  intro t ht hl o ho
  cases t <;> first | exact ho | exact absurd rfl ht
theorem w_set_debt {Q : Unit → Shared → Prop} (F : Fr h₀ L s.heap mF) (X : (Mine.k0.heap_1 w.params).In h₀) (N : News h₀ L s.heap l) (R : Rep w W f m l)
    (h : ∀ h' l', Fr h₀ L h' mF → News h₀ L h' l' → Rep w (W.setDebt v) f m l' → Keep W.n f m l (W.setDebt v).n f m l' → Q () { s with heap := h', toks := s.toks + 2 }) :
    wpAny (model PySem.Challenge.rw_pq0678_01.row.prog w) A (setAttr (.ref f.cy) (Str.ofString "debt") (.int v tk)) Q E s := by
  revert X; k_fill; intro X
  refine' set_put ?k1 ?k2 ?k3 ?k4 ?k5 ?k6 ?k7 ?k8 ?k9 ?k10 ?k11 ?k12 ?_; (case k1 => exact F); (case k2 => exact X); (case k3 => exact N); (case k4 => exact R.hcy); (case k5 => exact R.hcd); (case k6 => k_is); (case k7 => k_is); (case k8 => k_is); (case k9 => k_is); (case k10 => k_get); (case k11 => k_put); (case k12 => exact Nat.le_of_ble_eq_true rfl)
  intro h' F' N'
  refine h h' _ F' N' (R.put .cd trivial rfl ⟨tkSet R.tcd 17 tk, rfl⟩ ?_) (Keep.put .cd trivial)
  intro t ht hl o ho
  cases t <;> first | exact ho | exact absurd rfl ht
theorem w_set_threshold {Q : Unit → Shared → Prop} (F : Fr h₀ L s.heap mF) (X : (Mine.k0.heap_1 w.params).In h₀) (N : News h₀ L s.heap l) (R : Rep w W f m l)
    (h : ∀ h' l', Fr h₀ L h' mF → News h₀ L h' l' → Rep w (W.setThr v) f m l' → Keep W.n f m l (W.setThr v).n f m l' → Q () { s with heap := h', toks := s.toks + 2 }) :
    wpAny (model PySem.Challenge.rw_pq0678_01.row.prog w) A (setAttr (.ref f.cy) (Str.ofString "threshold") (.int v tk)) Q E s := by
  revert X; k_fill; intro X
  refine' set_put ?k1 ?k2 ?k3 ?k4 ?k5 ?k6 ?k7 ?k8 ?k9 ?k10 ?k11 ?k12 ?_; (case k1 => exact F); (case k2 => exact X); (case k3 => exact N); (case k4 => exact R.hcy); (case k5 => exact R.hcd); (case k6 => k_is); (case k7 => k_is); (case k8 => k_is); (case k9 => k_is); (case k10 => k_get); (case k11 => k_put); (case k12 => exact Nat.le_of_ble_eq_true rfl)
  intro h' F' N'
  refine h h' _ F' N' (R.put .cd trivial rfl ⟨tkSet R.tcd 20 tk, rfl⟩ ?_) (Keep.put .cd trivial)
  intro t ht hl o ho
  cases t <;> first | exact ho | exact absurd rfl ht
theorem w_set_cycles {Q : Unit → Shared → Prop} (F : Fr h₀ L s.heap mF) (X : (Mine.k0.heap_1 w.params).In h₀) (N : News h₀ L s.heap l) (R : Rep w W f m l)
    (h : ∀ h' l', Fr h₀ L h' mF → News h₀ L h' l' → Rep w (W.setCyc v) f m l' → Keep W.n f m l (W.setCyc v).n f m l' → Q () { s with heap := h', toks := s.toks + 2 }) :
    wpAny (model PySem.Challenge.rw_pq0678_01.row.prog w) A (setAttr (.ref f.cy) (Str.ofString "cycles") (.int v tk)) Q E s := by
  revert X; k_fill; intro X
  refine' set_put ?k1 ?k2 ?k3 ?k4 ?k5 ?k6 ?k7 ?k8 ?k9 ?k10 ?k11 ?k12 ?_; (case k1 => exact F); (case k2 => exact X); (case k3 => exact N); (case k4 => exact R.hcy); (case k5 => exact R.hcd); (case k6 => k_is); (case k7 => k_is); (case k8 => k_is); (case k9 => k_is); (case k10 => k_get); (case k11 => k_put); (case k12 => exact Nat.le_of_ble_eq_true rfl)
  intro h' F' N'
  refine h h' _ F' N' (R.put .cd trivial rfl ⟨tkSet R.tcd 23 tk, rfl⟩ ?_) (Keep.put .cd trivial)
  intro t ht hl o ho
  cases t <;> first | exact ho | exact absurd rfl ht
theorem w_new_grey {Q : Unit → Shared → Prop} {a : Addr} {ns : List Nat} {ep : Nat} (F : Fr h₀ L s.heap mF) (X : (Mine.k0.heap_1 w.params).In h₀) (N : News h₀ L s.heap l) (R : Rep w W f m l) (ha : Loc W.n f m l a (PySem.W.listOf (refs f ns).toArray ep)) (har : a ≠ m.rl)
    (h : ∀ h' l', Fr h₀ L h' mF → News h₀ L h' l' → Rep w (W.setGrey ns) f { m with gr := a } l' → KeepBut a W.n f m l (W.setGrey ns).n f { m with gr := a } l' → Q () { s with heap := h', toks := s.toks + 2 }) :
    wpAny (model PySem.Challenge.rw_pq0678_01.row.prog w) A (setAttr (.ref f.mi) (Str.ofString "grey") (.ref a)) Q E s := by
  revert X; k_fill; intro X
  refine' set_put ?k1 ?k2 ?k3 ?k4 ?k5 ?k6 ?k7 ?k8 ?k9 ?k10 ?k11 ?k12 ?_; (case k1 => exact F); (case k2 => exact X); (case k3 => exact N); (case k4 => exact R.hmi); (case k5 => exact R.hmd); (case k6 => k_is); (case k7 => k_is); (case k8 => k_is); (case k9 => k_is); (case k10 => k_get); (case k11 => k_put); (case k12 => exact Nat.le_of_ble_eq_true rfl)
  intro h' F' N'
  obtain ⟨R', K'⟩ := R.move (W' := W.setGrey ns) (m' := { m with gr := a }) .md .gr trivial trivial nofun nofun rfl ha (fun _ => har) rfl (fun t ht => by cases t <;> first | rfl | exact absurd rfl ht) ⟨R.tmd, rfl⟩ ⟨ep, rfl⟩ (by
    intro t ht hg hl o ho
    cases t <;> first | exact ho | exact absurd rfl ht | exact absurd rfl hg)
  exact h h' _ F' N' R' K'
theorem w_new_grey_again {Q : Unit → Shared → Prop} {a : Addr} {ep : Nat} (F : Fr h₀ L s.heap mF) (X : (Mine.k0.heap_1 w.params).In h₀) (N : News h₀ L s.heap l) (R : Rep w W f m l) (ha : Loc W.n f m l a (PySem.W.listOf #[] ep)) (har : a ≠ m.rl)
    (h : ∀ h' l', Fr h₀ L h' mF → News h₀ L h' l' → Rep w (W) f { m with ga := a } l' → KeepBut a W.n f m l (W).n f { m with ga := a } l' → Q () { s with heap := h', toks := s.toks + 2 }) :
    wpAny (model PySem.Challenge.rw_pq0678_01.row.prog w) A (setAttr (.ref f.mi) (Str.ofString "grey_again") (.ref a)) Q E s := by
  revert X; k_fill; intro X
  refine' set_put ?k1 ?k2 ?k3 ?k4 ?k5 ?k6 ?k7 ?k8 ?k9 ?k10 ?k11 ?k12 ?_; (case k1 => exact F); (case k2 => exact X); (case k3 => exact N); (case k4 => exact R.hmi); (case k5 => exact R.hmd); (case k6 => k_is); (case k7 => k_is); (case k8 => k_is); (case k9 => k_is); (case k10 => k_get); (case k11 => k_put); (case k12 => exact Nat.le_of_ble_eq_true rfl)
  intro h' F' N'
  obtain ⟨R', K'⟩ := R.move (W' := W) (m' := { m with ga := a }) .md .ga trivial trivial nofun nofun rfl ha (fun _ => har) rfl (fun t ht => by cases t <;> first | rfl | exact absurd rfl ht) ⟨R.tmd, rfl⟩ ⟨ep, rfl⟩ (by
    intro t ht hg hl o ho
    cases t <;> first | exact ho | exact absurd rfl ht | exact absurd rfl hg)
  exact h h' _ F' N' R' K'
theorem w_new_weak {Q : Unit → Shared → Prop} {a : Addr} {ep : Nat} (F : Fr h₀ L s.heap mF) (X : (Mine.k0.heap_1 w.params).In h₀) (N : News h₀ L s.heap l) (R : Rep w W f m l) (ha : Loc W.n f m l a (PySem.W.listOf #[] ep)) (har : a ≠ m.rl)
    (h : ∀ h' l', Fr h₀ L h' mF → News h₀ L h' l' → Rep w (W) f { m with we := a } l' → KeepBut a W.n f m l (W).n f { m with we := a } l' → Q () { s with heap := h', toks := s.toks + 2 }) :
    wpAny (model PySem.Challenge.rw_pq0678_01.row.prog w) A (setAttr (.ref f.mi) (Str.ofString "weak") (.ref a)) Q E s := by
  revert X; k_fill; intro X
  refine' set_put ?k1 ?k2 ?k3 ?k4 ?k5 ?k6 ?k7 ?k8 ?k9 ?k10 ?k11 ?k12 ?_; (case k1 => exact F); (case k2 => exact X); (case k3 => exact N); (case k4 => exact R.hmi); (case k5 => exact R.hmd); (case k6 => k_is); (case k7 => k_is); (case k8 => k_is); (case k9 => k_is); (case k10 => k_get); (case k11 => k_put); (case k12 => exact Nat.le_of_ble_eq_true rfl)
  intro h' F' N'
  obtain ⟨R', K'⟩ := R.move (W' := W) (m' := { m with we := a }) .md .we trivial trivial nofun nofun rfl ha (fun _ => har) rfl (fun t ht => by cases t <;> first | rfl | exact absurd rfl ht) ⟨R.tmd, rfl⟩ ⟨ep, rfl⟩ (by
    intro t ht hg hl o ho
    cases t <;> first | exact ho | exact absurd rfl ht | exact absurd rfl hg)
  exact h h' _ F' N' R' K'
theorem w_new_root_list {Q : Unit → Shared → Prop} {a : Addr} {ns : List Nat} {ep : Nat} (F : Fr h₀ L s.heap mF) (X : (Mine.k0.heap_1 w.params).In h₀) (N : News h₀ L s.heap l) (R : Rep w W f m l) (ha : Loc W.n f m l a (PySem.W.listOf (refs f ns).toArray ep))
    (h : ∀ h' l', Fr h₀ L h' mF → News h₀ L h' l' → Rep w (W.setRlist ns) f { m with rl := a } l' → KeepBut a W.n f m l (W.setRlist ns).n f { m with rl := a } l' → Q () { s with heap := h', toks := s.toks + 2 }) :
    wpAny (model PySem.Challenge.rw_pq0678_01.row.prog w) A (setAttr (.ref f.cy) (Str.ofString "root_list") (.ref a)) Q E s := by
  revert X; k_fill; intro X
  refine' set_put ?k1 ?k2 ?k3 ?k4 ?k5 ?k6 ?k7 ?k8 ?k9 ?k10 ?k11 ?k12 ?_; (case k1 => exact F); (case k2 => exact X); (case k3 => exact N); (case k4 => exact R.hcy); (case k5 => exact R.hcd); (case k6 => k_is); (case k7 => k_is); (case k8 => k_is); (case k9 => k_is); (case k10 => k_get); (case k11 => k_put); (case k12 => exact Nat.le_of_ble_eq_true rfl)
  intro h' F' N'
  obtain ⟨R', K'⟩ := R.move (W' := W.setRlist ns) (m' := { m with rl := a }) .cd .rl trivial trivial nofun nofun rfl ha (fun q => absurd rfl q) rfl (fun t ht => by cases t <;> first | rfl | exact absurd rfl ht) ⟨R.tcd, rfl⟩ ⟨ep, rfl⟩ (by
    intro t ht hg hl o ho
    cases t <;> first | exact ho | exact absurd rfl ht | exact absurd rfl hg)
  exact h h' _ F' N' R' K'
theorem w_new_to_sweep {Q : Unit → Shared → Prop} {a : Addr} {ns : List Nat} {ep : Nat} (F : Fr h₀ L s.heap mF) (X : (Mine.k0.heap_1 w.params).In h₀) (N : News h₀ L s.heap l) (R : Rep w W f m l) {t : Nat → Tok} (ha : Loc W.n f m l a (PySem.W.listOf (ns.mapIdx fun j (i : Nat) => Value.int (i : Int) (t j)).toArray ep)) (har : a ≠ m.rl)
    (h : ∀ h' l', Fr h₀ L h' mF → News h₀ L h' l' → Rep w (W.setSweep ns) f { m with ts := a } l' → KeepBut a W.n f m l (W.setSweep ns).n f { m with ts := a } l' → Q () { s with heap := h', toks := s.toks + 2 }) :
    wpAny (model PySem.Challenge.rw_pq0678_01.row.prog w) A (setAttr (.ref f.cy) (Str.ofString "to_sweep") (.ref a)) Q E s := by
  revert X; k_fill; intro X
  refine' set_put ?k1 ?k2 ?k3 ?k4 ?k5 ?k6 ?k7 ?k8 ?k9 ?k10 ?k11 ?k12 ?_; (case k1 => exact F); (case k2 => exact X); (case k3 => exact N); (case k4 => exact R.hcy); (case k5 => exact R.hcd); (case k6 => k_is); (case k7 => k_is); (case k8 => k_is); (case k9 => k_is); (case k10 => k_get); (case k11 => k_put); (case k12 => exact Nat.le_of_ble_eq_true rfl)
  intro h' F' N'
  obtain ⟨R', K'⟩ := R.move (W' := W.setSweep ns) (m' := { m with ts := a }) .cd .ts trivial trivial nofun nofun rfl ha (fun _ => har) rfl (fun t ht => by cases t <;> first | rfl | exact absurd rfl ht) ⟨R.tcd, rfl⟩ ⟨t, ep, rfl⟩ (by
    intro t ht hg hl o ho
    cases t <;> first | exact ho | exact absurd rfl ht | exact absurd rfl hg)
  exact h h' _ F' N' R' K'
end
end
end Mine
namespace Mine
section
section
variable {w : World} {A : Around} {E : Value → Shared → Prop} {s : Shared} {L : Addr} {h₀ : Heap} {mF : Str → Option Value} {l : Led} {W : St} {f : Fix} {m : Mut} {i : Nat} {v : Int} {tk : Tok}
theorem sizeLine_ge {n : Nat} (h : n ≤ 10000000) : n ≤ sizeLine := by rw [sizeLine_eq]; omega
theorem w_newList {Q : Value → Shared → Prop} (F : Fr h₀ L s.heap mF) (N : News h₀ L s.heap l) (R : Rep w W f m l)
    (h : ∀ a h' l', Fr h₀ L h' mF → News h₀ L h' l' → Rep w W f m l' → Loc W.n f m l' a (PySem.W.listOf #[] 0) → KeepNew a W.n f m l W.n f m l' → a ≠ m.rl → Q (.ref a) { s with heap := h' }) :
    wpAny (model PySem.Challenge.rw_pq0678_01.row.prog w) A (newList []) Q E s :=
  newList_K F N fun a h' F' N' hl => let ⟨a1, a2, a3⟩ := R.new hl; h a h' _ F' N' a1 a2 a3 fun e => Nat.ne_of_lt (hl _ R.hrl) e.symm
theorem w_append_gr {Q : Value → Shared → Prop} (F : Fr h₀ L s.heap mF) (N : News h₀ L s.heap l) (R : Rep w W f m l) (hz : W.grey.length ≤ 1000)
    (h : ∀ h' l', Fr h₀ L h' mF → News h₀ L h' l' → Rep w (W.setGrey (W.grey ++ [i])) f m l' → Keep W.n f m l (W.setGrey (W.grey ++ [i])).n f m l' → Q .none { s with heap := h' }) :
    wpAny (model PySem.Challenge.rw_pq0678_01.row.prog w) A (call (.builtin "list.append") [.ref m.gr, .ref (f.x i)]) Q E s := by
  refine append_put F N R.hgr (sizeLine_ge (by simp; omega)) fun h' F' N' => h h' _ F' N' (R.put .gr trivial rfl ⟨R.egr + 1, ?_⟩ ?_) (Keep.put .gr trivial)
  · simp [St.setGrey, refs]
  · intro t ht hl o ho
    cases t <;> first | exact ho | exact absurd rfl ht
theorem w_pop_gr {Q : Value → Shared → Prop} {ns : List Nat} (F : Fr h₀ L s.heap mF) (N : News h₀ L s.heap l) (R : Rep w W f m l) (hz : W.grey.length ≤ 1000) (hg : W.grey = ns ++ [i])
    (h : ∀ h' l', Fr h₀ L h' mF → News h₀ L h' l' → Rep w (W.setGrey ns) f m l' → Keep W.n f m l (W.setGrey ns).n f m l' → Q (.ref (f.x i)) { s with heap := h' }) :
    wpAny (model PySem.Challenge.rw_pq0678_01.row.prog w) A (call (.builtin "list.pop") [.ref m.gr]) Q E s := by
  refine pop_put (p := refs f ns) F N R.hgr (by rw [hg]; simp [refs]) (sizeLine_ge (by simp; omega)) fun h' F' N' => h h' _ F' N' (R.put .gr trivial rfl ⟨_, rfl⟩ ?_) (Keep.put .gr trivial)
  intro t ht hl o ho
  cases t <;> first | exact ho | exact absurd rfl ht
theorem w_len_gr {Q : Value → Shared → Prop} (N : News h₀ L s.heap l) (R : Rep w W f m l) (hz : W.grey.length ≤ 1000) (h : Q (.int (W.grey.length : Int) (s.toks + 1)) { s with toks := s.toks + 1 + 1 }) :
    wpAny (model PySem.Challenge.rw_pq0678_01.row.prog w) A (call (.builtin "len") [.ref m.gr]) Q E s :=
  len_list (N.isList R.hgr) (by simp; omega) (by simpa using h)
theorem w_len_ts {Q : Value → Shared → Prop} (N : News h₀ L s.heap l) (R : Rep w W f m l) (hz : W.sweep.length ≤ 1000) (h : Q (.int (W.sweep.length : Int) (s.toks + 1)) { s with toks := s.toks + 1 + 1 }) :
    wpAny (model PySem.Challenge.rw_pq0678_01.row.prog w) A (call (.builtin "len") [.ref m.ts]) Q E s :=
  len_list (N.isList R.hts) (by simp; omega) (by simpa using h)
theorem w_len {Q : Value → Shared → Prop} {a : Addr} {its : List Value} {ep : Nat} (N : News h₀ L s.heap l) (hm : (a, PySem.W.listOf its.toArray ep) ∈ l) (hz : its.length ≤ 1000000) (h : Q (.int (its.length : Int) (s.toks + 1)) { s with toks := s.toks + 1 + 1 }) :
    wpAny (model PySem.Challenge.rw_pq0678_01.row.prog w) A (call (.builtin "len") [.ref a]) Q E s :=
  len_list (N.isList hm) (by simp; omega) (by simpa using h)
theorem w_newTuple {Q : Value → Shared → Prop} {vs : List Value} (F : Fr h₀ L s.heap mF) (N : News h₀ L s.heap l) (R : Rep w W f m l) (hz : vs.length ≤ 1000)
    (h : ∀ a h' l', Fr h₀ L h' mF → News h₀ L h' l' → Rep w W f m l' → Loc W.n f m l' a { cls := .type "tuple", data := .seq vs.toArray } → KeepNew a W.n f m l W.n f m l' → Q (.ref a) { s with heap := h' }) :
    wpAny (model PySem.Challenge.rw_pq0678_01.row.prog w) A (newTuple vs) Q E s :=
  newTuple_N F N (fun h' F' N' => let ⟨a1, a2, a3⟩ := R.new (fun p hp => Heap.lt_size (N p hp).1); h _ h' _ F' N' a1 a2 a3) (sizeLine_ge (by omega))
end
end
end Mine
namespace Mine
section
open PyProof.Rows.LCg
section
variable {prog : Program} {w : World} {A : Around} {E : Value → Shared → Prop} {s : Shared} {h₀ : Heap} {L : Addr} {m : Str → Option Value} {env : Env}
def EltEnd (h₀ : Heap) (L : Addr) (m : Str → Option Value) (lx : Led) (G : Value → Prop) (s : Shared) (y : Value) (s' : Shared) : Prop :=
  ∃ h' tk', s' = { s with heap := h', toks := tk' } ∧ Fr h₀ L h' m ∧ News h₀ L h' lx ∧ G y
theorem EltEnd.intro {h₀ : Heap} {L : Addr} {m : Str → Option Value} {lx : Led} {G : Value → Prop} {s : Shared} {y : Value} {h' : Heap} {tk' : Nat} (F : Fr h₀ L h' m) (N : News h₀ L h' lx) (g : G y) :
    EltEnd h₀ L m lx G s y { s with heap := h', toks := tk' } := ⟨_, _, rfl, F, N, g⟩
theorem rest_pure {elt : Expr} {x : Str} {scope : Scope} {cl : List (Str × Addr)} {S : Led → Prop} {Fin : List Value → Led → Prop} {l : Led} (vs : List Value) (G : Nat → Value → Prop) (hS : S l)
    (helt : ∀ j v C oC lx m₂ h tk (E' : Value → Shared → Prop), vs[j]? = some v → (∀ p ∈ l, p ∈ lx) → (C, oC) ∈ lx → NsObj oC m₂ → m₂ x = some v → Fr h₀ L h m → News h₀ L h lx →
      wpAny (model prog w) A (eval elt (compEnvC scope cl C env)) (fun y s' => ∃ h' tk', s' = { s with heap := h', toks := tk' } ∧ Fr h₀ L h' m ∧ News h₀ L h' lx ∧ G j y) E' { s with heap := h, toks := tk })
    (fin : ∀ ys : List Value, ys.length = vs.length → (∀ j y, ys[j]? = some y → G j y) → Fin ys l) :
    ∀ k i ys, i + k = vs.length → ys.length = i → (∀ j y, ys[j]? = some y → G j y) → CompRest prog w A h₀ L m env elt x scope cl s S (fun i v => vs.toArray[i]? = some v) Fin k i ys l
  | 0, i, ys, hk, hl, hG => CompRest.zero (fin ys (by omega) hG)
  | k + 1, i, ys, hk, hl, hG => CompRest.succ (by
      intro v I oI C oC D m₂ h tk E' hv hC hx F N off ne
      refine wpAny_mono (helt i v C oC _ m₂ h tk E' (by simpa using hv) (fun p hp => .tail _ (.tail _ (.tail _ hp))) (.tail _ (.head _)) hC hx F N) (fun y s' hy => ?_) fun _ _ e => e
      obtain ⟨h', tk', rfl, F', N', g⟩ := hy
      refine CompEnd.intro F' N' l (fun p hp => hp) off hS (rest_pure vs G hS helt fin k (i + 1) (ys ++ [y]) (by omega) (by simp; omega) ?_)
      intro j z hz
      by_cases hj : j < ys.length
      · rw [List.getElem?_append_left hj] at hz; exact hG j z hz
      · rw [List.getElem?_append_right (by omega)] at hz
        have : j = i := by
          have := (List.getElem?_eq_some_iff.mp hz).1
          simp at this; omega
        subst this
        rw [show j - ys.length = 0 by omega] at hz
        simp at hz; subst hz; exact g)

theorem src_pure {elt : Expr} {x : Str} {scope : Scope} {cl : List (Str × Addr)} {Fin : Shared → List Value → Led → Prop} {l : Led} {ax : Addr} {vs : List Value} {ep : Nat} (G : Nat → Value → Prop)
    (hh : A.handled = none) (F : Fr h₀ L s.heap m) (N : News h₀ L s.heap l) (hm : (ax, PySem.W.listOf vs.toArray ep) ∈ l) (hz : vs.length ≤ sizeLine)
    (helt : ∀ (s : Shared) j v C oC lx m₂ (E' : Value → Shared → Prop), vs[j]? = some v → (∀ p ∈ l, p ∈ lx) → (C, oC) ∈ lx → NsObj oC m₂ → m₂ x = some v → Fr h₀ L s.heap m → News h₀ L s.heap lx →
      wpAny (model prog w) A (eval elt (compEnvC scope cl C env)) (EltEnd h₀ L m lx (G j) s) E' s)
    (fin : ∀ s' ys, ys.length = vs.length → (∀ j y, ys[j]? = some y → G j y) → (∃ h', s' = { s with heap := h' }) → Fin s' ys l) :
    CompSrc prog w A h₀ L m env elt x scope cl Fin (.ref ax) s := by
  refine CompSrc.ledger hh F N hm (by simpa using hz) fun g => ?_
  have : vs.toArray.size = vs.length := by simp
  rw [this]
  exact rest_pure vs G (.inr ⟨_, hm, rfl, _, rfl⟩) (fun j v C oC lx m₂ h tk E' a b c d e f gN => by
    refine wpAny_mono (helt _ j v C oC lx m₂ E' a b c d e f gN) (fun y s' hy => ?_) fun _ _ e => e
    obtain ⟨h', tk', rfl, r⟩ := hy
    exact ⟨h', tk', rfl, r⟩) (fun ys a b => fin _ ys a b ⟨g, rfl⟩) vs.length 0 [] (by omega) rfl (by simp)
end
theorem mapIdx_ints {ns : List Nat} {t : Nat → Tok} {j : Nat} {v : Value} (h : (ns.mapIdx fun j (i : Nat) => Value.int (i : Int) (t j))[j]? = some v) : ∃ i, ns[j]? = some i ∧ v = .int (i : Int) (t j) := by
  rw [List.getElem?_mapIdx] at h
  obtain ⟨i, e, rfl⟩ := Option.map_eq_some_iff.mp h
  exact ⟨i, e, rfl⟩
theorem refs_of {f : Fix} {ns : List Nat} {ys : List Value} (hl : ys.length = ns.length) (h : ∀ (j : Nat) (y : Value), ys[j]? = some y → ∃ i, ns[j]? = some i ∧ y = .ref (f.x i)) : ys = refs f ns := by
  apply List.ext_getElem?
  intro j
  by_cases hj : j < ys.length
  · obtain ⟨i, e, q⟩ := h j _ (List.getElem?_eq_getElem hj)
    rw [List.getElem?_eq_getElem hj, q]
    simp [refs, e]
  · rw [List.getElem?_eq_none (by omega), List.getElem?_eq_none (by simp [refs]; omega)]
theorem off1_ne {D : Addr} : ∀ {l : Led}, LCg.Off1 D l → ∀ p ∈ l, p.1 ≠ D
  | [], _, _, h => nomatch h
  | _ :: _, x, p, h => by
    rcases List.mem_cons.mp h with rfl | h
    · exact x.1
    · exact off1_ne x.2 p h
end
end Mine
namespace Mine
section
open PyProof.Rows.LCg PyProof.Rows.LCt
section
variable {prog : Program} {w : World} {A : Around} {E : Value → Shared → Prop} {s : Shared} {h₀ : Heap} {L : Addr} {m : Str → Option Value} {env : Env}
/-- a test's end: it says no, and all stands -/
def NoEnd (h₀ : Heap) (L : Addr) (m : Str → Option Value) (lx : Led) (s : Shared) (ok : Bool) (s' : Shared) : Prop :=
  ok = false ∧ ∃ h' tk', s' = { s with heap := h', toks := tk' } ∧ Fr h₀ L h' m ∧ News h₀ L h' lx
theorem NoEnd.intro {h₀ : Heap} {L : Addr} {m : Str → Option Value} {lx : Led} {s : Shared} {h' : Heap} {tk' : Nat} (F : Fr h₀ L h' m) (N : News h₀ L h' lx) :
    NoEnd h₀ L m lx s false { s with heap := h', toks := tk' } := ⟨rfl, _, _, rfl, F, N⟩
theorem rest_none {ct elt : Expr} {x : Str} {scope : Scope} {cl : List (Str × Addr)} {S : Led → Prop} {Fin : List Value → Led → Prop} {l : Led} (vs : List Value) (hS : S l)
    (htest : ∀ (j : Nat) (v : Value) C oC lx m₂ h tk (E' : Value → Shared → Prop), vs[j]? = some v → (∀ p ∈ l, p ∈ lx) → (C, oC) ∈ lx → NsObj oC m₂ → m₂ x = some v → Fr h₀ L h m → News h₀ L h lx →
      wpAny (model prog w) A (isTrue ct (compEnvC scope cl C env) (eval ct (compEnvC scope cl C env))) (NoEnd h₀ L m lx { s with heap := h, toks := tk }) E' { s with heap := h, toks := tk })
    (fin : Fin [] l) : ∀ k i, i + k = vs.length → CompRestT prog w A h₀ L m env ct elt x scope cl s S (fun i v => vs.toArray[i]? = some v) Fin k i [] l
  | 0, i, hk => CompRestT.zero fin
  | k + 1, i, hk => CompRestT.succ (by
      intro v I oI C oC D m₂ h tk E' hv hC hx F N off ne
      refine wpAny_mono (htest i v C oC _ m₂ h tk E' (by simpa using hv) (fun p hp => .tail _ (.tail _ (.tail _ hp))) (.tail _ (.head _)) hC hx F N) (fun ok s' hy => ?_) fun _ _ e => e
      obtain ⟨rfl, h', tk', rfl, F', N'⟩ := hy
      simp only [Bool.false_eq_true, if_false]
      exact CompEnd.intro F' N' l (fun p hp => hp) off hS (rest_none vs hS htest fin k (i + 1) (by omega)))
theorem src_none {ct elt : Expr} {x : Str} {scope : Scope} {cl : List (Str × Addr)} {Fin : Shared → List Value → Led → Prop} {l : Led} {ax : Addr} {vs : List Value} {ep : Nat}
    (hh : A.handled = none) (F : Fr h₀ L s.heap m) (N : News h₀ L s.heap l) (hm : (ax, PySem.W.listOf vs.toArray ep) ∈ l) (hz : vs.length ≤ sizeLine)
    (htest : ∀ (s : Shared) (j : Nat) (v : Value) C oC lx m₂ (E' : Value → Shared → Prop), vs[j]? = some v → (∀ p ∈ l, p ∈ lx) → (C, oC) ∈ lx → NsObj oC m₂ → m₂ x = some v → Fr h₀ L s.heap m → News h₀ L s.heap lx →
      wpAny (model prog w) A (isTrue ct (compEnvC scope cl C env) (eval ct (compEnvC scope cl C env))) (NoEnd h₀ L m lx s) E' s)
    (fin : ∀ s', (∃ h', s' = { s with heap := h' }) → Fin s' [] l) :
    CompSrcT prog w A h₀ L m env ct elt x scope cl Fin (.ref ax) s := by
  refine CompSrcT.ledger hh F N hm (by simpa using hz) fun g => ?_
  have : vs.toArray.size = vs.length := by simp
  rw [this]
  exact rest_none vs (.inr ⟨_, hm, rfl, _, rfl⟩) (fun j v C oC lx m₂ h tk E' a b c d e f gN => htest _ j v C oC lx m₂ E' a b c d e f gN) (fin _ ⟨g, rfl⟩) vs.length 0 (by omega)
theorem rest_vals {K : Type} {kvs : List (K × Value)} {elt : Expr} {x : Str} {scope : Scope} {cl : List (Str × Addr)} {S : Led → Prop} {Fin : List Value → Led → Prop} {l : Led} (G : Nat → Value → Prop) (hS : S l)
    (helt : ∀ (s : Shared) (j : Nat) (k : K) (v : Value) C oC lx m₂ (E' : Value → Shared → Prop), kvs[j]? = some (k, v) → (∀ p ∈ l, p ∈ lx) → (C, oC) ∈ lx → NsObj oC m₂ → m₂ x = some v → Fr h₀ L s.heap m → News h₀ L s.heap lx →
      wpAny (model prog w) A (eval elt (compEnvC scope cl C env)) (EltEnd h₀ L m lx (G j) s) E' s)
    (fin : ∀ ys : List Value, ys.length = kvs.length → (∀ j y, ys[j]? = some y → G j y) → Fin ys l) :
    ∀ k i ys, i + k = kvs.length → ys.length = i → (∀ j y, ys[j]? = some y → G j y) → CompRest prog w A h₀ L m env elt x scope cl s S (fun i v => ∃ k, kvs[i]? = some (k, v)) Fin k i ys l
  | 0, i, ys, hk, hl, hG => CompRest.zero (fin ys (by omega) hG)
  | k + 1, i, ys, hk, hl, hG => CompRest.succ (by
      intro v I oI C oC D m₂ h tk E' hv hC hx F N off ne
      obtain ⟨kk, hv⟩ := hv
      refine wpAny_mono (helt { s with heap := h, toks := tk } i kk v C oC _ m₂ E' hv (fun p hp => .tail _ (.tail _ (.tail _ hp))) (.tail _ (.head _)) hC hx F N) (fun y s' hy => ?_) fun _ _ e => e
      obtain ⟨h', tk', rfl, F', N', g⟩ := hy
      refine CompEnd.intro F' N' l (fun p hp => hp) off hS (rest_vals G hS helt fin k (i + 1) (ys ++ [y]) (by omega) (by simp; omega) ?_)
      intro j z hz
      by_cases hj : j < ys.length
      · rw [List.getElem?_append_left hj] at hz; exact hG j z hz
      · rw [List.getElem?_append_right (by omega)] at hz
        have : j = i := by
          have := (List.getElem?_eq_some_iff.mp hz).1
          simp at this; omega
        subst this
        rw [show j - ys.length = 0 by omega] at hz
        simp at hz; subst hz; exact g)
/-- a list made over the values of a dict of the ledger -/
theorem ListComp_V {K : Type} [DecidableEq K] {knd : PySem.KeyKind prog w K} {elt iter : Expr} {x : Str} {px : Pos} {scope : Scope} {cl : List (Str × Addr)} {pos : Pos} {Q : Value → Shared → Prop} (_F₀ : Fr h₀ L s.heap m)
    (hclos : closureFor scope env = pure cl) (hcell : ∀ y ∈ scope.names, y.2 ≠ .cell) (hkind : scope.kind = .function)
    (hnames : ∀ y ∈ scope.names, y.2 = .local → scope.names.lookup y.1 = some .local) (hx : scope.names.lookup x = some .local)
    (h : wpAny (model prog w) A (eval iter env) (fun xv s₁ => ∃ a d o kvs l, xv = .ref a ∧ A.handled = none ∧ Fr h₀ L s₁.heap m ∧ News h₀ L s₁.heap l ∧ s₁.heap.IsValuesView a d ∧ (d, o) ∈ l ∧ o.IsDictOf knd kvs ∧ kvs.length ≤ sizeLine ∧
      ∀ s₂ : Shared, (∃ h, s₂ = { s₁ with heap := h }) → CompRest prog w A h₀ L m env elt x scope cl s₂ (fun nw => (d, o) ∈ nw) (fun i v => ∃ k, kvs[i]? = some (k, v)) (FinE h₀ L m s₂ Q) kvs.length 0 [] l) E s)
    (hs : ∀ x, foldedSetIterable iter env x = pure x := by intro _; rfl) :
    wpAny (model prog w) A (eval (.ListComp elt [⟨.Name x px, iter, [], 0⟩] scope pos) env) Q E s := by
  rw [eval_ListComp]
  refine wpAny_comprehension_free (use := none) rfl hs hclos hkind hnames (wpAny_mono h (fun xv s₁ h₁ => ?_) fun _ _ e => e)
  obtain ⟨a, d, o, kvs, l, rfl, hh, F, N, hv, hm, hd, hsz, R⟩ := h₁
  obtain ⟨ep, hD⟩ := (kda_dict N hm hd).dictAt
  have hlt : d < s₁.heap.objs.size := Heap.lt_size (N _ hm).1
  have up : ∀ b o, s₁.heap.get? b = some o → (s₁.heap.push { cls := .type "dict_valueiterator", data := .fields #[.ref d, .int 0 0, .int kvs.length 0, .int ep 0] }).get? b = some o := fun b o e => Heap.get?_push_of_some _ e
  refine wpAny_pyIter_values hv hD ?_
  refine block_U (Walks.dictValues (knd := knd) hh s₁.heap.objs.size d (Nat.ne_of_lt hlt) kvs ep) hsz (fun i h st => by obtain ⟨o, e, _⟩ := st.1; exact ⟨o, e⟩)
    (fun i h h' o' nw st e e' _ N' S => ⟨st.1.at fun o'' q => by rw [e] at q; rw [e']; exact q, hD.at' fun o'' q => by rw [(N _ hm).1] at q; rw [← q]; exact (N' _ S).1⟩) hcell hkind hx ⟨⟨_, Heap.get?_push_size _ rfl, rfl, rfl⟩, hD.at' fun o e => up _ o e⟩ (fun b hb => ?_)
    (F.keeps up) (N.grown up) (Nat.ne_of_lt F.ns.lt) (next_is_new F) (fun p hp => Nat.ne_of_lt (Heap.lt_size (N p hp).1)) hm (R _ ⟨_, rfl⟩) ?_
  · show b < (s₁.heap.push _).objs.size
    rw [Heap.size_push]
    rcases List.mem_cons.mp hb with rfl | hb
    · exact Nat.lt_succ_self _
    · rw [List.mem_singleton.mp hb]; exact Nat.lt_succ_of_lt hlt
  · intro D C h tk m' ys news' F' N' o1 hn hC₀ hD₀ hCL hDL hCD offC fin
    refine ⟨m', hn, fun h'' hs'' => fin D h'' tk (F'.change hs'' hCL hC₀) (fun p hp => ?_) o1⟩
    refine ⟨hs''.extBut _ _ ?_ (N' p hp).1, (N' p hp).2⟩
    rcases List.mem_cons.mp hp with rfl | hp
    · exact Ne.symm hCD
    · exact offC p hp
end
end
end Mine
namespace Mine
section
section
variable {w : World} {A : Around} {E : Value → Shared → Prop} {s : Shared} {L : Addr} {h₀ : Heap} {mF : Str → Option Value} {l : Led} {W : St} {f : Fix} {m : Mut} {i : Nat} {v : Int} {tk : Tok}
theorem valueAt_nats (g : Nat → Value) : ∀ {ns : List Nat} {i : Nat}, i ∈ ns → valueAt (ns.map fun i : Nat => ((i : Int), g i)) (i : Int) = some (g i)
  | a :: r, i, h => by
    unfold valueAt
    rw [List.map_cons, List.find?_cons]
    by_cases e : a = i
    · subst e; simp
    · have e' : ¬ ((a : Int) = (i : Int)) := by omega
      simp only [e', decide_false]
      exact valueAt_nats g ((List.mem_cons.mp h).resolve_left fun q => e q.symm)
theorem valueAt_none (g : Nat → Value) : ∀ {ns : List Nat} {i : Nat}, i ∉ ns → valueAt (ns.map fun i : Nat => ((i : Int), g i)) (i : Int) = none
  | [], _, _ => rfl
  | a :: r, i, h => by
    unfold valueAt
    rw [List.map_cons, List.find?_cons]
    have e' : ¬ ((a : Int) = (i : Int)) := fun e => h (by rw [show i = a by omega]; exact .head _)
    simp only [e', decide_false]
    exact valueAt_none g fun q => h (.tail _ q)
theorem valueAt_app {kvs kvs' : List (Int × Value)} {k : Int} {v : Value} (h : valueAt kvs k = some v) : valueAt (kvs ++ kvs') k = some v := by
  unfold valueAt at h ⊢
  obtain ⟨q, e, r⟩ := Option.map_eq_some_iff.mp h
  rw [List.find?_append, e]
  exact congrArg some r
theorem w_wd {value slice : PySem.Expr} {Q : Value → Shared → Prop} {x : Str} {a : Addr} (N : News h₀ L s.heap l) (R : Rep w W f m l)
    (hl : valueAt [(Str.ofString "all", Value.ref f.al), (Str.ofString "edges", .ref f.ed), (Str.ofString "roots", .ref f.ro), (Str.ofString "heap", .ref f.cy)] x = some (.ref a))
    (hs : subscripted slice false (.ref f.wd) (.str x tk) = operate [.ref f.wd, .str x tk] (getItem (.ref f.wd) (.str x tk))) (hg : ∀ r, letTemporaryGo value (.ref f.wd) r = pure ())
    (h : Q (.ref a) { s with toks := s.toks + 1 }) :
    wpAny (model PySem.Challenge.rw_pq0678_01.row.prog w) A (subscriptTail value slice (.ref f.wd) (.str x tk)) Q E s :=
  kda_item (knd := PySem.strKind _ _) N R.hwd R.dwd (strKind_is _ _ _ _) hl h hs hg
theorem w_ed {value slice : PySem.Expr} {Q : Value → Shared → Prop} (N : News h₀ L s.heap l) (R : Rep w W f m l) (h1 : 1 ≤ i) (h2 : i ≤ W.n)
    (hs : subscripted slice false (.ref f.ed) (.int (i : Int) tk) = operate [.ref f.ed, .int (i : Int) tk] (getItem (.ref f.ed) (.int (i : Int) tk))) (hg : ∀ r, letTemporaryGo value (.ref f.ed) r = pure ())
    (h : Q (.ref (f.e i)) { s with toks := s.toks + 1 }) :
    wpAny (model PySem.Challenge.rw_pq0678_01.row.prog w) A (subscriptTail value slice (.ref f.ed) (.int (i : Int) tk)) Q E s :=
  kda_item (knd := PySem.intKind _ _) N R.hed R.ded (intKind_is _ _ _ _) (valueAt_app (valueAt_nats (fun i => .ref (f.e i)) (List.mem_range'_1.mpr ⟨h1, by omega⟩))) h hs hg
theorem w_al {value slice : PySem.Expr} {Q : Value → Shared → Prop} {k : Int} (N : News h₀ L s.heap l) (R : Rep w W f m l) (h1 : 1 ≤ i) (h2 : i ≤ W.n) (hn : W.n ≤ 1000) (hk : k = (i : Int) - 1)
    (hs : subscripted slice false (.ref f.al) (.int k tk) = operate [.ref f.al, .int k tk] (getItem (.ref f.al) (.int k tk)))
    (h : Q (.ref (f.x i)) s) :
    wpAny (model PySem.Challenge.rw_pq0678_01.row.prog w) A (subscriptTail value slice (.ref f.al) (.int k tk)) Q E s := by
  have hL : s.heap.IsList f.al (refs f (List.range' 1 W.n) ++ f.xal.map Value.ref).toArray := N.isList R.hal
  refine tail_any hL.typeIs slot_list_getitem.lookup (wpAny_getItem_list hL (by omega) (by omega) ?_ h) hs
  have e : k.toNat = i - 1 := by omega
  rw [e]
  rw [List.getElem?_toArray, List.getElem?_append_left (by simp; omega)]
  simp only [refs, List.getElem?_map]
  rw [List.getElem?_range' (show i - 1 < W.n by omega)]
  show some (Value.ref (f.x (1 + 1 * (i - 1)))) = _
  rw [show 1 + 1 * (i - 1) = i by omega]
end
end
end Mine
namespace Mine
section
section
variable {w : World} {A : Around} {E : Value → Shared → Prop} {s : Shared} {L : Addr} {h₀ : Heap} {mF : Str → Option Value} {l : Led} {W : St} {f : Fix} {m : Mut} {i : Nat} {v : Int} {tk : Tok}
theorem mem_put2 {d : Addr} {o o' : Obj} {l : Led} {b : Addr} {ob : Obj} (h : b ≠ d) (hm : (b, ob) ∈ l) : (b, ob) ∈ put d o' (put d o l) := mem_put_ne h (mem_put_ne h hm)
/-- between the two stores of a rotation -/
structure Half_we (w : World) (W : St) (f : Fix) (m : Mut) (a : Addr) (l₀ l' : Led) : Prop where
  R : Rep w W f m l₀
  ha : ∃ ep, Loc W.n f m l₀ a (PySem.W.listOf #[] ep)
  ne : a ≠ m.rl
  g : W.grey = []
  e : ∃ t, l' = put f.md (mkD w.params t f.ch f.so W.white m.we m.ga m.we) l₀
theorem Half_we.done {a : Addr} {l' : Led} (H : Half_we w W f m a l l') (t : Nat → Tok) :
    Rep w W f { m with gr := m.we, we := a } (put f.md (mkD w.params t f.ch f.so W.white m.we m.ga a) l') ∧ KeepBut a W.n f m l W.n f { m with gr := m.we, we := a } (put f.md (mkD w.params t f.ch f.so W.white m.we m.ga a) l') := by
  obtain ⟨R, ⟨ep, ha⟩, ne, hg, t0, rfl⟩ := H
  have hoff : ∀ s, live W.n s → s.at f m ≠ a := fun s hs e => by
    by_cases h : s = .rl
    · subst h; exact ne e.symm
    · exact ha.2 s hs h e
  have hmd : ∀ s, live W.n s → s ≠ .md → s.at f m ≠ f.md := fun s hs h => R.ne (t := .md) h hs trivial
  have hamd : a ≠ f.md := fun e => hoff .md trivial e.symm
  refine ⟨⟨fun s hs => ?_, fun s u hs hu e => ?_, R.lo⟩, fun b ob hb hl => ⟨mem_put2 (fun e => hl.2 .md trivial nofun e.symm) hl.1, fun s hs hr e => ?_⟩⟩
  · cases s
    case md => exact ⟨_, mem_put_self, t, rfl⟩
    case gr => exact ⟨_, mem_put2 (hmd .we trivial nofun) R.hwe, _, by rw [hg]; rfl⟩
    case we => exact ⟨_, mem_put2 hamd ha.1, ep, rfl⟩
    all_goals
      obtain ⟨o, hm, hw⟩ := R.has _ hs
      exact ⟨o, mem_put2 (hmd _ hs nofun) hm, hw⟩
  · have k : ∀ s, live W.n s → (s.at f { m with gr := m.we, we := a } = a ∧ s = .we) ∨ (∃ s', live W.n s' ∧ s' ≠ .gr ∧ s.at f { m with gr := m.we, we := a } = s'.at f m ∧ ((s = .gr ∧ s' = .we) ∨ (s ≠ .gr ∧ s ≠ .we ∧ s' = s))) := fun s hs => by
      cases s
      case gr => exact .inr ⟨.we, trivial, nofun, rfl, .inl ⟨rfl, rfl⟩⟩
      case we => exact .inl ⟨rfl, rfl⟩
      all_goals exact .inr ⟨_, hs, nofun, rfl, .inr ⟨nofun, nofun, rfl⟩⟩
    rcases k s hs with ⟨e1, rfl⟩ | ⟨s', hs', _, e1, c1⟩
    · rcases k u hu with ⟨e2, rfl⟩ | ⟨u', hu', _, e2, c2⟩
      · rfl
      · rw [e1, e2] at e; exact absurd e.symm (hoff u' hu')
    · rcases k u hu with ⟨e2, rfl⟩ | ⟨u', hu', _, e2, c2⟩
      · rw [e1, e2] at e; exact absurd e (hoff s' hs')
      · rw [e1, e2] at e
        have q := R.inj s' u' hs' hu' e
        subst q
        rcases c1 with ⟨rfl, rfl⟩ | ⟨a1, a2, rfl⟩
        · rcases c2 with ⟨rfl, _⟩ | ⟨b1, b2, rfl⟩
          · rfl
          · exact absurd rfl b2
        · rcases c2 with ⟨rfl, rfl⟩ | ⟨b1, b2, rfl⟩
          · exact absurd rfl a2
          · rfl
  · cases s
    case gr => exact hl.2 .we trivial nofun e
    case we => exact hb e.symm
    all_goals exact hl.2 _ hs hr e
theorem w_swap1_we {Q : Unit → Shared → Prop} {a : Addr} {ep : Nat} (F : Fr h₀ L s.heap mF) (X : (Mine.k0.heap_1 w.params).In h₀) (N : News h₀ L s.heap l) (R : Rep w W f m l) (ha : Loc W.n f m l a (PySem.W.listOf #[] ep)) (har : a ≠ m.rl) (hg : W.grey = [])
    (h : ∀ h' l', Fr h₀ L h' mF → News h₀ L h' l' → Half_we w W f m a l l' → Q () { s with heap := h', toks := s.toks + 2 }) :
    wpAny (model PySem.Challenge.rw_pq0678_01.row.prog w) A (setAttr (.ref f.mi) (Str.ofString "grey") (.ref m.we)) Q E s := by
  revert X; k_fill; intro X
  refine' set_put ?k1 ?k2 ?k3 ?k4 ?k5 ?k6 ?k7 ?k8 ?k9 ?k10 ?k11 ?k12 ?_; (case k1 => exact F); (case k2 => exact X); (case k3 => exact N); (case k4 => exact R.hmi); (case k5 => exact R.hmd); (case k6 => k_is); (case k7 => k_is); (case k8 => k_is); (case k9 => k_is); (case k10 => k_get); (case k11 => k_put); (case k12 => exact Nat.le_of_ble_eq_true rfl)
  intro h' F' N'
  exact h h' _ F' N' ⟨R, ⟨ep, ha⟩, har, hg, _, rfl⟩
theorem w_swap2_we {Q : Unit → Shared → Prop} {a : Addr} {l' : Led} (F : Fr h₀ L s.heap mF) (X : (Mine.k0.heap_1 w.params).In h₀) (N : News h₀ L s.heap l') (H : Half_we w W f m a l l')
    (h : ∀ h' l'', Fr h₀ L h' mF → News h₀ L h' l'' → Rep w W f { m with gr := m.we, we := a } l'' → KeepBut a W.n f m l W.n f { m with gr := m.we, we := a } l'' → Q () { s with heap := h', toks := s.toks + 2 }) :
    wpAny (model PySem.Challenge.rw_pq0678_01.row.prog w) A (setAttr (.ref f.mi) (Str.ofString "weak") (.ref a)) Q E s := by
  obtain ⟨t0, e0⟩ := H.e
  have hmi : (f.mi, instObj 136 f.md) ∈ l' := by rw [e0]; exact mem_put_ne (H.R.ne (s := .mi) (t := .md) nofun trivial trivial) H.R.hmi
  have hmd : (f.md, mkD w.params t0 f.ch f.so W.white m.we m.ga m.we) ∈ l' := by rw [e0]; exact mem_put_self
  revert X; k_fill; intro X
  refine' set_put ?k1 ?k2 ?k3 ?k4 ?k5 ?k6 ?k7 ?k8 ?k9 ?k10 ?k11 ?k12 ?_; (case k1 => exact F); (case k2 => exact X); (case k3 => exact N); (case k4 => exact hmi); (case k5 => exact hmd); (case k6 => k_is); (case k7 => k_is); (case k8 => k_is); (case k9 => k_is); (case k10 => k_get); (case k11 => k_put); (case k12 => exact Nat.le_of_ble_eq_true rfl)
  intro h' F' N'
  obtain ⟨R', K'⟩ := H.done t0
  exact h h' _ F' N' R' K'
/-- between the two stores of a rotation -/
structure Half_ga (w : World) (W : St) (f : Fix) (m : Mut) (a : Addr) (l₀ l' : Led) : Prop where
  R : Rep w W f m l₀
  ha : ∃ ep, Loc W.n f m l₀ a (PySem.W.listOf #[] ep)
  ne : a ≠ m.rl
  g : W.grey = []
  e : ∃ t, l' = put f.md (mkD w.params t f.ch f.so W.white m.ga m.ga m.we) l₀
theorem Half_ga.done {a : Addr} {l' : Led} (H : Half_ga w W f m a l l') (t : Nat → Tok) :
    Rep w W f { m with gr := m.ga, ga := a } (put f.md (mkD w.params t f.ch f.so W.white m.ga a m.we) l') ∧ KeepBut a W.n f m l W.n f { m with gr := m.ga, ga := a } (put f.md (mkD w.params t f.ch f.so W.white m.ga a m.we) l') := by
  obtain ⟨R, ⟨ep, ha⟩, ne, hg, t0, rfl⟩ := H
  have hoff : ∀ s, live W.n s → s.at f m ≠ a := fun s hs e => by
    by_cases h : s = .rl
    · subst h; exact ne e.symm
    · exact ha.2 s hs h e
  have hmd : ∀ s, live W.n s → s ≠ .md → s.at f m ≠ f.md := fun s hs h => R.ne (t := .md) h hs trivial
  have hamd : a ≠ f.md := fun e => hoff .md trivial e.symm
  refine ⟨⟨fun s hs => ?_, fun s u hs hu e => ?_, R.lo⟩, fun b ob hb hl => ⟨mem_put2 (fun e => hl.2 .md trivial nofun e.symm) hl.1, fun s hs hr e => ?_⟩⟩
  · cases s
    case md => exact ⟨_, mem_put_self, t, rfl⟩
    case gr => exact ⟨_, mem_put2 (hmd .ga trivial nofun) R.hga, _, by rw [hg]; rfl⟩
    case ga => exact ⟨_, mem_put2 hamd ha.1, ep, rfl⟩
    all_goals
      obtain ⟨o, hm, hw⟩ := R.has _ hs
      exact ⟨o, mem_put2 (hmd _ hs nofun) hm, hw⟩
  · have k : ∀ s, live W.n s → (s.at f { m with gr := m.ga, ga := a } = a ∧ s = .ga) ∨ (∃ s', live W.n s' ∧ s' ≠ .gr ∧ s.at f { m with gr := m.ga, ga := a } = s'.at f m ∧ ((s = .gr ∧ s' = .ga) ∨ (s ≠ .gr ∧ s ≠ .ga ∧ s' = s))) := fun s hs => by
      cases s
      case gr => exact .inr ⟨.ga, trivial, nofun, rfl, .inl ⟨rfl, rfl⟩⟩
      case ga => exact .inl ⟨rfl, rfl⟩
      all_goals exact .inr ⟨_, hs, nofun, rfl, .inr ⟨nofun, nofun, rfl⟩⟩
    rcases k s hs with ⟨e1, rfl⟩ | ⟨s', hs', _, e1, c1⟩
    · rcases k u hu with ⟨e2, rfl⟩ | ⟨u', hu', _, e2, c2⟩
      · rfl
      · rw [e1, e2] at e; exact absurd e.symm (hoff u' hu')
    · rcases k u hu with ⟨e2, rfl⟩ | ⟨u', hu', _, e2, c2⟩
      · rw [e1, e2] at e; exact absurd e (hoff s' hs')
      · rw [e1, e2] at e
        have q := R.inj s' u' hs' hu' e
        subst q
        rcases c1 with ⟨rfl, rfl⟩ | ⟨a1, a2, rfl⟩
        · rcases c2 with ⟨rfl, _⟩ | ⟨b1, b2, rfl⟩
          · rfl
          · exact absurd rfl b2
        · rcases c2 with ⟨rfl, rfl⟩ | ⟨b1, b2, rfl⟩
          · exact absurd rfl a2
          · rfl
  · cases s
    case gr => exact hl.2 .ga trivial nofun e
    case ga => exact hb e.symm
    all_goals exact hl.2 _ hs hr e
theorem w_swap1_ga {Q : Unit → Shared → Prop} {a : Addr} {ep : Nat} (F : Fr h₀ L s.heap mF) (X : (Mine.k0.heap_1 w.params).In h₀) (N : News h₀ L s.heap l) (R : Rep w W f m l) (ha : Loc W.n f m l a (PySem.W.listOf #[] ep)) (har : a ≠ m.rl) (hg : W.grey = [])
    (h : ∀ h' l', Fr h₀ L h' mF → News h₀ L h' l' → Half_ga w W f m a l l' → Q () { s with heap := h', toks := s.toks + 2 }) :
    wpAny (model PySem.Challenge.rw_pq0678_01.row.prog w) A (setAttr (.ref f.mi) (Str.ofString "grey") (.ref m.ga)) Q E s := by
  revert X; k_fill; intro X
  refine' set_put ?k1 ?k2 ?k3 ?k4 ?k5 ?k6 ?k7 ?k8 ?k9 ?k10 ?k11 ?k12 ?_; (case k1 => exact F); (case k2 => exact X); (case k3 => exact N); (case k4 => exact R.hmi); (case k5 => exact R.hmd); (case k6 => k_is); (case k7 => k_is); (case k8 => k_is); (case k9 => k_is); (case k10 => k_get); (case k11 => k_put); (case k12 => exact Nat.le_of_ble_eq_true rfl)
  intro h' F' N'
  exact h h' _ F' N' ⟨R, ⟨ep, ha⟩, har, hg, _, rfl⟩
theorem w_swap2_ga {Q : Unit → Shared → Prop} {a : Addr} {l' : Led} (F : Fr h₀ L s.heap mF) (X : (Mine.k0.heap_1 w.params).In h₀) (N : News h₀ L s.heap l') (H : Half_ga w W f m a l l')
    (h : ∀ h' l'', Fr h₀ L h' mF → News h₀ L h' l'' → Rep w W f { m with gr := m.ga, ga := a } l'' → KeepBut a W.n f m l W.n f { m with gr := m.ga, ga := a } l'' → Q () { s with heap := h', toks := s.toks + 2 }) :
    wpAny (model PySem.Challenge.rw_pq0678_01.row.prog w) A (setAttr (.ref f.mi) (Str.ofString "grey_again") (.ref a)) Q E s := by
  obtain ⟨t0, e0⟩ := H.e
  have hmi : (f.mi, instObj 136 f.md) ∈ l' := by rw [e0]; exact mem_put_ne (H.R.ne (s := .mi) (t := .md) nofun trivial trivial) H.R.hmi
  have hmd : (f.md, mkD w.params t0 f.ch f.so W.white m.ga m.ga m.we) ∈ l' := by rw [e0]; exact mem_put_self
  revert X; k_fill; intro X
  refine' set_put ?k1 ?k2 ?k3 ?k4 ?k5 ?k6 ?k7 ?k8 ?k9 ?k10 ?k11 ?k12 ?_; (case k1 => exact F); (case k2 => exact X); (case k3 => exact N); (case k4 => exact hmi); (case k5 => exact hmd); (case k6 => k_is); (case k7 => k_is); (case k8 => k_is); (case k9 => k_is); (case k10 => k_get); (case k11 => k_put); (case k12 => exact Nat.le_of_ble_eq_true rfl)
  intro h' F' N'
  obtain ⟨R', K'⟩ := H.done t0
  exact h h' _ F' N' R' K'
end
end
end Mine
namespace Mine
section
section
variable {prog : Program} {w : World} {A : Around} {E : Value → Shared → Prop} {s : Shared} {env : Env} {h₀ : Heap} {x : Str} {body : List Stmt} {Q : Flow → Shared → Prop}
/-- a turn's end: the world again, what stands beside it, and what holds of the frame -/
def ForEnd (w : World) (h₀ : Heap) (L : Addr) (locs : Led) (P : St → Fix → Mut → (Str → Option Value) → Prop) (s₁ s₂ : Shared) : Prop :=
  ∃ W f m mm l h' tk, s₂ = { s₁ with heap := h', toks := tk } ∧ Fr h₀ L h' mm ∧ News h₀ L h' l ∧ Rep w W f m l ∧ (∀ q ∈ locs, Loc W.n f m l q.1 q.2) ∧ P W f m mm
def ForPost (w : World) (h₀ : Heap) (L : Addr) (locs : Led) (P : St → Fix → Mut → (Str → Option Value) → Prop) (s₁ : Shared) (Q : Flow → Shared → Prop) (fl : Flow) (s₂ : Shared) : Prop :=
  match fl with
  | .ret v => Q (.ret v) s₂
  | .brk => Q .next s₂
  | _ => ForEnd w h₀ L locs P s₁ s₂
theorem ForEnd.intro {h₀ : Heap} {L : Addr} {locs : Led} {P : St → Fix → Mut → (Str → Option Value) → Prop} {s₁ : Shared} {W : St} {f : Fix} {m : Mut} {mm : Str → Option Value} {l : Led} {h' : Heap} {tk : Nat}
    (F : Fr h₀ L h' mm) (N : News h₀ L h' l) (R : Rep w W f m l) (hl : ∀ q ∈ locs, Loc W.n f m l q.1 q.2) (p : P W f m mm) : ForEnd w h₀ L locs P s₁ { s₁ with heap := h', toks := tk } := ⟨W, f, m, mm, l, h', tk, rfl, F, N, R, hl, p⟩
theorem ForPost.next {h₀ : Heap} {L : Addr} {locs : Led} {P : St → Fix → Mut → (Str → Option Value) → Prop} {s₁ : Shared} {W : St} {f : Fix} {m : Mut} {mm : Str → Option Value} {l : Led} {h' : Heap} {tk : Nat}
    (F : Fr h₀ L h' mm) (N : News h₀ L h' l) (R : Rep w W f m l) (hl : ∀ q ∈ locs, Loc W.n f m l q.1 q.2) (p : P W f m mm) : ForPost w h₀ L locs P s₁ Q .next { s₁ with heap := h', toks := tk } := ForEnd.intro F N R hl p
theorem Loc.drop {n f m l} {b : Addr} {a : Addr} {o : Obj} (h : Loc n f m l a o) (hb : a ≠ b) : Loc n f m (l.filter (fun p => p.1 ≠ b)) a o := ⟨List.mem_filter.mpr ⟨h.1, by simpa using hb⟩, h.2⟩
theorem Rep.drop {W f m l} {b : Addr} (R : Rep w W f m l) (hb : Off W.n f m b) (hr : m.rl ≠ b) : Rep w W f m (l.filter (fun p => p.1 ≠ b)) where
  has := fun s hs => let ⟨o, hm, hw⟩ := R.has s hs; ⟨o, List.mem_filter.mpr ⟨hm, by
    simp only [ne_eq, decide_not, Bool.not_eq_true', decide_eq_false_iff_not]
    by_cases h : s = .rl
    · subst h; exact hr
    · exact hb s hs h⟩, hw⟩
  inj := R.inj
  lo := R.lo
theorem iter_rep {a : Addr} {vs : List Value} {ep : Nat} {l : Led} {W : St} {f : Fix} {m : Mut} {m₀ : Str → Option Value} (locs : Led) (P : Nat → St → Fix → Mut → (Str → Option Value) → Prop)
    (hh : A.handled = none) (F : Fr h₀ env.locals s.heap m₀) (N : News h₀ env.locals s.heap l) (R : Rep w W f m l) (ha : Loc W.n f m l a (PySem.W.listOf vs.toArray ep)) (hlocs : ∀ q ∈ locs, Loc W.n f m l q.1 q.2) (h0 : P 0 W f m m₀)
    (turn : ∀ i v W f m mm l h tk I oI, vs[i]? = some v → P i W f m mm → Rep w W f m l → Loc W.n f m l a (PySem.W.listOf vs.toArray ep) → (∀ q ∈ locs, Loc W.n f m l q.1 q.2) → Loc W.n f m l I oI → Fr h₀ env.locals h (fun y => if y = x then some v else mm y) → News h₀ env.locals h l →
      wpAny (model prog w) A (execs body env) (ForPost w h₀ env.locals ((I, oI) :: (a, PySem.W.listOf vs.toArray ep) :: locs) (P (i + 1)) { s with heap := h, toks := tk } Q) E { s with heap := h, toks := tk })
    (done : ∀ W f m mm l h tk, P vs.length W f m mm → Rep w W f m l → Loc W.n f m l a (PySem.W.listOf vs.toArray ep) → (∀ q ∈ locs, Loc W.n f m l q.1 q.2) → Fr h₀ env.locals h mm → News h₀ env.locals h l → Q .next { s with heap := h, toks := tk }) :
    wpAny (model prog w) A (pyIter (.ref a)) (fun it s₂ => LoopAtV prog w A h₀ env x body Q E it s₂) E s := by
  have hls : s.heap.IsList a vs.toArray := N.isList ha.1
  have hlt : a < s.heap.objs.size := Heap.lt_size (N _ ha.1).1
  have hne : a ≠ s.heap.objs.size := Nat.ne_of_lt hlt
  refine wpAny_pyIter_list hls ?_
  have Wk := Walks.list (prog := prog) (w := w) hh s.heap.objs.size a hne vs.toArray
  have hlen : vs.toArray.size = vs.length := by simp
  rw [hlen] at Wk
  have hfresh : ∀ p ∈ l, p.1 ≠ s.heap.objs.size := fun p hp => Nat.ne_of_lt (Heap.lt_size (N p hp).1)
  let J : Nat → (Str → Option Value) → Led → Prop := fun i mm l' => ∃ W f m, P i W f m mm ∧ Rep w W f m l' ∧ (∀ q ∈ (a, PySem.W.listOf vs.toArray ep) :: locs, Loc W.n f m l' q.1 q.2) ∧ Off W.n f m s.heap.objs.size
  refine ⟨_, _, _, vs.length, _, _, m₀, l, J, rfl, Wk, ?_, ?_, ?_, ⟨⟨_, Heap.get?_push_size _ rfl, rfl, rfl⟩, hls.at fun o e => Heap.get?_push_of_some _ e⟩, F.push _, (fun p hp => ⟨Heap.get?_push_of_some _ (N p hp).1, (N p hp).2⟩), ?_, ?_, ?_⟩
  · intro hm
    rcases List.mem_cons.mp hm with e | hm
    · exact absurd F.ns.lt (e ▸ Nat.lt_irrefl _)
    · exact (N _ ha.1).2.1 (List.mem_singleton.mp hm).symm
  · intro b hb
    rw [List.mem_singleton.mp hb]
    exact next_is_new F
  · intro p hp hI
    exact hfresh p hp (List.mem_singleton.mp hI)
  · refine ⟨W, f, m, h0, R, fun q hq => ?_, R.off hfresh⟩
    rcases List.mem_cons.mp hq with rfl | hq
    · exact ha
    · exact hlocs q hq
  · rintro i v m₁ news₁ s₁ own ⟨hh', tk', rfl⟩ hin hP ⟨W₁, f₁, m₁', hp1, R₁, hl₁, hoffI⟩ hoff hown hget hmem hst F₁ N₁
    obtain ⟨⟨oi, hoi, hoc, hod⟩, _⟩ := hst
    have hIo : (s.heap.objs.size, oi) ∈ own := hmem _ (.head _) (next_is_new F) oi hoi
    have hsub : ∀ p ∈ news₁, p ∈ own ++ news₁ := fun p hp => List.mem_append_right _ hp
    have up := Keep.more (n := W₁.n) (f := f₁) (m := m₁') hsub
    refine wpAny_mono (turn i v W₁ f₁ m₁' m₁ _ hh' tk' s.heap.objs.size oi (by simpa using hP) hp1 (R₁.mono hsub) (up _ _ (hl₁ _ (.head _))) (fun q hq => up _ _ (hl₁ q (.tail _ hq))) ⟨List.mem_append_left _ hIo, hoffI⟩ F₁ N₁) (fun fl s₂ p => ?_) fun _ _ e => e
    have fin : ForEnd w h₀ env.locals ((s.heap.objs.size, oi) :: (a, PySem.W.listOf vs.toArray ep) :: locs) (P (i + 1)) { s with heap := hh', toks := tk' } s₂ → LoopStepU h₀ env.locals [s.heap.objs.size] own (J (i + 1)) { s with heap := hh', toks := tk' } .next s₂ := by
      rintro ⟨W₂, f₂, m₂, mm₂, l₂, h₂, tk₂, rfl, F₂, N₂, R₂, hl₂, p₂⟩
      have hI₂ := hl₂ _ (.head _)
      have ha₂ := hl₂ _ (.tail _ (.head _))
      have hr₂ : m₂.rl ≠ s.heap.objs.size := fun e => by
        have z := (N₂ _ R₂.hrl).1
        have z' := (N₂ _ hI₂.1).1
        rw [show (m₂.rl, PySem.W.listOf (refs f₂ W₂.rlist).toArray R₂.erl).1 = s.heap.objs.size from e] at z
        rw [z] at z'
        have e9 : PySem.W.listOf (refs f₂ W₂.rlist).toArray R₂.erl = oi := Option.some.inj z'
        rw [← e9] at hoc
        exact absurd hoc (by simp [PySem.W.listOf])
      refine ⟨rfl, h₂, tk₂, mm₂, l₂.filter (fun p => p.1 ≠ s.heap.objs.size), rfl, F₂, fun p hp => ?_, fun p hp hq => ?_, W₂, f₂, m₂, p₂, R₂.drop hI₂.2 hr₂, fun q hq => ?_, hI₂.2⟩
      · rcases List.mem_append.mp hp with hp | hp
        · rcases List.mem_cons.mp (hown p hp) with e | e
          · have e1 := hget p hp
            rw [e, hoi] at e1
            have : p = (s.heap.objs.size, oi) := Prod.ext e (Option.some.inj e1).symm
            rw [this]; exact N₂ _ hI₂.1
          · have e1 := hget p hp
            have e0 := List.mem_singleton.mp e
            rw [e0, (N₁ _ (hsub _ (hl₁ _ (.head _)).1)).1] at e1
            have : p = (a, PySem.W.listOf vs.toArray ep) := Prod.ext e0 (Option.some.inj e1).symm
            rw [this]; exact N₂ _ ha₂.1
        · exact N₂ p (List.mem_filter.mp hp).1
      · have := (List.mem_filter.mp hp).2
        simp only [ne_eq, decide_not, Bool.not_eq_true', decide_eq_false_iff_not] at this
        exact this (List.mem_singleton.mp hq)
      · have hq2 := hl₂ q (.tail _ hq)
        refine hq2.drop fun e => ?_
        have z := (N₂ _ hq2.1).1
        have z' := (N₂ _ hI₂.1).1
        rw [show (q.1, q.2).1 = s.heap.objs.size from e, z'] at z
        have hqo : q.2 = oi := (Option.some.inj z).symm
        have hq1 := (N₁ _ (hsub _ (hl₁ q hq).1)).1
        exact hoff _ (hl₁ q hq).1 (List.mem_singleton.mpr e)
    cases fl with
    | ret v => exact .ret p
    | brk => exact .brk p
    | next => exact .next (fin p)
    | cont => exact .cont (fin p)
  · rintro h' tk m' news' F' N' _ ⟨W₁, f₁, m₁', hp1, R₁, hl₁, _⟩
    exact done W₁ f₁ m₁' m' news' h' tk hp1 R₁ (hl₁ _ (.head _)) (fun q hq => hl₁ q (.tail _ hq)) F' N'
theorem while_rep {test : Expr} {pos : Pos} {L : Addr} {l : Led} {W : St} {f : Fix} {m : Mut} {m₀ : Str → Option Value} {n₀ : Nat} (locs : Led) (P : Nat → St → Fix → Mut → (Str → Option Value) → Prop)
    (F : Fr h₀ L s.heap m₀) (N : News h₀ L s.heap l) (R : Rep w W f m l) (hlocs : ∀ q ∈ locs, Loc W.n f m l q.1 q.2) (h0 : P n₀ W f m m₀)
    (turn : ∀ n W f m mm l h tk, P n W f m mm → Rep w W f m l → (∀ q ∈ locs, Loc W.n f m l q.1 q.2) → Fr h₀ L h mm → News h₀ L h l →
      wpAny (model prog w) A (isTrue test env (eval test env)) (fun b s₂ =>
        if b = true then wpAny (model prog w) A (execs body env) (ForPost w h₀ L locs (fun W f m mm => ∃ n', n' < n ∧ P n' W f m mm) s Q) E s₂ else Q .next s₂) E { s with heap := h, toks := tk })
    (hE : PassesOwn (model prog w) A env E := by passes_own) :
    wpAny (model prog w) A (exec (.While test body [] pos) env) Q E s := by
  refine While_inv2 (fun n mm l' => ∃ W f m, P n W f m mm ∧ Rep w W f m l' ∧ ∀ q ∈ locs, Loc W.n f m l' q.1 q.2) F N ⟨W, f, m, h0, R, hlocs⟩ ?_ hE
  rintro n m₁ l₁ h₁ tk₁ F₁ N₁ ⟨W₁, f₁, m₁', p₁, R₁, hl₁⟩
  refine wpAny_mono (turn n W₁ f₁ m₁' m₁ l₁ h₁ tk₁ p₁ R₁ hl₁ F₁ N₁) (fun b s₂ q => ?_) fun _ _ e => e
  cases b with
  | false => simpa using q
  | true =>
    simp only [if_true] at q ⊢
    refine wpAny_mono q (fun fl s₃ q => ?_) fun _ _ e => e
    cases fl with
    | ret v => exact q
    | brk => exact q
    | next => obtain ⟨W₂, f₂, m₂, mm₂, l₂, h₂, tk₂, rfl, F₂, N₂, R₂, hl₂, n', hn, p₂⟩ := q; exact ⟨h₂, tk₂, mm₂, l₂, n', rfl, F₂, N₂, hn, W₂, f₂, m₂, p₂, R₂, hl₂⟩
    | cont => obtain ⟨W₂, f₂, m₂, mm₂, l₂, h₂, tk₂, rfl, F₂, N₂, R₂, hl₂, n', hn, p₂⟩ := q; exact ⟨h₂, tk₂, mm₂, l₂, n', rfl, F₂, N₂, hn, W₂, f₂, m₂, p₂, R₂, hl₂⟩
/-- all that stands beside the world -/
noncomputable def locsOf (n : Nat) (f : Fix) (m : Mut) (l : Led) : Led := by classical exact l.filter fun p => decide (Off n f m p.1)
theorem locsOf_start {n f m l} : ∀ q ∈ locsOf n f m l, Loc n f m l q.1 q.2 := fun q hq => by
  have := List.mem_filter.mp hq
  exact ⟨this.1, by simpa using this.2⟩
theorem locsOf_from {n f m l n' f' m' l'} (K : Keep n f m l n' f' m' l') : ∀ q ∈ locsOf n f m l, Loc n' f' m' l' q.1 q.2 := fun q hq => K _ _ (locsOf_start q hq)
theorem locsOf_keep {n f m l n' f' m' l'} (h : ∀ q ∈ locsOf n f m l, Loc n' f' m' l' q.1 q.2) : Keep n f m l n' f' m' l' := fun a o hl => h (a, o) (List.mem_filter.mpr ⟨hl.1, by simpa using hl.2⟩)
theorem locs_on {n f m l n' f' m' l'} {locs : Led} (K : Keep n f m l n' f' m' l') (hl : ∀ q ∈ locs, Loc n f m l q.1 q.2) : ∀ q ∈ locs, Loc n' f' m' l' q.1 q.2 := fun q hq => K _ _ (hl q hq)
theorem locs_cons {n f m l} {locs : Led} {a : Addr} {o : Obj} (ha : Loc n f m l a o) (hl : ∀ q ∈ locs, Loc n f m l q.1 q.2) : ∀ q ∈ (a, o) :: locs, Loc n f m l q.1 q.2 := fun q hq => by
  rcases List.mem_cons.mp hq with rfl | hq
  · exact ha
  · exact hl q hq
theorem locs_nil {n f m l} : ∀ q ∈ ([] : Led), Loc n f m l q.1 q.2 := fun _ h => nomatch h
theorem upd_self (m : Str → Option Value) (x : Str) : m = fun z => if z = x then m x else m z := by
  funext z
  by_cases h : z = x
  · rw [if_pos h, h]
  · rw [if_neg h]
theorem upd_upd (m : Str → Option Value) (x : Str) (a b : Option Value) : (fun y => if y = x then a else (fun z => if z = x then b else m z) y) = fun z => if z = x then a else m z := by
  funext z
  by_cases h : z = x
  · simp [h]
  · simp [h]
end
theorem upd_self2 (m : Str → Option Value) {x y : Str} (h : y ≠ x) : m = fun z => if z = x then m x else if z = y then m y else m z := by
  funext z
  by_cases h1 : z = x
  · rw [if_pos h1, h1]
  · rw [if_neg h1]
    by_cases h2 : z = y
    · rw [if_pos h2, h2]
    · rw [if_neg h2]
theorem upd_2 (m : Str → Option Value) (x y : Str) (a b d : Option Value) : (fun z => if z = x then a else (fun z => if z = x then b else if z = y then d else m z) z) = fun z => if z = x then a else if z = y then d else m z := by
  funext z
  by_cases h1 : z = x
  · simp [h1]
  · simp [h1]
theorem upd_in (m : Str → Option Value) {x y : Str} (a b c d : Option Value) (h : y ≠ x) : (fun z => if z = y then c else (fun z => if z = x then a else (fun z => if z = x then b else if z = y then d else m z) z) z) = fun z => if z = x then a else if z = y then c else m z := by
  funext z
  by_cases h1 : z = x
  · subst h1; simp [Ne.symm h]
  · by_cases h2 : z = y
    · subst h2; simp [h1]
    · simp [h1, h2]
theorem upd_xy (m : Str → Option Value) (x y : Str) (a b c d : Option Value) : (fun z => if z = x then a else (fun z => if z = y then c else (fun z => if z = x then b else if z = y then d else m z) z) z) = fun z => if z = x then a else if z = y then c else m z := by
  funext z
  by_cases h1 : z = x
  · simp [h1]
  · by_cases h2 : z = y
    · simp [h2]
    · simp [h1, h2]
end
end Mine
namespace Mine
section
def markW (W : St) (i : Nat) : St := if W.mark i < 2 then (W.setMark i 2).setGrey (W.grey ++ [i]) else W
theorem markW_n (W : St) (i : Nat) : (markW W i).n = W.n := by unfold markW; split <;> rfl
theorem nodup_le : ∀ (n : Nat) (l : List Nat), l.Nodup → (∀ j ∈ l, 1 ≤ j ∧ j ≤ n) → l.length ≤ n
  | 0, [], _, _ => Nat.le_refl _
  | 0, a :: r, _, h => by have := h a (.head _); omega
  | n + 1, l, hd, h => by
    have h1 := nodup_le n (l.filter (fun j => j ≠ n + 1)) (hd.filter _) fun j hj => by
      have := List.mem_filter.mp hj
      have a := h j this.1
      have b : j ≠ n + 1 := by simpa using this.2
      omega
    have h2 : ∀ (l : List Nat), l.Nodup → l.length ≤ (l.filter (fun j => j ≠ n + 1)).length + 1 := by
      intro l
      induction l with
      | nil => simp
      | cons a r ih =>
        intro hd
        have hd' := List.nodup_cons.mp hd
        by_cases e : a = n + 1
        · have : r.filter (fun j => decide (j ≠ n + 1)) = r := List.filter_eq_self.mpr fun j hj => by
            have : j ≠ n + 1 := fun q => hd'.1 (by rw [e, ← q]; exact hj)
            simpa using this
          rw [List.filter_cons_of_neg (by simp [e]), this]; simp
        · rw [List.filter_cons_of_pos (by simpa using e)]
          have := ih hd'.2
          simp only [List.length_cons]; omega
    have := h2 l hd
    omega

structure WF (W : St) : Prop where
  hn : W.n ≤ 100
  he : ∀ i j, j ∈ W.edges i → 1 ≤ j ∧ j ≤ W.n
  hel : ∀ i, (W.edges i).length ≤ 100
  hg : ∀ j ∈ W.grey, (1 ≤ j ∧ j ≤ W.n) ∧ W.mark j = 2
  hgn : W.grey.Nodup
  hr : ∀ j ∈ W.rlist, 1 ≤ j ∧ j ≤ W.n
  hrl : W.rlist.length ≤ 100
  hk : ∀ j ∈ W.kept, 1 ≤ j ∧ j ≤ W.n
  hkn : W.kept.Nodup
  hs : W.sweep.length ≤ 100
  ho : ∀ j ∈ W.roots, 1 ≤ j ∧ j ≤ W.n
  hol : W.roots.length ≤ 100
theorem WF.gl {W : St} (h : WF W) : W.grey.length ≤ 100 := Nat.le_trans (nodup_le W.n _ h.hgn fun j hj => (h.hg j hj).1) h.hn
theorem WF.kl {W : St} (h : WF W) : W.kept.length ≤ 100 := Nat.le_trans (nodup_le W.n _ h.hkn h.hk) h.hn
theorem WF.mark {W : St} (h : WF W) {i : Nat} (h1 : 1 ≤ i) (h2 : i ≤ W.n) : WF (markW W i) := by
  unfold markW
  split
  · rename_i hm
    have hi : i ∉ W.grey := fun q => by have := (h.hg i q).2; omega
    refine { h with hg := fun j hj => ?_, hgn := ?_ }
    · rcases List.mem_append.mp hj with hj | hj
      · refine ⟨(h.hg j hj).1, ?_⟩
        show (if j = i then (2 : Int) else W.mark j) = 2
        split
        · rfl
        · exact (h.hg j hj).2
      · obtain rfl := List.mem_singleton.mp hj
        exact ⟨⟨h1, h2⟩, by show (if j = j then (2 : Int) else W.mark j) = 2; simp⟩
    · exact List.nodup_append.mpr ⟨h.hgn, by simp, fun a ha b hb e => hi (by rw [← List.mem_singleton.mp hb, ← e]; exact ha)⟩
  · exact h
def beginL (W : St) (ns : List Nat) : St := ns.foldl markW W
theorem markW_edges (W : St) (i : Nat) : (markW W i).edges = W.edges := by unfold markW; split <;> rfl
theorem markW_rlist (W : St) (i : Nat) : (markW W i).rlist = W.rlist := by unfold markW; split <;> rfl
theorem beginL_n : ∀ (ns : List Nat) (W : St), (beginL W ns).n = W.n
  | [], _ => rfl
  | i :: r, W => (beginL_n r (markW W i)).trans (markW_n W i)
theorem beginL_edges : ∀ (ns : List Nat) (W : St), (beginL W ns).edges = W.edges
  | [], _ => rfl
  | i :: r, W => (beginL_edges r (markW W i)).trans (markW_edges W i)
theorem beginL_rlist : ∀ (ns : List Nat) (W : St), (beginL W ns).rlist = W.rlist
  | [], _ => rfl
  | i :: r, W => (beginL_rlist r (markW W i)).trans (markW_rlist W i)
theorem WF.begin : ∀ {ns : List Nat} {W : St}, WF W → (∀ j ∈ ns, 1 ≤ j ∧ j ≤ W.n) → WF (beginL W ns)
  | [], _, h, _ => h
  | i :: r, W, h, hr => WF.begin (ns := r) (W := markW W i) (h.mark (hr i (.head _)).1 (hr i (.head _)).2) fun j hj => by rw [markW_n]; exact hr j (.tail _ hj)
theorem WF.take {ns : List Nat} {W : St} (h : WF W) (hr : ∀ j ∈ ns, 1 ≤ j ∧ j ≤ W.n) (i : Nat) : WF (beginL W (ns.take i)) := h.begin fun j hj => hr j (List.mem_of_mem_take hj)
theorem beginL_snoc (W : St) (ns : List Nat) (i : Nat) : beginL W (ns ++ [i]) = markW (beginL W ns) i := by simp [beginL]
theorem beginL_next {W : St} {ns : List Nat} {i j : Nat} (h : ns[i]? = some j) : markW (beginL W (ns.take i)) j = beginL W (ns.take (i + 1)) := by
  rw [List.take_add_one, h]; exact (beginL_snoc _ _ _).symm
def propW (W : St) (ns : List Nat) (i : Nat) : St := beginL ((W.setGrey ns).setMark i 3) (W.edges i)
theorem propW_n (W : St) (ns : List Nat) (i : Nat) : (propW W ns i).n = W.n := beginL_n _ _
theorem WF.grey0 {W : St} (h : WF W) : WF (W.setGrey []) := { h with hg := fun _ q => (nomatch q), hgn := .nil }
theorem WF.prop0 {W : St} (h : WF W) {ns : List Nat} {i : Nat} (hg : W.grey = ns ++ [i]) : WF ((W.setGrey ns).setMark i 3) := by
  have hd := h.hgn
  rw [hg] at hd
  obtain ⟨h1, _, h3⟩ := List.nodup_append.mp hd
  refine { h with hg := fun j hj => ?_, hgn := h1 }
  have hj' : j ∈ W.grey := by rw [hg]; exact List.mem_append_left _ hj
  refine ⟨(h.hg j hj').1, ?_⟩
  have hne : j ≠ i := h3 j hj i (.head _)
  show (if j = i then (3 : Int) else W.mark j) = 2
  rw [if_neg hne]; exact (h.hg j hj').2
theorem WF.prop {W : St} (h : WF W) {ns : List Nat} {i : Nat} (hg : W.grey = ns ++ [i]) : WF (propW W ns i) := (h.prop0 hg).begin fun j hj => h.he i j hj
inductive Props : St → St → Prop
  | refl {W : St} : Props W W
  | step {W W' : St} {ns : List Nat} {i : Nat} : Props W W' → W'.grey = ns ++ [i] → Props W (propW W' ns i)
/-- how many are not black yet -/
def mu (W : St) : Nat := ((List.range' 1 W.n).filter fun j => decide (W.mark j < 3)).length
theorem filter_le {p q : Nat → Bool} (h : ∀ j, q j = true → p j = true) : ∀ l : List Nat, (l.filter q).length ≤ (l.filter p).length
  | [] => Nat.le_refl _
  | a :: r => by
    have ih := filter_le h r
    by_cases hq : q a = true
    · rw [List.filter_cons_of_pos hq, List.filter_cons_of_pos (h a hq)]; simp only [List.length_cons]; omega
    · rw [List.filter_cons_of_neg hq]
      by_cases hp : p a = true
      · rw [List.filter_cons_of_pos hp]; simp only [List.length_cons]; omega
      · rw [List.filter_cons_of_neg hp]; exact ih
theorem filter_lt {p q : Nat → Bool} (h : ∀ j, q j = true → p j = true) : ∀ {l : List Nat} {i : Nat}, i ∈ l → p i = true → q i = false → (l.filter q).length < (l.filter p).length
  | a :: r, i, hi, hp, hq => by
    by_cases e : a = i
    · subst e
      rw [List.filter_cons_of_pos hp, List.filter_cons_of_neg (by simp [hq])]
      have := filter_le h r
      simp only [List.length_cons]; omega
    · have ih := filter_lt h ((List.mem_cons.mp hi).resolve_left fun q => e q.symm) hp hq
      by_cases hq' : q a = true
      · rw [List.filter_cons_of_pos hq', List.filter_cons_of_pos (h a hq')]; simp only [List.length_cons]; omega
      · rw [List.filter_cons_of_neg hq']
        by_cases hp' : p a = true
        · rw [List.filter_cons_of_pos hp']; simp only [List.length_cons]; omega
        · rw [List.filter_cons_of_neg hp']; exact ih
theorem markW_lt3 (W : St) (i j : Nat) : (markW W i).mark j < 3 ↔ W.mark j < 3 := by
  unfold markW
  split
  · show (if j = i then (2 : Int) else W.mark j) < 3 ↔ _
    split
    · rename_i h1 h2; subst h2; constructor <;> intro _ <;> omega
    · exact Iff.rfl
  · exact Iff.rfl
theorem beginL_lt3 : ∀ (ns : List Nat) (W : St) (j : Nat), (beginL W ns).mark j < 3 ↔ W.mark j < 3
  | [], _, _ => Iff.rfl
  | i :: r, W, j => (beginL_lt3 r (markW W i) j).trans (markW_lt3 W i j)
theorem mu_prop {W : St} (h : WF W) {ns : List Nat} {i : Nat} (hg : W.grey = ns ++ [i]) : mu (propW W ns i) < mu W := by
  have hi := h.hg i (by rw [hg]; simp)
  unfold mu
  rw [propW_n]
  refine filter_lt (i := i) (fun j hj => ?_) (List.mem_range'_1.mpr ⟨hi.1.1, by omega⟩) (by simp [hi.2]) ?_
  · simp only [decide_eq_true_eq] at hj ⊢
    have := (beginL_lt3 _ _ _).mp hj
    by_cases e : j = i
    · subst e; rw [hi.2]; decide
    · simpa [St.setMark, e, St.setGrey] using this
  · simp only [decide_eq_false_iff_not]
    intro q
    have := (beginL_lt3 _ _ _).mp q
    simp [St.setMark] at this
theorem WF.props {W W' : St} (h : WF W) (p : Props W W') : WF W' := by
  induction p with
  | refl => exact h
  | step _ hg ih => exact ih.prop hg
theorem Props.n {W W' : St} (p : Props W W') : W'.n = W.n := by
  induction p with
  | refl => rfl
  | step _ _ ih => rw [propW_n]; exact ih
theorem Props.rlist {W W' : St} (p : Props W W') : W'.rlist = W.rlist := by
  induction p with
  | refl => rfl
  | step _ _ ih => exact (beginL_rlist _ _).trans ih
end
end Mine
namespace Mine
section
section
variable {w : World} {A : Around} {E : Value → Shared → Prop} {s : Shared} {L : Addr} {h₀ : Heap} {mF : Str → Option Value} {l : Led} {W : St} {f : Fix} {m : Mut} {i : Nat} {v : Int} {tk : Tok}
theorem updF_put' {d : Addr} {o : Obj} {l : Led} : UpdF d o ((d, o) :: l.filter (fun p => p.1 ≠ d)) (fun o' => put d o' l) := updF_put
theorem w_od_in {Q : Value → Shared → Prop} (N : News h₀ L s.heap l) (R : Rep w W f m l) (h : ∀ b : Bool, (b = true ↔ i ∈ W.kept) → Q (.bool b) { s with toks := s.toks + 1 }) :
    wpAny (model PySem.Challenge.rw_pq0678_01.row.prog w) A (compareOp .In (.int (i : Int) tk) (.ref f.od)) Q E s := by
  by_cases hi : i ∈ W.kept
  · exact kda_in (knd := PySem.intKind _ _) N R.hod R.dod R.lo.1 (intKind_is _ _ _ _) true (by rw [valueAt_nats (fun i => .ref (f.x i)) hi]; rfl) (h true (by simp [hi]))
  · exact kda_in (knd := PySem.intKind _ _) N R.hod R.dod R.lo.1 (intKind_is _ _ _ _) false (by rw [valueAt_none (fun i => .ref (f.x i)) hi]; rfl) (h false (by simp [hi]))
theorem w_od_method {pl : Sem Bool} {Q : Value × List Value → Shared → Prop} {name : Str} {id : String} (slot : Slot "dict" name id) (ty : typeOf (.builtin id) = pure (.type "method_descriptor")) (N : News h₀ L s.heap l) (R : Rep w W f m l) (h : Q (.builtin id, [.ref f.od]) s) :
    wpAny (model PySem.Challenge.rw_pq0678_01.row.prog w) A (getMethod (.ref f.od) name pl) Q E s := kob_method (knd := PySem.intKind _ _) slot ty N R.hod R.dod h
theorem w_od_get {Q : Value → Shared → Prop} (N : News h₀ L s.heap l) (R : Rep w W f m l) (h1 : i ∈ W.kept → Q (.ref (f.x i)) { s with toks := s.toks + 1 }) (h2 : i ∉ W.kept → Q .none { s with toks := s.toks + 1 }) :
    wpAny (model PySem.Challenge.rw_pq0678_01.row.prog w) A (call (.builtin "dict.get") [.ref f.od, .int (i : Int) tk]) Q E s := by
  by_cases hi : i ∈ W.kept
  · exact kdg_get1 (knd := PySem.intKind _ _) N R.hod R.dod R.lo.1 (intKind_is _ _ _ _) (some (.ref (f.x i))) (valueAt_nats (fun i => .ref (f.x i)) hi) (h1 hi)
  · exact kdg_get1 (knd := PySem.intKind _ _) N R.hod R.dod R.lo.1 (intKind_is _ _ _ _) none (valueAt_none (fun i => .ref (f.x i)) hi) (h2 hi)
theorem without_nats (g : Nat → Value) (ns : List Nat) (i : Nat) : without (ns.map fun i : Nat => ((i : Int), g i)) (i : Int) = (ns.filter (fun j => j ≠ i)).map fun i : Nat => ((i : Int), g i) := by
  unfold without
  rw [List.filter_map]
  congr 1
  apply List.filter_congr
  intro x _
  by_cases e : x = i
  · subst e; simp
  · have : ¬ ((x : Int) = (i : Int)) := by omega
    simp [e, this]
theorem stored_nats (g : Nat → Value) (ns : List Nat) (i : Nat) (h : i ∉ ns) (v : Value) (hv : v = g i) : stored (ns.map fun i : Nat => ((i : Int), g i)) (i : Int) v = (ns ++ [i]).map fun i : Nat => ((i : Int), g i) := by
  unfold stored
  rw [if_neg]
  · rw [List.map_append, hv]; rfl
  · simp only [List.any_map, List.any_eq_true, Function.comp_apply, decide_eq_true_eq, not_exists, not_and]
    intro x hx e
    exact h (by rw [show i = x by omega]; exact hx)
theorem w_od_pop {Q : Value → Shared → Prop} {dflt : Value} (F : Fr h₀ L s.heap mF) (N : News h₀ L s.heap l) (R : Rep w W f m l) (hi : i ∈ W.kept) (hz : W.kept.length ≤ 1000)
    (h : ∀ h' l', Fr h₀ L h' mF → News h₀ L h' l' → Rep w (W.setKept (W.kept.filter (fun j => j ≠ i))) f m l' → Keep W.n f m l (W.setKept (W.kept.filter (fun j => j ≠ i))).n f m l' → Q (.ref (f.x i)) { s with heap := h', toks := s.toks + 1 }) :
    wpAny (model PySem.Challenge.rw_pq0678_01.row.prog w) A (call (.builtin "dict.pop") [.ref f.od, .int (i : Int) tk, dflt]) Q E s := by
  refine kob_pop (knd := PySem.intKind _ _) (more := [dflt]) F (news_front N R.hod) updF_put R.dod (intKind_is _ _ _ _) (.inr ⟨_, rfl⟩) (by rfl) (PySem.F.args_dict_pop_3 _ _ _) (valueAt_nats (fun i => .ref (f.x i)) hi) (sizeLine_ge (by simp; omega)) fun h' o' F' N' hd' => h h' _ F' N' (R.put .od trivial rfl ?_ ?_) (Keep.put .od trivial)
  · rw [without_nats (fun i => Value.ref (f.x i))] at hd'; exact hd'
  · intro t ht hl o ho
    cases t <;> first | exact ho | exact absurd rfl ht
theorem w_list_od {Q : Value → Shared → Prop} (hh : A.handled = none) (F : Fr h₀ L s.heap mF) (N : News h₀ L s.heap l) (R : Rep w W f m l) (hz : W.kept.length ≤ 1000)
    (h : ∀ a h' l' tk' (t : Nat → Tok) (ep : Nat), Fr h₀ L h' mF → News h₀ L h' l' → Rep w W f m l' → Loc W.n f m l' a (PySem.W.listOf (W.kept.mapIdx fun j (i : Nat) => Value.int (i : Int) (t j)).toArray ep) → KeepNew a W.n f m l W.n f m l' → a ≠ m.rl → Q (.ref a) { s with heap := h', toks := tk' }) :
    wpAny (model PySem.Challenge.rw_pq0678_01.row.prog w) A (call (.type "list") [.ref f.od]) Q E s := by
  obtain ⟨ep, hat⟩ := (kda_dict N R.hod R.dod).dictAt
  refine kdl_N (kdl_dict (knd := PySem.intKind _ _) (kvs := W.kept.map fun i : Nat => ((i : Int), Value.ref (f.x i))) (ep := ep) R.lo.1) hh F N hat (sizeLine_ge (by simp; omega)) fun B c h' tk' vs F' N' l1 hl hv => ?_
  have ht : ∃ t : Nat → Tok, vs = W.kept.mapIdx fun j (i : Nat) => Value.int (i : Int) (t j) := by
    refine ⟨fun j => match vs[j]? with | some (.int _ t) => t | _ => 0, List.ext_getElem? fun j => ?_⟩
    rw [List.getElem?_mapIdx]
    by_cases hj : j < vs.length
    · obtain ⟨k, x, hx, hk⟩ := hv j _ (List.getElem?_eq_getElem hj)
      rw [List.getElem?_map] at hx
      obtain ⟨i, hi, e⟩ := Option.map_eq_some_iff.mp hx
      cases e
      obtain ⟨t, ht⟩ := Value.isInt_shape hk
      have e1 : vs[j]? = some (.int (i : Int) t) := by rw [List.getElem?_eq_getElem hj, ht]
      rw [hi]; simp [e1]
    · rw [List.getElem?_eq_none (by omega), List.getElem?_eq_none (by simp at hl; omega)]; rfl
  obtain ⟨t, rfl⟩ := ht
  obtain ⟨a1, a2, a3⟩ := R.new l1
  exact h B h' _ tk' t c F' N' a1 a2 a3 fun e => Nat.ne_of_lt (l1 _ R.hrl) e.symm
theorem w_values_od {Q : Value → Shared → Prop} (F : Fr h₀ L s.heap mF) (N : News h₀ L s.heap l) (R : Rep w W f m l)
    (h : ∀ a h' l', Fr h₀ L h' mF → News h₀ L h' l' → Rep w W f m l' → Loc W.n f m l' a { cls := .type "dict_values", data := .fields #[.ref f.od] } → KeepNew a W.n f m l W.n f m l' → Q (.ref a) { s with heap := h' }) :
    wpAny (model PySem.Challenge.rw_pq0678_01.row.prog w) A (call (.builtin "dict.values") [.ref f.od]) Q E s :=
  kdl_view_values (knd := PySem.intKind _ _) F N R.hod R.dod R.lo.1 fun a h' F' N' l1 => let ⟨a1, a2, a3⟩ := R.new l1; h a h' _ F' N' a1 a2 a3
theorem w_list_values {Q : Value → Shared → Prop} {v : Addr} (hh : A.handled = none) (F : Fr h₀ L s.heap mF) (N : News h₀ L s.heap l) (R : Rep w W f m l) (hz : W.kept.length ≤ 1000) (hv : Loc W.n f m l v { cls := .type "dict_values", data := .fields #[.ref f.od] })
    (h : ∀ a h' l' tk' ep, Fr h₀ L h' mF → News h₀ L h' l' → Rep w W f m l' → Loc W.n f m l' a (PySem.W.listOf (refs f W.kept).toArray ep) → KeepNew a W.n f m l W.n f m l' → Q (.ref a) { s with heap := h', toks := tk' }) :
    wpAny (model PySem.Challenge.rw_pq0678_01.row.prog w) A (call (.type "list") [.ref v]) Q E s := by
  refine kdl_list_valuesP (knd := PySem.intKind _ _) hh F N hv.1 R.hod R.dod (by simp; omega) fun B c h' tk' F' N' l1 => ?_
  have e : (W.kept.map fun i : Nat => ((i : Int), Value.ref (f.x i))).map (·.2) = refs f W.kept := by simp [refs]
  rw [e] at N'
  obtain ⟨a1, a2, a3⟩ := R.new l1
  exact h B h' _ tk' c F' N' a1 a2 a3
end
section
variable {w : World} {A : Around} {E : Value → Shared → Prop} {s : Shared} {L : Addr} {h₀ : Heap} {mF : Str → Option Value} {l : Led} {W : St} {f : Fix} {m : Mut} {i : Nat} {v : Int} {tk : Tok}
theorem w_pop_ts {Q : Value → Shared → Prop} {ns : List Nat} (F : Fr h₀ L s.heap mF) (N : News h₀ L s.heap l) (R : Rep w W f m l) (hz : W.sweep.length ≤ 1000) (hg : W.sweep = ns ++ [i])
    (h : ∀ h' l' t', Fr h₀ L h' mF → News h₀ L h' l' → Rep w (W.setSweep ns) f m l' → Keep W.n f m l (W.setSweep ns).n f m l' → Q (.int (i : Int) t') { s with heap := h' }) :
    wpAny (model PySem.Challenge.rw_pq0678_01.row.prog w) A (call (.builtin "list.pop") [.ref m.ts]) Q E s := by
  refine pop_put (p := ns.mapIdx fun j (i : Nat) => Value.int (i : Int) (R.qts.1 j)) (y := .int (i : Int) (R.qts.1 ns.length)) F N R.hts (by rw [hg]; simp [List.mapIdx_append]) (sizeLine_ge (by simp; omega)) fun h' F' N' => h h' _ _ F' N' (R.put .ts trivial rfl ⟨_, _, rfl⟩ ?_) (Keep.put .ts trivial)
  intro t ht hl o ho
  cases t <;> first | exact ho | exact absurd rfl ht
end
section
variable {w : World} {A : Around} {E : Value → Shared → Prop} {s : Shared} {L : Addr} {h₀ : Heap} {mF : Str → Option Value} {l : Led} {W : St} {f : Fix} {m : Mut} {i : Nat} {v : Int} {tk : Tok}
theorem w_bound_is_dead {Q : Value → Shared → Prop} {expr : Bool} (F : Fr h₀ L s.heap mF) (X : (Mine.k0.heap_1 w.params).In h₀) (N : News h₀ L s.heap l) (R : Rep w W f m l)
    (h : ∀ q h' l', Fr h₀ L h' mF → News h₀ L h' l' → Rep w W f m l' → Loc W.n f m l' q (methodObj (.ref 49) (.ref f.mi)) → KeepNew q W.n f m l W.n f m l' → Q (.ref q) { s with heap := h', toks := s.toks + 1 }) :
    wpAny (model PySem.Challenge.rw_pq0678_01.row.prog w) A (getAttr (.ref f.mi) (Str.ofString "is_dead") expr) Q E s := by
  revert X; k_fill; intro X
  refine' kbm_bound ?k1 ?k2 ?k3 ?k4 ?k5 ?k6 ?k7 ?k8 ?k9 ?k10 ?k11 ?k12 ?_; (case k4 => exact InstAt.of_news N R.hmi R.hmd); (case k1 => exact F); (case k2 => exact X); (case k7 => k_is); (case k3 => exact N); (case k5 => k_is); (case k6 => k_is); (case k8 => k_is); (case k9 => k_is); (case k10 => k_is); (case k11 => decide +kernel); (case k12 => k_get)
  exact fun q h' F' N' l1 => let ⟨a1, a2, a3⟩ := R.new l1; h q h' _ F' N' a1 a2 a3
theorem w_bound_free {Q : Value → Shared → Prop} {expr : Bool} (F : Fr h₀ L s.heap mF) (X : (Mine.k0.heap_1 w.params).In h₀) (N : News h₀ L s.heap l) (R : Rep w W f m l)
    (h : ∀ q h' l', Fr h₀ L h' mF → News h₀ L h' l' → Rep w W f m l' → Loc W.n f m l' q (methodObj (.ref 252) (.ref f.cy)) → KeepNew q W.n f m l W.n f m l' → Q (.ref q) { s with heap := h', toks := s.toks + 1 }) :
    wpAny (model PySem.Challenge.rw_pq0678_01.row.prog w) A (getAttr (.ref f.cy) (Str.ofString "free") expr) Q E s := by
  revert X; k_fill; intro X
  refine' kbm_bound ?k1 ?k2 ?k3 ?k4 ?k5 ?k6 ?k7 ?k8 ?k9 ?k10 ?k11 ?k12 ?_; (case k4 => exact InstAt.of_news N R.hcy R.hcd); (case k1 => exact F); (case k2 => exact X); (case k7 => k_is); (case k3 => exact N); (case k5 => k_is); (case k6 => k_is); (case k8 => k_is); (case k9 => k_is); (case k10 => k_is); (case k11 => decide +kernel); (case k12 => k_get)
  exact fun q h' F' N' l1 => let ⟨a1, a2, a3⟩ := R.new l1; h q h' _ F' N' a1 a2 a3
theorem w_bound_make_white {Q : Value → Shared → Prop} {expr : Bool} (F : Fr h₀ L s.heap mF) (X : (Mine.k0.heap_1 w.params).In h₀) (N : News h₀ L s.heap l) (R : Rep w W f m l)
    (h : ∀ q h' l', Fr h₀ L h' mF → News h₀ L h' l' → Rep w W f m l' → Loc W.n f m l' q (methodObj (.ref 56) (.ref f.mi)) → KeepNew q W.n f m l W.n f m l' → Q (.ref q) { s with heap := h', toks := s.toks + 1 }) :
    wpAny (model PySem.Challenge.rw_pq0678_01.row.prog w) A (getAttr (.ref f.mi) (Str.ofString "make_white") expr) Q E s := by
  revert X; k_fill; intro X
  refine' kbm_bound ?k1 ?k2 ?k3 ?k4 ?k5 ?k6 ?k7 ?k8 ?k9 ?k10 ?k11 ?k12 ?_; (case k4 => exact InstAt.of_news N R.hmi R.hmd); (case k1 => exact F); (case k2 => exact X); (case k7 => k_is); (case k3 => exact N); (case k5 => k_is); (case k6 => k_is); (case k8 => k_is); (case k9 => k_is); (case k10 => k_is); (case k11 => decide +kernel); (case k12 => k_get)
  exact fun q h' F' N' l1 => let ⟨a1, a2, a3⟩ := R.new l1; h q h' _ F' N' a1 a2 a3
end
end
end Mine
namespace Mine
section
section
variable {w : World} {A : Around} {E : Value → Shared → Prop} {s : Shared} {L : Addr} {h₀ : Heap} {mF : Str → Option Value} {l : Led} {W : St} {f : Fix} {m : Mut} {i : Nat} {v : Int} {tk : Tok}
theorem Rep.putF {w W f m l} (R : Rep w W f m l) (f' : Fix) (s : Sl) {o' : Obj} (hs : live W.n s) (hat : ∀ t : Sl, t.at f' m = t.at f m) (ho : what w W f' m s o') (hst : ∀ t, t ≠ s → live W.n t → ∀ o, what w W f m t o → what w W f' m t o)
    (lo : (f'.od == sysModules) = false ∧ (f'.ed == sysModules) = false ∧ (f'.wd == sysModules) = false) : Rep w W f' m (Mine.put (s.at f m) o' l) where
  has := fun t ht => by
    rw [hat]
    by_cases h : t = s
    · subst h; exact ⟨o', mem_put_self, ho⟩
    · obtain ⟨o, hm, hw⟩ := R.has t ht
      exact ⟨o, mem_put_ne (R.ne h ht hs) hm, hst t h ht o hw⟩
  inj := fun s t hs ht => by rw [hat, hat]; exact R.inj s t hs ht
  lo := lo
theorem Keep.putF {n f f' m l} (s : Sl) {o' : Obj} (hs : live n s) (hat : ∀ t : Sl, t.at f' m = t.at f m) (hr : s ≠ .rl := by nofun) : Keep n f m l n f' m (Mine.put (s.at f m) o' l) :=
  fun _ _ h => ⟨mem_put_ne (fun e => h.2 s hs hr e.symm) h.1, fun t ht hr e => h.2 t ht hr (by rw [← hat]; exact e)⟩
def addAl (f : Fix) (x : Addr) : Fix := { f with xal := [x] }
def addEd (f : Fix) (k : Int) (e : Addr) : Fix := { f with xed := [(k, e)] }
theorem w_len_al {Q : Value → Shared → Prop} (N : News h₀ L s.heap l) (R : Rep w W f m l) (hx : f.xal = []) (hz : W.n ≤ 1000) (h : Q (.int (W.n : Int) (s.toks + 1)) { s with toks := s.toks + 1 + 1 }) :
    wpAny (model PySem.Challenge.rw_pq0678_01.row.prog w) A (call (.builtin "len") [.ref f.al]) Q E s :=
  len_list (N.isList R.hal) (by simp [hx]; omega) (by simpa [hx] using h)
theorem w_append_al {Q : Value → Shared → Prop} {x : Addr} (F : Fr h₀ L s.heap mF) (N : News h₀ L s.heap l) (R : Rep w W f m l) (hx : f.xal = []) (hz : W.n ≤ 1000)
    (h : ∀ h' l', Fr h₀ L h' mF → News h₀ L h' l' → Rep w W (addAl f x) m l' → Keep W.n f m l W.n (addAl f x) m l' → Q .none { s with heap := h' }) :
    wpAny (model PySem.Challenge.rw_pq0678_01.row.prog w) A (call (.builtin "list.append") [.ref f.al, .ref x]) Q E s := by
  refine append_put F N R.hal (sizeLine_ge (by simp [hx]; omega)) fun h' F' N' => h h' _ F' N' (R.putF (addAl f x) .al trivial (fun t => by cases t <;> rfl) ⟨R.eal + 1, ?_⟩ ?_ R.lo) (Keep.putF .al trivial fun t => by cases t <;> rfl)
  · simp [hx, refs, addAl]
  · intro t ht hl o ho
    cases t <;> first | exact ho | exact absurd rfl ht
theorem w_ed_set {Q : Unit → Shared → Prop} {e : Addr} (F : Fr h₀ L s.heap mF) (N : News h₀ L s.heap l) (R : Rep w W f m l) (hx : f.xed = []) (hz : W.n ≤ 1000) {k : Int} (hk : k = (W.n : Int) + 1)
    (h : ∀ h' l', Fr h₀ L h' mF → News h₀ L h' l' → Rep w W (addEd f k e) m l' → Keep W.n f m l W.n (addEd f k e) m l' → Q () { s with heap := h', toks := s.toks + 1 }) :
    wpAny (model PySem.Challenge.rw_pq0678_01.row.prog w) A (setItem (.ref f.ed) (.int k tk) (.ref e)) Q E s := by
  have hst : stored (((List.range' 1 W.n).map fun i : Nat => ((i : Int), Value.ref (f.e i))) ++ f.xed.map fun q => (q.1, Value.ref q.2)) k (Value.ref e) = (((List.range' 1 W.n).map fun i : Nat => ((i : Int), Value.ref (f.e i))) ++ [(k, e)].map fun q => (q.1, Value.ref q.2)) := by
    unfold stored
    rw [if_neg]
    · rw [hx]; simp
    · rw [hx]
      simp only [List.map_nil, List.append_nil, List.any_map, List.any_eq_true, Function.comp_apply, decide_eq_true_eq, not_exists, not_and]
      intro x hxm e
      have := (List.mem_range'_1.mp hxm).2
      omega
  refine kda_set (knd := PySem.intKind _ _) F (news_front N R.hed) updF_put R.ded (intKind_is _ _ _ _) (sizeLine_ge (by simp [hx]; omega)) fun h' o' F' N' hd' => h h' _ F' N' (R.putF (addEd f k e) .ed trivial (fun t => by cases t <;> rfl) ?_ ?_ R.lo) (Keep.putF .ed trivial fun t => by cases t <;> rfl)
  · rw [hst] at hd'; exact hd'
  · intro t ht hl o ho
    cases t <;> first | exact ho | exact absurd rfl ht
theorem Rep.aside {W f m l} (R : Rep w W f m l) {d : Addr} {o o' : Obj} (hd : Loc W.n f m l d o) (hr : d ≠ m.rl) : Rep w W f m (Mine.put d o' l) ∧ Loc W.n f m (Mine.put d o' l) d o' ∧ KeepBut d W.n f m l W.n f m (Mine.put d o' l) :=
  ⟨⟨fun s hs => let ⟨o₁, hm, hw⟩ := R.has s hs; ⟨o₁, mem_put_ne (fun e => by
      by_cases h : s = .rl
      · subst h; exact hr e.symm
      · exact hd.2 s hs h e) hm, hw⟩, R.inj, R.lo⟩, ⟨mem_put_self, hd.2⟩, fun _ _ hb hl => ⟨mem_put_ne hb hl.1, hl.2⟩⟩
def newF (f : Fix) (k : Nat) (x d e : Addr) : Fix := { f with x := fun i => if i = k then x else f.x i, d := fun i => if i = k then d else f.d i, e := fun i => if i = k then e else f.e i, xal := [], xed := [] }
def newW (W : St) (sz : Int) : St := { W with n := W.n + 1, mark := fun j => if j = W.n + 1 then W.white else W.mark j, size := fun j => if j = W.n + 1 then sz else W.size j, edges := fun j => if j = W.n + 1 then [] else W.edges j, kept := W.kept ++ [W.n + 1] }
theorem refs_new {f : Fix} {k : Nat} {x d e : Addr} {ns : List Nat} (h : ∀ j ∈ ns, j ≠ k) : refs (newF f k x d e) ns = refs f ns := by
  apply List.map_congr_left
  intro j hj
  show Value.ref (if j = k then x else f.x j) = _
  rw [if_neg (h j hj)]
theorem Rep.adopt (R : Rep w W f m l) (hW : WF W) {x d e : Addr} {t : Nat → Tok} {sz : Int} {ep : Nat} {o' : Obj} (hxal : f.xal = [x]) (hxed : f.xed = [((W.n : Int) + 1, e)])
    (hx : Loc W.n f m l x (instObj 367 d)) (hd : Loc W.n f m l d (obD w.params t ((W.n : Int) + 1) W.white sz)) (he : Loc W.n f m l e (PySem.W.listOf #[] ep)) (nxd : x ≠ d) (nxe : x ≠ e) (nde : d ≠ e) (rx : x ≠ m.rl) (rd : d ≠ m.rl) (re : e ≠ m.rl)
    (ho : o'.IsDictOf (PySem.intKind PR w) ((W.kept ++ [W.n + 1]).map fun i : Nat => ((i : Int), Value.ref ((newF f (W.n + 1) x d e).x i)))) :
    Rep w (newW W sz) (newF f (W.n + 1) x d e) m (Mine.put f.od o' l) ∧ ∀ b ob, b ≠ x → b ≠ d → b ≠ e → Loc W.n f m l b ob → Loc (newW W sz).n (newF f (W.n + 1) x d e) m (Mine.put f.od o' l) b ob := by
  have off : ∀ {a : Addr} {o : Obj}, Loc W.n f m l a o → a ≠ m.rl → ∀ s, live W.n s → s.at f m ≠ a := fun {a o} ha hr s hs e => by
    by_cases h : s = .rl
    · subst h; exact hr e.symm
    · exact ha.2 s hs h e
  -- each slot of the new world: an old one, or one of the three
  have kind : ∀ s, live (W.n + 1) s → (s = .x (W.n + 1) ∧ s.at (newF f (W.n + 1) x d e) m = x) ∨ (s = .d (W.n + 1) ∧ s.at (newF f (W.n + 1) x d e) m = d) ∨ (s = .e (W.n + 1) ∧ s.at (newF f (W.n + 1) x d e) m = e) ∨ (live W.n s ∧ s.at (newF f (W.n + 1) x d e) m = s.at f m) := fun s hs => by
    cases s
    case x i =>
      by_cases h : i = W.n + 1
      · subst h; exact .inl ⟨rfl, if_pos rfl⟩
      · exact .inr (.inr (.inr ⟨⟨hs.1, by have := hs.2; omega⟩, if_neg h⟩))
    case d i =>
      by_cases h : i = W.n + 1
      · subst h; exact .inr (.inl ⟨rfl, if_pos rfl⟩)
      · exact .inr (.inr (.inr ⟨⟨hs.1, by have := hs.2; omega⟩, if_neg h⟩))
    case e i =>
      by_cases h : i = W.n + 1
      · subst h; exact .inr (.inr (.inl ⟨rfl, if_pos rfl⟩))
      · exact .inr (.inr (.inr ⟨⟨hs.1, by have := hs.2; omega⟩, if_neg h⟩))
    all_goals exact .inr (.inr (.inr ⟨hs, rfl⟩))
  have ox := off hx rx
  have od := off hd rd
  have oe := off he re
  have le : ∀ {ns : List Nat}, (∀ j ∈ ns, 1 ≤ j ∧ j ≤ W.n) → ∀ j ∈ ns, j ≠ W.n + 1 := fun h j hj => by have := (h j hj).2; omega
  have odne : ∀ s, live W.n s → s ≠ .od → s.at f m ≠ f.od := fun s hs h => R.ne (t := .od) h hs trivial
  have xne : x ≠ f.od := fun q => ox .od trivial q.symm
  have dne : d ≠ f.od := fun q => od .od trivial q.symm
  have ene : e ≠ f.od := fun q => oe .od trivial q.symm
  have rng : ∀ j ∈ List.range' 1 W.n, j ≠ W.n + 1 := fun j hj => by have := (List.mem_range'_1.mp hj).2; omega
  have r1 : List.range' 1 (W.n + 1) = List.range' 1 W.n ++ [W.n + 1] := by rw [List.range'_concat]; simp [Nat.add_comm]
  refine ⟨⟨fun s hs => ?_, fun s u hs hu q => ?_, R.lo⟩, fun b ob b1 b2 b3 hb => ⟨mem_put_ne (fun q => hb.2 .od trivial nofun q.symm) hb.1, fun s hs hr q => ?_⟩⟩
  · rcases kind s hs with ⟨rfl, q⟩ | ⟨rfl, q⟩ | ⟨rfl, q⟩ | ⟨hl, q⟩
    · rw [q]; exact ⟨_, mem_put_ne xne hx.1, by show _ = instObj 367 (if W.n + 1 = W.n + 1 then d else _); rw [if_pos rfl]⟩
    · rw [q]; exact ⟨_, mem_put_ne dne hd.1, t, by
        show _ = obD w.params t ((W.n + 1 : Nat) : Int) (if W.n + 1 = W.n + 1 then W.white else _) (if W.n + 1 = W.n + 1 then sz else _)
        rw [if_pos rfl, if_pos rfl]; rfl⟩
    · rw [q]; exact ⟨_, mem_put_ne ene he.1, fun _ => 0, ep, by show _ = PySem.W.listOf (List.mapIdx _ (if W.n + 1 = W.n + 1 then [] else _)).toArray ep; rw [if_pos rfl]; rfl⟩
    · rw [q]
      by_cases h : s = .od
      · subst h; exact ⟨o', mem_put_self, ho⟩
      · obtain ⟨o, hm, hw⟩ := R.has s hl
        refine ⟨o, mem_put_ne (odne s hl h) hm, ?_⟩
        cases s
        case al =>
          obtain ⟨ep, q⟩ := hw
          refine ⟨ep, ?_⟩
          rw [q, hxal]
          congr 2
          show _ = refs (newF f (W.n + 1) x d e) (List.range' 1 (W.n + 1)) ++ []
          rw [r1]
          simp only [refs, List.map_append, List.append_nil]
          rw [show (List.range' 1 W.n).map (fun i : Nat => Value.ref ((newF f (W.n + 1) x d e).x i)) = _ from refs_new rng]
          simp [newF]
        case ed =>
          have hw' : o.IsDictOf (PySem.intKind PR w) (((List.range' 1 W.n).map fun i : Nat => ((i : Int), Value.ref (f.e i))) ++ f.xed.map fun q => (q.1, Value.ref q.2)) := hw
          have e1 : (((List.range' 1 W.n).map fun i : Nat => ((i : Int), Value.ref (f.e i))) ++ f.xed.map fun q => (q.1, Value.ref q.2)) = (((List.range' 1 (W.n + 1)).map fun i : Nat => ((i : Int), Value.ref ((newF f (W.n + 1) x d e).e i))) ++ ([] : List (Int × Addr)).map fun q => (q.1, Value.ref q.2)) := by
            rw [hxed, r1, List.map_append, List.map_nil, List.append_nil]
            congr 1
            · apply List.map_congr_left
              intro j hj
              show _ = ((j : Int), Value.ref (if j = W.n + 1 then e else f.e j))
              rw [if_neg (rng j hj)]
            · simp [newF]
          rw [e1] at hw'
          exact hw'
        case od => exact absurd rfl h
        case rl => obtain ⟨ep, q⟩ := hw; exact ⟨ep, by rw [q]; exact congrArg (fun z : List Value => PySem.W.listOf z.toArray ep) (refs_new (le hW.hr)).symm⟩
        case gr => obtain ⟨ep, q⟩ := hw; exact ⟨ep, by rw [q]; exact congrArg (fun z : List Value => PySem.W.listOf z.toArray ep) (refs_new (le fun j hj => (hW.hg j hj).1)).symm⟩
        case x i =>
          have hne : i ≠ W.n + 1 := by have := hl.2; omega
          have hw' : o = instObj 367 (f.d i) := hw
          show o = instObj 367 (if i = W.n + 1 then d else f.d i)
          rw [if_neg hne]; exact hw'
        case d i =>
          have hne : i ≠ W.n + 1 := by have := hl.2; omega
          obtain ⟨t, hw'⟩ := hw
          refine ⟨t, ?_⟩
          show o = obD w.params t (i : Int) (if i = W.n + 1 then W.white else W.mark i) (if i = W.n + 1 then sz else W.size i)
          rw [if_neg hne, if_neg hne]; exact hw'
        case e i =>
          have hne : i ≠ W.n + 1 := by have := hl.2; omega
          obtain ⟨t, ep, hw'⟩ := hw
          refine ⟨t, ep, ?_⟩
          show o = PySem.W.listOf (List.mapIdx _ (if i = W.n + 1 then [] else W.edges i)).toArray ep
          rw [if_neg hne]; exact hw'
        all_goals exact hw
  · rcases kind s hs with ⟨rfl, q1⟩ | ⟨rfl, q1⟩ | ⟨rfl, q1⟩ | ⟨hl1, q1⟩ <;> rcases kind u hu with ⟨rfl, q2⟩ | ⟨rfl, q2⟩ | ⟨rfl, q2⟩ | ⟨hl2, q2⟩ <;> (try rw [q1] at q) <;> (try rw [q2] at q)
    · exact absurd q nxd
    · exact absurd q nxe
    · exact absurd q.symm (ox u hl2)
    · exact absurd q.symm nxd
    · exact absurd q nde
    · exact absurd q.symm (od u hl2)
    · exact absurd q.symm nxe
    · exact absurd q.symm nde
    · exact absurd q.symm (oe u hl2)
    · exact absurd q (ox s hl1)
    · exact absurd q (od s hl1)
    · exact absurd q (oe s hl1)
    · exact R.inj s u hl1 hl2 q
  · rcases kind s hs with ⟨rfl, q1⟩ | ⟨rfl, q1⟩ | ⟨rfl, q1⟩ | ⟨hl1, q1⟩
    · exact b1 (by rw [← q, q1])
    · exact b2 (by rw [← q, q1])
    · exact b3 (by rw [← q, q1])
    · exact hb.2 s hl1 hr (by rw [← q1]; exact q)
theorem w_loc_number {Q : Unit → Shared → Prop} {x d : Addr} {t : Nat → Tok} {a0 b c : Int} (F : Fr h₀ L s.heap mF) (X : (Mine.k0.heap_1 w.params).In h₀) (N : News h₀ L s.heap l) (R : Rep w W f m l) (hx : Loc W.n f m l x (instObj 367 d)) (hd : Loc W.n f m l d (obD w.params t a0 b c)) (hr : d ≠ m.rl) (nxd : x ≠ d)
    (h : ∀ h' l' t', Fr h₀ L h' mF → News h₀ L h' l' → Rep w W f m l' → Loc W.n f m l' x (instObj 367 d) → Loc W.n f m l' d (obD w.params t' v b c) → KeepBut d W.n f m l W.n f m l' → Q () { s with heap := h', toks := s.toks + 2 }) :
    wpAny (model PySem.Challenge.rw_pq0678_01.row.prog w) A (setAttr (.ref x) (Str.ofString "number") (.int v tk)) Q E s := by
  revert X; k_fill; intro X
  refine' set_put ?k1 ?k2 ?k3 ?k4 ?k5 ?k6 ?k7 ?k8 ?k9 ?k10 ?k11 ?k12 ?_; (case k1 => exact F); (case k2 => exact X); (case k3 => exact N); (case k4 => exact hx.1); (case k5 => exact hd.1); (case k6 => k_is); (case k7 => k_is); (case k8 => k_is); (case k9 => k_is); (case k10 => k_get); (case k11 => k_put); (case k12 => exact Nat.le_of_ble_eq_true rfl)
  intro h' F' N'
  obtain ⟨R', U', K'⟩ := R.aside (o' := obD w.params (tkSet t 3 tk) v b c) hd hr
  exact h h' _ (tkSet t 3 tk) F' N' R' (K' _ _ nxd hx) U' K'
theorem w_loc_mark {Q : Unit → Shared → Prop} {x d : Addr} {t : Nat → Tok} {a0 b c : Int} (F : Fr h₀ L s.heap mF) (X : (Mine.k0.heap_1 w.params).In h₀) (N : News h₀ L s.heap l) (R : Rep w W f m l) (hx : Loc W.n f m l x (instObj 367 d)) (hd : Loc W.n f m l d (obD w.params t a0 b c)) (hr : d ≠ m.rl) (nxd : x ≠ d)
    (h : ∀ h' l' t', Fr h₀ L h' mF → News h₀ L h' l' → Rep w W f m l' → Loc W.n f m l' x (instObj 367 d) → Loc W.n f m l' d (obD w.params t' a0 v c) → KeepBut d W.n f m l W.n f m l' → Q () { s with heap := h', toks := s.toks + 2 }) :
    wpAny (model PySem.Challenge.rw_pq0678_01.row.prog w) A (setAttr (.ref x) (Str.ofString "mark") (.int v tk)) Q E s := by
  revert X; k_fill; intro X
  refine' set_put ?k1 ?k2 ?k3 ?k4 ?k5 ?k6 ?k7 ?k8 ?k9 ?k10 ?k11 ?k12 ?_; (case k1 => exact F); (case k2 => exact X); (case k3 => exact N); (case k4 => exact hx.1); (case k5 => exact hd.1); (case k6 => k_is); (case k7 => k_is); (case k8 => k_is); (case k9 => k_is); (case k10 => k_get); (case k11 => k_put); (case k12 => exact Nat.le_of_ble_eq_true rfl)
  intro h' F' N'
  obtain ⟨R', U', K'⟩ := R.aside (o' := obD w.params (tkSet t 4 tk) a0 v c) hd hr
  exact h h' _ (tkSet t 4 tk) F' N' R' (K' _ _ nxd hx) U' K'
theorem w_loc_size {Q : Unit → Shared → Prop} {x d : Addr} {t : Nat → Tok} {a0 b c : Int} (F : Fr h₀ L s.heap mF) (X : (Mine.k0.heap_1 w.params).In h₀) (N : News h₀ L s.heap l) (R : Rep w W f m l) (hx : Loc W.n f m l x (instObj 367 d)) (hd : Loc W.n f m l d (obD w.params t a0 b c)) (hr : d ≠ m.rl) (nxd : x ≠ d)
    (h : ∀ h' l' t', Fr h₀ L h' mF → News h₀ L h' l' → Rep w W f m l' → Loc W.n f m l' x (instObj 367 d) → Loc W.n f m l' d (obD w.params t' a0 b v) → KeepBut d W.n f m l W.n f m l' → Q () { s with heap := h', toks := s.toks + 2 }) :
    wpAny (model PySem.Challenge.rw_pq0678_01.row.prog w) A (setAttr (.ref x) (Str.ofString "size") (.int v tk)) Q E s := by
  revert X; k_fill; intro X
  refine' set_put ?k1 ?k2 ?k3 ?k4 ?k5 ?k6 ?k7 ?k8 ?k9 ?k10 ?k11 ?k12 ?_; (case k1 => exact F); (case k2 => exact X); (case k3 => exact N); (case k4 => exact hx.1); (case k5 => exact hd.1); (case k6 => k_is); (case k7 => k_is); (case k8 => k_is); (case k9 => k_is); (case k10 => k_get); (case k11 => k_put); (case k12 => exact Nat.le_of_ble_eq_true rfl)
  intro h' F' N'
  obtain ⟨R', U', K'⟩ := R.aside (o' := obD w.params (tkSet t 5 tk) a0 b v) hd hr
  exact h h' _ (tkSet t 5 tk) F' N' R' (K' _ _ nxd hx) U' K'
theorem w_od_adopt {Q : Unit → Shared → Prop} {x d e : Addr} {t : Nat → Tok} {sz : Int} {ep : Nat} {k : Int} (F : Fr h₀ L s.heap mF) (N : News h₀ L s.heap l) (R : Rep w W f m l) (hW : WF W) (hk : k = (W.n : Int) + 1) (hxal : f.xal = [x]) (hxed : f.xed = [((W.n : Int) + 1, e)])
    (hx : Loc W.n f m l x (instObj 367 d)) (hd : Loc W.n f m l d (obD w.params t ((W.n : Int) + 1) W.white sz)) (he : Loc W.n f m l e (PySem.W.listOf #[] ep)) (nxd : x ≠ d) (nxe : x ≠ e) (nde : d ≠ e) (rx : x ≠ m.rl) (rd : d ≠ m.rl) (re : e ≠ m.rl)
    (h : ∀ h' l', Fr h₀ L h' mF → News h₀ L h' l' → Rep w (newW W sz) (newF f (W.n + 1) x d e) m l' → (∀ b ob, b ≠ x → b ≠ d → b ≠ e → Loc W.n f m l b ob → Loc (newW W sz).n (newF f (W.n + 1) x d e) m l' b ob) → Q () { s with heap := h', toks := s.toks + 1 }) :
    wpAny (model PySem.Challenge.rw_pq0678_01.row.prog w) A (setItem (.ref f.od) (.int k tk) (.ref x)) Q E s := by
  subst hk
  have hni : W.n + 1 ∉ W.kept := fun q => by have := (hW.hk _ q).2; omega
  have e1 : W.kept.map (fun i : Nat => ((i : Int), Value.ref (f.x i))) = W.kept.map fun i : Nat => ((i : Int), Value.ref ((newF f (W.n + 1) x d e).x i)) := by
    apply List.map_congr_left
    intro j hj
    have hne : j ≠ W.n + 1 := by have := (hW.hk j hj).2; omega
    show _ = ((j : Int), Value.ref (if j = W.n + 1 then x else f.x j))
    rw [if_neg hne]
  refine kda_set (knd := PySem.intKind _ _) (k := ((W.n + 1 : Nat) : Int)) F (news_front N R.hod) updF_put R.dod (intKind_is _ _ _ _) (sizeLine_ge (by simp; have := hW.kl; omega)) fun h' o' F' N' hd' => ?_
  rw [e1, stored_nats (fun i => Value.ref ((newF f (W.n + 1) x d e).x i)) W.kept (W.n + 1) hni _ (by simp [newF])] at hd'
  obtain ⟨R', K'⟩ := R.adopt hW hxal hxed hx hd he nxd nxe nde rx rd re hd'
  exact h h' _ F' N' R' K'
theorem mapIdx_push {ns : List Nat} {t : Nat → Tok} {i : Nat} {tk : Tok} : ∃ t' : Nat → Tok, (ns.mapIdx fun j (i : Nat) => Value.int (i : Int) (t j)).toArray.push (.int (i : Int) tk) = ((ns ++ [i]).mapIdx fun j (i : Nat) => Value.int (i : Int) (t' j)).toArray := by
  refine ⟨fun j => if j = ns.length then tk else t j, ?_⟩
  rw [List.mapIdx_append, List.push_toArray]
  congr 2
  · apply List.ext_getElem?
    intro j
    rw [List.getElem?_mapIdx, List.getElem?_mapIdx]
    by_cases h : j < ns.length
    · rw [List.getElem?_eq_getElem h]
      simp only [Option.map_some]
      rw [if_neg (by omega)]
    · rw [List.getElem?_eq_none (by omega)]; rfl
  · simp
theorem w_append_e {Q : Value → Shared → Prop} {j : Nat} (F : Fr h₀ L s.heap mF) (N : News h₀ L s.heap l) (R : Rep w W f m l) (h1 : 1 ≤ i) (h2 : i ≤ W.n) (hz : (W.edges i).length ≤ 1000)
    (h : ∀ h' l', Fr h₀ L h' mF → News h₀ L h' l' → Rep w (W.setEdges i (W.edges i ++ [j])) f m l' → Keep W.n f m l (W.setEdges i (W.edges i ++ [j])).n f m l' → Q .none { s with heap := h' }) :
    wpAny (model PySem.Challenge.rw_pq0678_01.row.prog w) A (call (.builtin "list.append") [.ref (f.e i), .int (j : Int) tk]) Q E s := by
  obtain ⟨t', et⟩ := mapIdx_push (ns := W.edges i) (t := (R.qe h1 h2).1) (i := j) (tk := tk)
  refine append_put F N (R.he h1 h2) (sizeLine_ge (by simp; omega)) fun h' F' N' => h h' _ F' N' (R.put (.e i) ⟨h1, h2⟩ rfl ⟨t', (R.qe h1 h2).2 + 1, ?_⟩ ?_) (Keep.put (.e i) ⟨h1, h2⟩)
  · rw [et]; simp only [St.setEdges, if_pos rfl]; rfl
  · intro t ht hl o ho
    cases t <;> try exact ho
    rename_i k
    have hne : k ≠ i := fun e => ht (by rw [e])
    obtain ⟨t, ep, ho⟩ := ho
    exact ⟨t, ep, by rw [ho]; simp only [St.setEdges, if_neg hne]⟩
theorem w_append_ro {Q : Value → Shared → Prop} {j : Nat} (F : Fr h₀ L s.heap mF) (N : News h₀ L s.heap l) (R : Rep w W f m l) (hz : W.roots.length ≤ 1000)
    (h : ∀ h' l', Fr h₀ L h' mF → News h₀ L h' l' → Rep w (W.setRoots (W.roots ++ [j])) f m l' → Keep W.n f m l (W.setRoots (W.roots ++ [j])).n f m l' → Q .none { s with heap := h' }) :
    wpAny (model PySem.Challenge.rw_pq0678_01.row.prog w) A (call (.builtin "list.append") [.ref f.ro, .int (j : Int) tk]) Q E s := by
  obtain ⟨t', et⟩ := mapIdx_push (ns := W.roots) (t := R.qro.1) (i := j) (tk := tk)
  refine append_put F N R.hro (sizeLine_ge (by simp; omega)) fun h' F' N' => h h' _ F' N' (R.put .ro trivial rfl ⟨t', R.qro.2 + 1, ?_⟩ ?_) (Keep.put .ro trivial)
  · rw [et]; rfl
  · intro t ht hl o ho
    cases t <;> first | exact ho | exact absurd rfl ht
end
end
end Mine
namespace Mine
section
abbrev IL (ns : List Nat) (t : Nat → Tok) (ep : Nat) : Obj := PySem.W.listOf (ns.mapIdx fun j (i : Nat) => Value.int (i : Int) (t j)).toArray ep
theorem ints_mapIdx : ∀ (ns : List Nat) (t : Nat → Tok), IntsAre (ns.mapIdx fun j (i : Nat) => Value.int (i : Int) (t j)) (zs ns)
  | [], _ => .nil
  | a :: r, t => by
    rw [List.mapIdx_cons]
    exact .cons (a : Int) (t 0) (ints_mapIdx r fun j => t (j + 1))
theorem mapIdx_of : ∀ {vs : List Value} {ns : List Int}, IntsAre vs ns → (∀ z ∈ ns, 0 ≤ z) → ∃ t : Nat → Tok, vs = (ns.map Int.toNat).mapIdx fun j (i : Nat) => Value.int (i : Int) (t j)
  | _, _, .nil, _ => ⟨fun _ => 0, rfl⟩
  | _, _, .cons n u h, hp => by
    obtain ⟨t, e⟩ := mapIdx_of h fun z hz => hp z (.tail _ hz)
    refine ⟨fun j => match j with | 0 => u | k + 1 => t k, ?_⟩
    rw [List.map_cons, List.mapIdx_cons, ← e, Int.toNat_of_nonneg (hp n (.head _))]
theorem zs_inj {a b : List Nat} : zs a = zs b ↔ a = b := ⟨fun h => by
  have := congrArg (List.map Int.toNat) h
  simpa [zs, List.map_map, Function.comp_def] using this, fun h => by rw [h]⟩
theorem toNat_zs (a : List Nat) : (zs a).map Int.toNat = a := by simp [zs, List.map_map, Function.comp_def]
theorem perm_of {a : List Int} {b : List Nat} (h : a.Perm (zs b)) : (a.map Int.toNat).Perm b ∧ ∀ z ∈ a, 0 ≤ z := by
  refine ⟨by have := h.map Int.toNat; rw [toNat_zs] at this; exact this, fun z hz => ?_⟩
  have := h.mem_iff.mp hz
  obtain ⟨n, _, rfl⟩ := List.mem_map.mp this
  omega
theorem mono_of {a : List Int} (h : a.Pairwise (· ≤ ·)) : (a.map Int.toNat).Pairwise (· ≤ ·) := by
  rw [List.pairwise_map]
  exact h.imp fun q => by omega
section
variable {w : World} {A : Around} {E : Value → Shared → Prop} {s : Shared} {L : Addr} {h₀ : Heap} {mF : Str → Option Value} {l : Led} {W : St} {f : Fix} {m : Mut} {i : Nat} {v : Int} {tk : Tok}
theorem w_list_ro {Q : Value → Shared → Prop} (F : Fr h₀ L s.heap mF) (N : News h₀ L s.heap l) (R : Rep w W f m l) (hz : W.roots.length ≤ 1000)
    (h : ∀ a h' l' (t : Nat → Tok) (ep : Nat), Fr h₀ L h' mF → News h₀ L h' l' → Rep w W f m l' → Loc W.n f m l' a (IL W.roots t ep) → KeepNew a W.n f m l W.n f m l' → a ≠ m.rl → Q (.ref a) { s with heap := h' }) :
    wpAny (model PySem.Challenge.rw_pq0678_01.row.prog w) A (call (.type "list") [.ref f.ro]) Q E s :=
  list_copyK F N (N.isList R.hro) (fun a c h' F' N' hl => let ⟨a1, a2, a3⟩ := R.new hl; h a h' _ R.qro.1 c F' N' a1 a2 a3 fun e => Nat.ne_of_lt (hl _ R.hrl) e.symm) (sizeLine_ge (by simp; omega))
theorem w_ne_lists {Q : Value → Shared → Prop} {a b : Addr} {ns ms : List Nat} {t u : Nat → Tok} {e1 e2 : Nat} (N : News h₀ L s.heap l) (ha : (a, IL ns t e1) ∈ l) (hb : (b, IL ms u e2) ∈ l) (hu : A.units + 64 < cLine)
    (h : Q (.bool (!decide (ns = ms))) s) : wpAny (model PySem.Challenge.rw_pq0678_01.row.prog w) A (compareOp .NotEq (.ref a) (.ref b)) Q E s :=
  ne_intsK (N.isList ha) (ints_mapIdx _ _) (N.isList hb) (ints_mapIdx _ _) hu (by
    have : decide (zs ns = zs ms) = decide (ns = ms) := decide_eq_decide.mpr zs_inj
    rw [this]; exact h)
theorem w_eq_lists {Q : Value → Shared → Prop} {a b : Addr} {ns ms : List Nat} {t u : Nat → Tok} {e1 e2 : Nat} (N : News h₀ L s.heap l) (ha : (a, IL ns t e1) ∈ l) (hb : (b, IL ms u e2) ∈ l) (hu : A.units + 64 < cLine)
    (h : Q (.bool (decide (ns = ms))) s) : wpAny (model PySem.Challenge.rw_pq0678_01.row.prog w) A (compareOp .Eq (.ref a) (.ref b)) Q E s :=
  eq_intsK (N.isList ha) (ints_mapIdx _ _) (N.isList hb) (ints_mapIdx _ _) hu (by
    have : decide (zs ns = zs ms) = decide (ns = ms) := decide_eq_decide.mpr zs_inj
    rw [this]; exact h)
theorem w_loc_pop {Q : Value → Shared → Prop} {a : Addr} {ns : List Nat} {t : Nat → Tok} {ep : Nat} (F : Fr h₀ L s.heap mF) (N : News h₀ L s.heap l) (R : Rep w W f m l) (ha : Loc W.n f m l a (IL (ns ++ [i]) t ep)) (hr : a ≠ m.rl) (hz : ns.length ≤ 1000000)
    (h : ∀ h' l' t', Fr h₀ L h' mF → News h₀ L h' l' → Rep w W f m l' → Loc W.n f m l' a (IL ns t (ep + 1)) → KeepBut a W.n f m l W.n f m l' → Q (.int (i : Int) t') { s with heap := h' }) :
    wpAny (model PySem.Challenge.rw_pq0678_01.row.prog w) A (call (.builtin "list.pop") [.ref a]) Q E s := by
  refine pop_put (p := ns.mapIdx fun j (i : Nat) => Value.int (i : Int) (t j)) (y := .int (i : Int) (t ns.length)) F N ha.1 (by simp [List.mapIdx_append]) (sizeLine_ge (by simp; omega)) fun h' F' N' => ?_
  obtain ⟨R', U', K'⟩ := R.aside (o' := IL ns t (ep + 1)) ha hr
  exact h h' _ _ F' N' R' U' K'
theorem w_loc_append {Q : Value → Shared → Prop} {a : Addr} {ns : List Nat} {t : Nat → Tok} {ep : Nat} (F : Fr h₀ L s.heap mF) (N : News h₀ L s.heap l) (R : Rep w W f m l) (ha : Loc W.n f m l a (IL ns t ep)) (hr : a ≠ m.rl) (hz : ns.length ≤ 1000000)
    (h : ∀ h' l' t', Fr h₀ L h' mF → News h₀ L h' l' → Rep w W f m l' → Loc W.n f m l' a (IL (ns ++ [i]) t' (ep + 1)) → KeepBut a W.n f m l W.n f m l' → Q .none { s with heap := h' }) :
    wpAny (model PySem.Challenge.rw_pq0678_01.row.prog w) A (call (.builtin "list.append") [.ref a, .int (i : Int) tk]) Q E s := by
  obtain ⟨t', et⟩ := mapIdx_push (ns := ns) (t := t) (i := i) (tk := tk)
  refine append_put F N ha.1 (sizeLine_ge (by simp; omega)) fun h' F' N' => ?_
  rw [et] at N'
  obtain ⟨R', U', K'⟩ := R.aside (o' := IL (ns ++ [i]) t' (ep + 1)) ha hr
  exact h h' _ t' F' N' R' U' K'
theorem mapIdx_app (ns ms : List Nat) (t u : Nat → Tok) : ∃ t' : Nat → Tok, (ns.mapIdx fun j (i : Nat) => Value.int (i : Int) (t j)) ++ (ms.mapIdx fun j (i : Nat) => Value.int (i : Int) (u j)) = (ns ++ ms).mapIdx fun j (i : Nat) => Value.int (i : Int) (t' j) := by
  refine ⟨fun j => if j < ns.length then t j else u (j - ns.length), List.ext_getElem? fun j => ?_⟩
  rw [List.getElem?_mapIdx]
  by_cases h : j < ns.length
  · rw [List.getElem?_append_left (by simpa using h), List.getElem?_append_left h, List.getElem?_mapIdx]
    simp [h]
  · rw [List.getElem?_append_right (by simp; omega), List.getElem?_append_right (by omega), List.getElem?_mapIdx]
    simp [h]
theorem not_long {n : Nat} (h : n ≤ 1000000) : ¬ Builtin.List.listTooLong n = true := by
  have := sizeLine_ge (n := n) (by omega)
  unfold Builtin.List.listTooLong
  simp
  exact this
theorem w_loc_extend {Q : Value → Shared → Prop} {a b : Addr} {ns ms : List Nat} {t u : Nat → Tok} {ep eq : Nat} (F : Fr h₀ L s.heap mF) (N : News h₀ L s.heap l) (R : Rep w W f m l) (ha : Loc W.n f m l a (IL ns t ep)) (hr : a ≠ m.rl) (hb : (b, IL ms u eq) ∈ l) (hab : b ≠ a) (hz : ns.length + ms.length ≤ 1000000)
    (h : ∀ h' l' t' ep', Fr h₀ L h' mF → News h₀ L h' l' → Rep w W f m l' → Loc W.n f m l' a (IL (ns ++ ms) t' ep') → KeepBut a W.n f m l W.n f m l' → Q .none { s with heap := h' }) :
    wpAny (model PySem.Challenge.rw_pq0678_01.row.prog w) A (call (.builtin "list.extend") [.ref a, .ref b]) Q E s := by
  obtain ⟨t', et⟩ := mapIdx_app ns ms t u
  have hb' : (b, IL ms u eq) ∈ (a, IL ns t ep) :: l.filter (fun p => p.1 ≠ a) := .tail _ (List.mem_filter.mpr ⟨hb, by simpa using hab⟩)
  have hd : ¬(!((ns.mapIdx fun j (i : Nat) => Value.int (i : Int) (t j)).toArray).isEmpty && Builtin.List.listTooLong ((ns.mapIdx fun j (i : Nat) => Value.int (i : Int) (t j)).toArray.size + (ms.mapIdx fun j (i : Nat) => Value.int (i : Int) (u j)).toArray.size)) = true := by
    rw [Bool.and_eq_true]
    exact fun q => not_long (by simp; omega) q.2
  by_cases hm : ms = []
  · subst hm
    refine kxn_extend F (news_front N ha.1) hb' (by simp) upd_put hd (sizeLine_ge (by simp; simp at hz; omega)) (Nat.le_succ_of_le (sizeLine_ge (by simp; simp at hz; omega))) fun h' F' N' => ?_
    obtain ⟨R', U', K'⟩ := R.aside (o' := IL ns t ep) ha hr
    exact h h' _ t ep F' N' R' (by rw [List.append_nil]; exact U') K'
  · refine kl_extend F (news_front N ha.1) hb' (l := (ns ++ ms).mapIdx fun j (i : Nat) => Value.int (i : Int) (t' j)) (by rw [← et]) (by simpa using hm) upd_put hd (sizeLine_ge (by simp; omega)) (Nat.le_succ_of_le (sizeLine_ge (by simp; omega))) fun h' F' N' => ?_
    obtain ⟨R', U', K'⟩ := R.aside (o' := IL (ns ++ ms) t' (ep + 1)) ha hr
    exact h h' _ t' (ep + 1) F' N' R' U' K'
theorem any_ints : ∀ (ns : List Nat) (i : Nat), ((zs ns).map PyData.int).any (fun y => PyData.eqv y (.int (i : Int))) = decide (i ∈ ns)
  | [], _ => by simp
  | a :: r, i => by
    have ih := any_ints r i
    simp only [zs, List.map_cons, List.any_cons] at ih ⊢
    rw [ih]
    by_cases e : a = i
    · subst e; simp [PyData.eqv]
    · have h1 : ¬ i = a := fun q => e q.symm
      have h2 : ¬ ((a : Int) = (i : Int)) := by omega
      simp [PyData.eqv, h1, h2]
theorem w_notin {Q : Value → Shared → Prop} {a : Addr} {ns : List Nat} {t : Nat → Tok} {ep : Nat} (N : News h₀ L s.heap l) (ha : (a, IL ns t ep) ∈ l) (hu : A.units + 64 < cLine) (h : Q (.bool (!decide (i ∈ ns))) s) :
    wpAny (model PySem.Challenge.rw_pq0678_01.row.prog w) A (compareOp .NotIn (.int (i : Int) tk) (.ref a)) Q E s := by
  refine PySem.SeqAt.notIn_list_reads (d := .int (i : Int)) (reads_of_ints (N.isList ha) (ints_mapIdx _ _)) (Reads.int _ _) (canLayAll0_ints _) rfl ?_ (by rw [any_ints]; exact h)
  have : min (PyData.depthAll ((zs ns).map PyData.int)) (PyData.depth (.int (i : Int))) ≤ 1 := Nat.le_trans (Nat.min_le_left _ _) (depthAll_ints _)
  omega
theorem w_sorted {Q : Value → Shared → Prop} {a : Addr} {ns : List Nat} {t : Nat → Tok} {ep : Nat} (F : Fr h₀ L s.heap mF) (N : News h₀ L s.heap l) (R : Rep w W f m l) (ha : (a, IL ns t ep) ∈ l) (hz : ns.length < 64)
    (h : ∀ b h' l' ms t' ep', Fr h₀ L h' mF → News h₀ L h' l' → Rep w W f m l' → Loc W.n f m l' b (IL ms t' ep') → KeepNew b W.n f m l W.n f m l' → b ≠ m.rl → ms.Perm ns → ms.Pairwise (· ≤ ·) → Q (.ref b) { s with heap := h' }) :
    wpAny (model PySem.Challenge.rw_pq0678_01.row.prog w) A (call (.builtin "sorted") [.ref a]) Q E s := by
  refine kso_sorted F N (N.isList ha) (ints_mapIdx _ _) (by simpa using hz) fun D vs' ns' c h' F' N' l1 hi hl hp ho _ => ?_
  obtain ⟨p1, p2⟩ := perm_of hp
  obtain ⟨t', rfl⟩ := mapIdx_of hi p2
  obtain ⟨a1, a2, a3⟩ := R.new l1
  exact h D h' _ _ t' c F' N' a1 a2 a3 (fun e => Nat.ne_of_lt (l1 _ R.hrl) e.symm) p1 (mono_of ho)
theorem w_sort_made {Q : Value → Shared → Prop} {D : Addr} {vs : List Value} {ns : List Int} {c : Nat} (F : Fr h₀ L s.heap mF) (N : News h₀ L s.heap ((D, PySem.W.listOf vs.toArray c) :: l)) (l1 : ∀ q ∈ l, q.1 < D) (hi : IntsAre vs ns) (h64 : vs.length < 64)
    (h : ∀ h' vs' ns' e, Fr h₀ L h' mF → News h₀ L h' ((D, PySem.W.listOf (List.toArray vs') e) :: l) → IntsAre vs' ns' → ns'.Perm ns → ns'.Pairwise (· ≤ ·) → Q .none { s with heap := h' }) :
    wpAny (model PySem.Challenge.rw_pq0678_01.row.prog w) A (call (.builtin "list.sort") [.ref D]) Q E s := by
  have z := N _ (.head _)
  refine wpAny_call_entry PyProof.Rows.slot_list_sort ⟨_, z.1, rfl⟩ PyProof.Rows.entry_list_sort (list_sort_tree (n := c) (vs := vs) z.1 hi h64 fun out ns' a1 a2 a3 => ⟨.none, rfl, ?_⟩) (PyProof.Rows.args_list_sort _)
  obtain ⟨e, he⟩ := sortedHeap_at (out := out) z.1
  have old : ∀ b o, b ≠ D → s.heap.get? b = some o → (sortedHeap s.heap D vs out).get? b = some o := fun b o hb e => (sortedHeap_old hb (Heap.lt_size e)).trans e
  refine h _ out.toList ns' e ⟨F.ns.at' fun o e => old _ o (Ne.symm z.2.1) e, fun b o e => old b o (fun q => by rw [q, z.2.2] at e; cases e) (F.keep b o e), F.above⟩ (fun q hq => ?_) a1 a2 a3
  rcases List.mem_cons.mp hq with rfl | hq
  · exact ⟨by rw [Array.toArray_toList]; exact he, z.2⟩
  · exact ⟨old _ _ (Nat.ne_of_lt (l1 q hq)) (N q (.tail _ hq)).1, (N q (.tail _ hq)).2⟩
theorem w_sorted_od {Q : Value → Shared → Prop} (hh : A.handled = none) (F : Fr h₀ L s.heap mF) (N : News h₀ L s.heap l) (R : Rep w W f m l) (hz : W.kept.length < 64)
    (h : ∀ b h' l' tk' ms t' ep', Fr h₀ L h' mF → News h₀ L h' l' → Rep w W f m l' → Loc W.n f m l' b (IL ms t' ep') → KeepNew b W.n f m l W.n f m l' → b ≠ m.rl → ms.Perm W.kept → ms.Pairwise (· ≤ ·) → Q (.ref b) { s with heap := h', toks := tk' }) :
    wpAny (model PySem.Challenge.rw_pq0678_01.row.prog w) A (call (.builtin "sorted") [.ref f.od]) Q E s := by
  obtain ⟨ep, hat⟩ := (kda_dict N R.hod R.dod).dictAt
  refine kdu_sorted (kdl_dict (knd := PySem.intKind _ _) (kvs := W.kept.map fun i : Nat => ((i : Int), Value.ref (f.x i))) (ep := ep) R.lo.1) hh F N hat (sizeLine_ge (by simp; omega)) fun D h' tk' vs F' N' l1 hl hv => ?_
  have hi : IntsAre vs (zs W.kept) := by
    have : vs = (W.kept.mapIdx fun j (i : Nat) => Value.int (i : Int) ((fun j => match vs[j]? with | some (.int _ t) => t | _ => 0) j)) := by
      refine List.ext_getElem? fun j => ?_
      rw [List.getElem?_mapIdx]
      by_cases hj : j < vs.length
      · obtain ⟨k, x, hx, hk⟩ := hv j _ (List.getElem?_eq_getElem hj)
        rw [List.getElem?_map] at hx
        obtain ⟨i, hi, e⟩ := Option.map_eq_some_iff.mp hx
        cases e
        obtain ⟨t, ht⟩ := Value.isInt_shape hk
        have e1 : vs[j]? = some (.int (i : Int) t) := by rw [List.getElem?_eq_getElem hj, ht]
        rw [hi]; simp [e1]
      · rw [List.getElem?_eq_none (by omega), List.getElem?_eq_none (by simp at hl; omega)]; rfl
    rw [this]; exact ints_mapIdx _ _
  refine w_sort_made F' N' l1 hi (by simp at hl; omega) fun h'' vs' ns' e F'' N'' hi' hp ho => ?_
  obtain ⟨p1, p2⟩ := perm_of hp
  obtain ⟨t', rfl⟩ := mapIdx_of hi' p2
  obtain ⟨a1, a2, a3⟩ := R.new l1
  exact h D h'' _ tk' _ t' e F'' N'' a1 a2 a3 (fun e => Nat.ne_of_lt (l1 _ R.hrl) e.symm) p1 (mono_of ho)
end
section
variable {w : World} {A : Around} {E : Value → Shared → Prop} {s : Shared} {L : Addr} {h₀ : Heap} {mF : Str → Option Value} {l : Led} {W : St} {f : Fix} {m : Mut} {i : Nat} {v : Int} {tk : Tok}
theorem w_ne_nil {Q : Value → Shared → Prop} {a b : Addr} {ns : List Nat} {t : Nat → Tok} {e1 : Nat} (N : News h₀ L s.heap l) (ha : (a, IL ns t e1) ∈ l) (hb : (b, PySem.W.listOf #[] 0) ∈ l) (hu : A.units + 64 < cLine)
    (h1 : ns ≠ [] → Q (.bool true) s) (h2 : ns = [] → Q (.bool false) s) : wpAny (model PySem.Challenge.rw_pq0678_01.row.prog w) A (compareOp .NotEq (.ref a) (.ref b)) Q E s := by
  refine w_ne_lists (ms := []) (u := fun _ => 0) (e2 := 0) N ha hb hu ?_
  by_cases e : ns = []
  · rw [decide_eq_true e]; exact h2 e
  · rw [decide_eq_false e]; exact h1 e
theorem keep_ne {n : Nat} {f : Fix} {m : Mut} {l l' : Led} {a b : Addr} {o : Obj} (U : Loc n f m l a o) (K : KeepNew b n f m l n f m l') : a ≠ b := (K a o U).1
variable {body : List Stmt} {env : Env}
/-- a while whose turns work on two rows of ints beside the world -/
def TwoEnd (w : World) (h₀ : Heap) (L : Addr) (W : St) (f : Fix) (m : Mut) (a b : Addr) (locs : Led) (P : List Nat → List Nat → (Str → Option Value) → Prop) (s₁ s₂ : Shared) : Prop :=
  ∃ ms ws t e u e' mm l h' tk, s₂ = { s₁ with heap := h', toks := tk } ∧ Fr h₀ L h' mm ∧ News h₀ L h' l ∧ Rep w W f m l ∧ Loc W.n f m l a (IL ms t e) ∧ Loc W.n f m l b (IL ws u e') ∧ (∀ q ∈ locs, Loc W.n f m l q.1 q.2 ∧ q.1 ≠ a ∧ q.1 ≠ b) ∧ P ms ws mm
def TwoPost (w : World) (h₀ : Heap) (L : Addr) (W : St) (f : Fix) (m : Mut) (a b : Addr) (locs : Led) (P : List Nat → List Nat → (Str → Option Value) → Prop) (s₁ : Shared) (Q : Flow → Shared → Prop) (fl : Flow) (s₂ : Shared) : Prop :=
  match fl with
  | .ret v => Q (.ret v) s₂
  | .brk => Q .next s₂
  | _ => TwoEnd w h₀ L W f m a b locs P s₁ s₂
theorem TwoPost.next {Q : Flow → Shared → Prop} {a b : Addr} {locs : Led} {P : List Nat → List Nat → (Str → Option Value) → Prop} {s₁ : Shared} {ms ws : List Nat} {t : Nat → Tok} {e : Nat} {u : Nat → Tok} {e' : Nat} {mm : Str → Option Value} {l : Led} {h' : Heap} {tk : Nat}
    (F : Fr h₀ L h' mm) (N : News h₀ L h' l) (R : Rep w W f m l) (ha : Loc W.n f m l a (IL ms t e)) (hb : Loc W.n f m l b (IL ws u e')) (hl : ∀ q ∈ locs, Loc W.n f m l q.1 q.2 ∧ q.1 ≠ a ∧ q.1 ≠ b) (p : P ms ws mm) :
    TwoPost w h₀ L W f m a b locs P s₁ Q .next { s₁ with heap := h', toks := tk } := ⟨ms, ws, t, e, u, e', mm, l, h', tk, rfl, F, N, R, ha, hb, hl, p⟩
theorem while_two {Q : Flow → Shared → Prop} {test : Expr} {pos : Pos} {m₀ : Str → Option Value} {n₀ : Nat} {a b : Addr} {ms₀ ws₀ : List Nat} {t₀ : Nat → Tok} {e₀ : Nat} {u₀ : Nat → Tok} {e₁ : Nat} (locs : Led) (P : Nat → List Nat → List Nat → (Str → Option Value) → Prop)
    (F : Fr h₀ L s.heap m₀) (N : News h₀ L s.heap l) (R : Rep w W f m l) (ha : Loc W.n f m l a (IL ms₀ t₀ e₀)) (hb : Loc W.n f m l b (IL ws₀ u₀ e₁)) (hl : ∀ q ∈ locs, Loc W.n f m l q.1 q.2 ∧ q.1 ≠ a ∧ q.1 ≠ b) (h0 : P n₀ ms₀ ws₀ m₀)
    (turn : ∀ n ms ws t e u e' mm l h tk, P n ms ws mm → Rep w W f m l → Loc W.n f m l a (IL ms t e) → Loc W.n f m l b (IL ws u e') → (∀ q ∈ locs, Loc W.n f m l q.1 q.2 ∧ q.1 ≠ a ∧ q.1 ≠ b) → Fr h₀ L h mm → News h₀ L h l →
      wpAny (model PySem.Challenge.rw_pq0678_01.row.prog w) A (isTrue test env (eval test env)) (fun c s₂ =>
        if c = true then wpAny (model PySem.Challenge.rw_pq0678_01.row.prog w) A (execs body env) (TwoPost w h₀ L W f m a b locs (fun ms ws mm => ∃ n', n' < n ∧ P n' ms ws mm) s Q) E s₂ else Q .next s₂) E { s with heap := h, toks := tk })
    (hE : PassesOwn (model PySem.Challenge.rw_pq0678_01.row.prog w) A env E := by passes_own) :
    wpAny (model PySem.Challenge.rw_pq0678_01.row.prog w) A (exec (.While test body [] pos) env) Q E s := by
  refine While_inv2 (fun n mm l' => ∃ ms ws t e u e', Rep w W f m l' ∧ Loc W.n f m l' a (IL ms t e) ∧ Loc W.n f m l' b (IL ws u e') ∧ (∀ q ∈ locs, Loc W.n f m l' q.1 q.2 ∧ q.1 ≠ a ∧ q.1 ≠ b) ∧ P n ms ws mm) F N ⟨ms₀, ws₀, t₀, e₀, u₀, e₁, R, ha, hb, hl, h0⟩ ?_ hE
  rintro n m₁ l₁ h₁ tk₁ F₁ N₁ ⟨ms, ws, t, e, u, e', R₁, ha₁, hb₁, hl₁, p₁⟩
  refine wpAny_mono (turn n ms ws t e u e' m₁ l₁ h₁ tk₁ p₁ R₁ ha₁ hb₁ hl₁ F₁ N₁) (fun c s₂ q => ?_) fun _ _ e => e
  cases c with
  | false => simpa using q
  | true =>
    simp only [if_true] at q ⊢
    refine wpAny_mono q (fun fl s₃ q => ?_) fun _ _ e => e
    cases fl with
    | ret v => exact q
    | brk => exact q
    | next => obtain ⟨ms, ws, t, e, u, e', mm, l₂, h₂, tk₂, rfl, F₂, N₂, R₂, ha₂, hb₂, hl₂, n', hn, p₂⟩ := q; exact ⟨h₂, tk₂, mm, l₂, n', rfl, F₂, N₂, hn, ms, ws, t, e, u, e', R₂, ha₂, hb₂, hl₂, p₂⟩
    | cont => obtain ⟨ms, ws, t, e, u, e', mm, l₂, h₂, tk₂, rfl, F₂, N₂, R₂, ha₂, hb₂, hl₂, n', hn, p₂⟩ := q; exact ⟨h₂, tk₂, mm, l₂, n', rfl, F₂, N₂, hn, ms, ws, t, e, u, e', R₂, ha₂, hb₂, hl₂, p₂⟩
end
end
end Mine
namespace Mine
section
theorem ints_erase : ∀ (ns : List Nat) (t : Nat → Tok) (k : Nat), ∃ t' : Nat → Tok, ((ns.mapIdx fun j (i : Nat) => Value.int (i : Int) (t j)).eraseIdx k) = (ns.eraseIdx k).mapIdx fun j (i : Nat) => Value.int (i : Int) (t' j) := by
  intro ns t k
  refine ⟨fun j => if j < k then t j else t (j + 1), List.ext_getElem? fun j => ?_⟩
  rw [List.getElem?_mapIdx, List.getElem?_eraseIdx, List.getElem?_eraseIdx]
  by_cases h : j < k
  · rw [if_pos h, if_pos h, List.getElem?_mapIdx]; simp [h]
  · rw [if_neg h, if_neg h, List.getElem?_mapIdx]; simp [h]
theorem cut_at : ∀ (vs : List Value) (k : Nat) (h : k < vs.length), kl_cut vs k = some (vs.take k, vs[k], vs.drop (k + 1))
  | [], _, h => absurd h (Nat.not_lt_zero _)
  | x :: r, 0, _ => by unfold kl_cut; simp
  | x :: r, k + 1, h => by
    unfold kl_cut
    rw [cut_at r k (by simpa using h)]
    simp
theorem Upd.of_eq {d : Addr} {o : Obj} {vs us : List Value} {n : Nat} {l l' : Led} (e : vs = us) (h : Upd d o (PySem.W.listOf us.toArray n) l l') : Upd d o (PySem.W.listOf vs.toArray n) l l' := by rw [e]; exact h
section
variable {w : World} {A : Around} {E : Value → Shared → Prop} {s : Shared} {L : Addr} {h₀ : Heap} {mF : Str → Option Value} {l : Led} {W : St} {f : Fix} {m : Mut} {i : Nat} {v : Int} {tk : Tok}
theorem pop_at {Q : Value → Shared → Prop} {D : Addr} {ns : List Nat} {t : Nat → Tok} {ep k : Nat} (F : Fr h₀ L s.heap mF) (N : News h₀ L s.heap l) (hm : (D, IL ns t ep) ∈ l) (hk : k < ns.length) (hz : ns.length ≤ 1000)
    (h : ∀ y h' t', Fr h₀ L h' mF → News h₀ L h' (put D (IL (ns.eraseIdx k) t' (ep + 1)) l) → Q y { s with heap := h' }) :
    wpAny (model PySem.Challenge.rw_pq0678_01.row.prog w) A (call (.builtin "list.pop") [.ref D, .int (k : Int) tk]) Q E s := by
  obtain ⟨t', et⟩ := ints_erase ns t k
  have hk' : k < (ns.mapIdx fun j (i : Nat) => Value.int (i : Int) (t j)).length := by simpa using hk
  have e1 : (ns.mapIdx fun j (i : Nat) => Value.int (i : Int) (t j)).take k ++ (ns.mapIdx fun j (i : Nat) => Value.int (i : Int) (t j)).drop (k + 1) = (ns.eraseIdx k).mapIdx fun j (i : Nat) => Value.int (i : Int) (t' j) := by
    rw [← et, List.eraseIdx_eq_take_drop_succ]
  have hl : (ns.mapIdx fun j (i : Nat) => Value.int (i : Int) (t j)).length = ns.length := List.length_mapIdx
  refine kl_popAt (k := k) (its := (ns.mapIdx fun j (i : Nat) => Value.int (i : Int) (t j)).toArray) F (news_front N hm) ?_ ?_ (cut_at _ k hk') (Upd.of_eq e1 upd_put) (sizeLine_ge (by show (ns.mapIdx fun j (i : Nat) => Value.int (i : Int) (t j)).length ≤ _; omega)) fun h' F' N' => h _ h' t' F' N'
  · unfold Builtin.List.listFitsIndex
    have a1 : -(2 ^ 63 : Int) ≤ (k : Int) := by omega
    have a2 : (k : Int) < 2 ^ 63 := by omega
    simp only [a1, a2, decide_true, Bool.and_self]
  · unfold seqIndex?
    rw [List.size_toArray, hl]
    have a1 : ¬ ((k : Int) < 0) := by omega
    have a2 : (0 : Int) ≤ k := by omega
    have a3 : (k : Int) < (ns.length : Int) := by omega
    simp only [if_neg a1, a2, a3, decide_true, Bool.and_self, if_true, Int.toNat_natCast]
theorem w_ro_pop {Q : Value → Shared → Prop} {k : Nat} {kk : Int} (e : kk = (k : Int)) (F : Fr h₀ L s.heap mF) (N : News h₀ L s.heap l) (R : Rep w W f m l) (hk : k < W.roots.length) (hz : W.roots.length ≤ 1000)
    (h : ∀ y h' l', Fr h₀ L h' mF → News h₀ L h' l' → Rep w (W.setRoots (W.roots.eraseIdx k)) f m l' → Keep W.n f m l (W.setRoots (W.roots.eraseIdx k)).n f m l' → Q y { s with heap := h' }) :
    wpAny (model PySem.Challenge.rw_pq0678_01.row.prog w) A (call (.builtin "list.pop") [.ref f.ro, .int kk tk]) Q E s := by
  subst e
  refine pop_at F N R.hro hk hz fun y h' t' F' N' => h y h' _ F' N' (R.put .ro trivial rfl ⟨t', R.qro.2 + 1, rfl⟩ ?_) (Keep.put .ro trivial)
  intro t ht hl o ho
  cases t <;> first | exact ho | exact absurd rfl ht
theorem w_e_pop {Q : Value → Shared → Prop} {k : Nat} {kk : Int} (e : kk = (k : Int)) (F : Fr h₀ L s.heap mF) (N : News h₀ L s.heap l) (R : Rep w W f m l) (h1 : 1 ≤ i) (h2 : i ≤ W.n) (hk : k < (W.edges i).length) (hz : (W.edges i).length ≤ 1000)
    (h : ∀ y h' l', Fr h₀ L h' mF → News h₀ L h' l' → Rep w (W.setEdges i ((W.edges i).eraseIdx k)) f m l' → Keep W.n f m l (W.setEdges i ((W.edges i).eraseIdx k)).n f m l' → Q y { s with heap := h' }) :
    wpAny (model PySem.Challenge.rw_pq0678_01.row.prog w) A (call (.builtin "list.pop") [.ref (f.e i), .int kk tk]) Q E s := by
  subst e
  refine pop_at F N (R.he h1 h2) hk hz fun y h' t' F' N' => h y h' _ F' N' (R.put (.e i) ⟨h1, h2⟩ rfl ⟨t', (R.qe h1 h2).2 + 1, ?_⟩ ?_) (Keep.put (.e i) ⟨h1, h2⟩)
  · simp only [St.setEdges, if_pos rfl]; rfl
  · intro t ht hl o ho
    cases t <;> try exact ho
    rename_i k
    have hne : k ≠ i := fun e => ht (by rw [e])
    obtain ⟨t, ep, ho⟩ := ho
    exact ⟨t, ep, by rw [ho]; simp only [St.setEdges, if_neg hne]⟩
theorem w_at {value slice : PySem.Expr} {Q : Value → Shared → Prop} {a : Addr} {ns : List Nat} {t : Nat → Tok} {ep k : Nat} {kk : Int} (N : News h₀ L s.heap l) (ha : (a, IL ns t ep) ∈ l) (e : kk = (k : Int)) (hk : k < ns.length) (hz : ns.length ≤ 1000)
    (hs : subscripted slice false (.ref a) (.int kk tk) = operate [.ref a, .int kk tk] (getItem (.ref a) (.int kk tk)))
    (h : ∀ i t', i ∈ ns → Q (.int (i : Int) t') s) :
    wpAny (model PySem.Challenge.rw_pq0678_01.row.prog w) A (subscriptTail value slice (.ref a) (.int kk tk)) Q E s := by
  subst e
  have hL : s.heap.IsList a (ns.mapIdx fun j (i : Nat) => Value.int (i : Int) (t j)).toArray := N.isList ha
  refine tail_any hL.typeIs slot_list_getitem.lookup (wpAny_getItem_list hL (by omega) (by omega) ?_ (h ns[k] (t k) (List.getElem_mem hk))) hs
  rw [List.getElem?_toArray, Int.toNat_natCast, List.getElem?_mapIdx, List.getElem?_eq_getElem hk]
  rfl
theorem w_len_il {Q : Value → Shared → Prop} {a : Addr} {ns : List Nat} {t : Nat → Tok} {ep : Nat} (N : News h₀ L s.heap l) (hm : (a, IL ns t ep) ∈ l) (hz : ns.length ≤ 1000) (h : Q (.int (ns.length : Int) (s.toks + 1)) { s with toks := s.toks + 1 + 1 }) :
    wpAny (model PySem.Challenge.rw_pq0678_01.row.prog w) A (call (.builtin "len") [.ref a]) Q E s :=
  len_list (N.isList hm) (by simp; omega) (by simpa using h)
theorem w_eq_nil {Q : Value → Shared → Prop} {a b : Addr} {ns : List Nat} {t : Nat → Tok} {e1 : Nat} (N : News h₀ L s.heap l) (ha : (a, IL ns t e1) ∈ l) (hb : (b, PySem.W.listOf #[] 0) ∈ l) (hu : A.units + 64 < cLine)
    (h1 : ns = [] → Q (.bool true) s) (h2 : ns ≠ [] → Q (.bool false) s) : wpAny (model PySem.Challenge.rw_pq0678_01.row.prog w) A (compareOp .Eq (.ref a) (.ref b)) Q E s := by
  refine w_eq_lists (ms := []) (u := fun _ => 0) (e2 := 0) N ha hb hu ?_
  by_cases e : ns = []
  · rw [decide_eq_true e]; exact h1 e
  · rw [decide_eq_false e]; exact h2 e
end
section
variable {prog : Program} {w : World} {A : Around} {E : Value → Shared → Prop} {s : Shared} {env : Env} {h₀ : Heap} {x : Str} {body : List Stmt} {Q : Flow → Shared → Prop}
theorem iter_range {r : Addr} {a₀ b₀ : Int} {t₀ u₀ v₀ : Tok} {n : Nat} {l : Led} {W : St} {f : Fix} {m : Mut} {m₀ : Str → Option Value} (locs : Led) (P : Nat → St → Fix → Mut → (Str → Option Value) → Prop)
    (hh : A.handled = none) (hr : IsRange s.heap r a₀ b₀ 1 t₀ u₀ v₀) (hsmall : Builtin.Range.small a₀ b₀ 1 = true) (hn : Builtin.Range.rangeSize a₀ b₀ 1 = (n : Int))
    (F : Fr h₀ env.locals s.heap m₀) (N : News h₀ env.locals s.heap l) (R : Rep w W f m l) (hlocs : ∀ q ∈ locs, Loc W.n f m l q.1 q.2) (h0 : P 0 W f m m₀)
    (turn : ∀ i k t W f m mm l h tk I oI, i < n → P i W f m mm → Rep w W f m l → (∀ q ∈ locs, Loc W.n f m l q.1 q.2) → Loc W.n f m l I oI → Fr h₀ env.locals h (fun y => if y = x then some (.int k t) else mm y) → News h₀ env.locals h l →
      wpAny (model prog w) A (execs body env) (ForPost w h₀ env.locals ((I, oI) :: locs) (P (i + 1)) { s with heap := h, toks := tk } Q) E { s with heap := h, toks := tk })
    (done : ∀ W f m mm l h tk, P n W f m mm → Rep w W f m l → (∀ q ∈ locs, Loc W.n f m l q.1 q.2) → Fr h₀ env.locals h mm → News h₀ env.locals h l → Q .next { s with heap := h, toks := tk }) :
    wpAny (model prog w) A (pyIter (.ref r)) (fun it s₂ => LoopAtV prog w A h₀ env x body Q E it s₂) E s := by
  refine wpAny_pyIter_range hr hsmall ?_
  have Wk : Walks prog w A s.heap.objs.size [s.heap.objs.size] [s.heap.objs.size] n (fun i v => i < n ∧ ∃ t, v = .int (a₀ + i * 1) t)
      (fun i h => IsRangeIter h s.heap.objs.size (a₀ + (i : Nat) * 1) ((n : Int) - (i : Nat)) 1) := (Walks.range hh _ a₀ 1 n).bound
  have hfresh : ∀ p ∈ l, p.1 ≠ s.heap.objs.size := fun p hp => Nat.ne_of_lt (Heap.lt_size (N p hp).1)
  let J : Nat → (Str → Option Value) → Led → Prop := fun i mm l' => ∃ W f m, P i W f m mm ∧ Rep w W f m l' ∧ (∀ q ∈ locs, Loc W.n f m l' q.1 q.2) ∧ Off W.n f m s.heap.objs.size
  refine ⟨_, _, _, n, _, _, m₀, l, J, rfl, Wk, ?_, ?_, ?_, (by show IsRangeIter _ _ _ _ _; rw [hn]; simpa using Heap.get?_push_size _ rfl), F.push _, (fun p hp => ⟨Heap.get?_push_of_some _ (N p hp).1, (N p hp).2⟩), ?_, ?_, ?_⟩
  · intro hm
    exact absurd F.ns.lt ((List.mem_singleton.mp hm) ▸ Nat.lt_irrefl _)
  · intro b hb
    rw [List.mem_singleton.mp hb]
    exact next_is_new F
  · intro p hp hI
    exact hfresh p hp (List.mem_singleton.mp hI)
  · exact ⟨W, f, m, h0, R, hlocs, R.off hfresh⟩
  · rintro i v m₁ news₁ s₁ own ⟨hh', tk', rfl⟩ hin ⟨_, t, rfl⟩ ⟨W₁, f₁, m₁', hp1, R₁, hl₁, hoffI⟩ hoff hown hget hmem hst F₁ N₁
    have hoi : hh'.get? s.heap.objs.size = some (krsIt (a₀ + ((i + 1 : Nat) : Int) * 1) ((n : Int) - ((i + 1 : Nat) : Int)) 1) := hst
    have hoc : (krsIt (a₀ + ((i + 1 : Nat) : Int) * 1) ((n : Int) - ((i + 1 : Nat) : Int)) 1).cls = .type "range_iterator" := rfl
    generalize krsIt (a₀ + ((i + 1 : Nat) : Int) * 1) ((n : Int) - ((i + 1 : Nat) : Int)) 1 = oi at hoi hoc
    have hIo : (s.heap.objs.size, oi) ∈ own := hmem _ (.head _) (next_is_new F) oi hoi
    have hsub : ∀ p ∈ news₁, p ∈ own ++ news₁ := fun p hp => List.mem_append_right _ hp
    have up := Keep.more (n := W₁.n) (f := f₁) (m := m₁') hsub
    refine wpAny_mono (turn i _ t W₁ f₁ m₁' m₁ _ hh' tk' s.heap.objs.size oi hin hp1 (R₁.mono hsub) (fun q hq => up _ _ (hl₁ q hq)) ⟨List.mem_append_left _ hIo, hoffI⟩ F₁ N₁) (fun fl s₂ p => ?_) fun _ _ e => e
    have fin : ForEnd w h₀ env.locals ((s.heap.objs.size, oi) :: locs) (P (i + 1)) { s with heap := hh', toks := tk' } s₂ → LoopStepU h₀ env.locals [s.heap.objs.size] own (J (i + 1)) { s with heap := hh', toks := tk' } .next s₂ := by
      rintro ⟨W₂, f₂, m₂, mm₂, l₂, h₂, tk₂, rfl, F₂, N₂, R₂, hl₂, p₂⟩
      have hI₂ := hl₂ _ (.head _)
      have hr₂ : m₂.rl ≠ s.heap.objs.size := fun e => by
        have z := (N₂ _ R₂.hrl).1
        have z' := (N₂ _ hI₂.1).1
        rw [show (m₂.rl, PySem.W.listOf (refs f₂ W₂.rlist).toArray R₂.erl).1 = s.heap.objs.size from e] at z
        rw [z] at z'
        have e9 : PySem.W.listOf (refs f₂ W₂.rlist).toArray R₂.erl = oi := Option.some.inj z'
        rw [← e9] at hoc
        exact absurd hoc (by simp [PySem.W.listOf])
      refine ⟨rfl, h₂, tk₂, mm₂, l₂.filter (fun p => p.1 ≠ s.heap.objs.size), rfl, F₂, fun p hp => ?_, fun p hp hq => ?_, W₂, f₂, m₂, p₂, R₂.drop hI₂.2 hr₂, fun q hq => ?_, hI₂.2⟩
      · rcases List.mem_append.mp hp with hp | hp
        · have e := List.mem_singleton.mp (hown p hp)
          have e1 := hget p hp
          rw [e, hoi] at e1
          have : p = (s.heap.objs.size, oi) := Prod.ext e (Option.some.inj e1).symm
          rw [this]; exact N₂ _ hI₂.1
        · exact N₂ p (List.mem_filter.mp hp).1
      · have := (List.mem_filter.mp hp).2
        simp only [ne_eq, decide_not, Bool.not_eq_true', decide_eq_false_iff_not] at this
        exact this (List.mem_singleton.mp hq)
      · have hq2 := hl₂ q (.tail _ hq)
        refine hq2.drop fun e => ?_
        exact hoff _ (hl₁ q hq).1 (List.mem_singleton.mpr e)
    cases fl with
    | ret v => exact .ret p
    | brk => exact .brk p
    | next => exact .next (fin p)
    | cont => exact .cont (fin p)
  · rintro h' tk m' news' F' N' _ ⟨W₁, f₁, m₁', hp1, R₁, hl₁, _⟩
    exact done W₁ f₁ m₁' m' news' h' tk hp1 R₁ hl₁ F' N'
/-- the ways of a branch meet again -/
def CutPost (w : World) (h₀ : Heap) (L : Addr) (locs : Led) (P : St → Fix → Mut → (Str → Option Value) → Prop) (s₁ : Shared) (Q : Flow → Shared → Prop) (fl : Flow) (s₂ : Shared) : Prop :=
  match fl with
  | .next => ForEnd w h₀ L locs P s₁ s₂
  | fl => Q fl s₂
theorem CutPost.next {L : Addr} {locs : Led} {P : St → Fix → Mut → (Str → Option Value) → Prop} {s₁ : Shared} {W : St} {f : Fix} {m : Mut} {mm : Str → Option Value} {l : Led} {h' : Heap} {tk : Nat}
    (F : Fr h₀ L h' mm) (N : News h₀ L h' l) (R : Rep w W f m l) (hl : ∀ q ∈ locs, Loc W.n f m l q.1 q.2) (p : P W f m mm) : CutPost w h₀ L locs P s₁ Q .next { s₁ with heap := h', toks := tk } := ForEnd.intro F N R hl p
theorem cut_rep {L : Addr} {m₀ : Str → Option Value} (_F : Fr h₀ L s.heap m₀) (locs : Led) (P : St → Fix → Mut → (Str → Option Value) → Prop) {prg : Sem Flow}
    (ways : wpAny (model prog w) A prg (CutPost w h₀ L locs P s Q) E s)
    (next : ∀ W f m mm l h tk, P W f m mm → Rep w W f m l → (∀ q ∈ locs, Loc W.n f m l q.1 q.2) → Fr h₀ L h mm → News h₀ L h l → Q .next { s with heap := h, toks := tk }) :
    wpAny (model prog w) A prg Q E s := by
  refine wpAny_mono ways (fun fl s₂ q => ?_) fun _ _ e => e
  cases fl with
  | next => obtain ⟨W₁, f₁, m₁, mm₁, l₁, h₁, tk₁, rfl, F₁, N₁, R₁, hl₁, p₁⟩ := q; exact next W₁ f₁ m₁ mm₁ l₁ h₁ tk₁ p₁ R₁ hl₁ F₁ N₁
  | ret v => exact q
  | brk => exact q
  | cont => exact q
end
end
end Mine
namespace Mine
section
/-- as the collector asks it -/
def Dead (W : St) (i : Nat) : Prop := W.mark i = 4 ∨ (W.mark i < 2 ∧ W.mark i ≠ W.white)
def deadD (W : St) (i : Nat) : Decidable (Dead W i) := inferInstanceAs (Decidable (W.mark i = 4 ∨ (W.mark i < 2 ∧ W.mark i ≠ W.white)))
def freeW (W : St) (i : Nat) : St := ((W.setKept (W.kept.filter (fun j => j ≠ i))).setTotal (W.total - W.size i)).setMark i 4
def sweep1 (W : St) (i : Nat) : St := if i ∈ W.kept then (@ite _ (Dead W i) (deadD W i) (freeW W i) (W.setMark i W.white)) else W
theorem sweep1_n (W : St) (i : Nat) : (sweep1 W i).n = W.n := by unfold sweep1; split <;> (try split) <;> rfl
theorem sweep1_grey (W : St) (i : Nat) : (sweep1 W i).grey = W.grey := by unfold sweep1; split <;> (try split) <;> rfl
theorem sweep1_sweep (W : St) (i : Nat) : (sweep1 W i).sweep = W.sweep := by unfold sweep1; split <;> (try split) <;> rfl
theorem sweep1_rlist (W : St) (i : Nat) : (sweep1 W i).rlist = W.rlist := by unfold sweep1; split <;> (try split) <;> rfl
inductive Swp : Nat → St → St → Prop
  | refl {W : St} : Swp 0 W W
  | step {k : Nat} {W W' : St} {ns : List Nat} {i : Nat} : Swp k W W' → W'.sweep = ns ++ [i] → Swp (k + 1) W (sweep1 (W'.setSweep ns) i)
theorem WF.mark0 {W : St} (h : WF W) (hg : W.grey = []) (i : Nat) (v : Int) : WF (W.setMark i v) := { h with hg := fun j hj => by rw [show (W.setMark i v).grey = [] from hg] at hj; exact nomatch hj }
theorem WF.sweep1 {W : St} (h : WF W) (hg : W.grey = []) (i : Nat) : WF (sweep1 W i) := by
  unfold Mine.sweep1
  split
  · split
    · refine WF.mark0 (W := (W.setKept (W.kept.filter (fun j => j ≠ i))).setTotal (W.total - W.size i)) { h with hk := fun j hj => h.hk j (List.mem_filter.mp hj).1, hkn := h.hkn.filter _ } hg i 4
    · exact h.mark0 hg i _
  · exact h
theorem WF.setSweep {W : St} (h : WF W) {ns : List Nat} (hs : ns.length ≤ 100) : WF (W.setSweep ns) := { h with hs := hs }
theorem Swp.facts {k : Nat} {W W' : St} (p : Swp k W W') (h : WF W) (hg : W.grey = []) : WF W' ∧ W'.grey = [] ∧ W'.n = W.n ∧ W'.rlist = W.rlist ∧ W'.sweep.length + k = W.sweep.length := by
  induction p with
  | refl => exact ⟨h, hg, rfl, rfl, rfl⟩
  | @step k W W' ns i p hs ih =>
    obtain ⟨a, b, c, d, e⟩ := ih h hg
    have hl : ns.length + 1 = W'.sweep.length := by rw [hs]; simp
    have a' : WF (W'.setSweep ns) := a.setSweep (by have := a.hs; omega)
    refine ⟨a'.sweep1 b i, ?_, ?_, ?_, ?_⟩
    · rw [sweep1_grey]; exact b
    · rw [sweep1_n]; exact c
    · rw [sweep1_rlist]; exact d
    · rw [sweep1_sweep]; show ns.length + (k + 1) = _; omega
end
end Mine
namespace Mine
section
inductive Reach (W : St) : Nat → Prop
  | root {i : Nat} : i ∈ W.roots → Reach W i
  | edge {i j : Nat} : Reach W i → j ∈ W.edges i → Reach W j
theorem Reach.same {W W' : St} (hr : W'.roots = W.roots) (he : W'.edges = W.edges) {i : Nat} (h : Reach W i) : Reach W' i := by
  induction h with
  | root h => exact .root (hr ▸ h)
  | edge _ h ih => exact .edge ih (he ▸ h)

structure P1 (W : St) : Prop where
  m : ∀ i ∈ W.kept, W.mark i = W.white ∨ W.mark i = 2 ∨ W.mark i = 3
  g : ∀ i ∈ W.kept, W.mark i = 2 → i ∈ W.grey
  t : ∀ i ∈ W.kept, W.mark i = 3 → ∀ c ∈ W.edges i, ¬ W.mark c < 2
structure P2 (W : St) : Prop where
  g : W.grey = []
  m : ∀ i ∈ W.kept, W.mark i = 0 ∨ W.mark i = 1 ∨ W.mark i = 3
  s : ∀ i ∈ W.kept, i ∈ W.sweep ∨ W.mark i = W.white
  r : ∀ i, Reach W i → W.mark i = 3 ∨ W.mark i = W.white
  l : W.sweep.length ≤ 16
structure P0 (W : St) : Prop where
  g : W.grey = []
  m : ∀ i ∈ W.kept, W.mark i = W.white
structure Inv (W : St) : Prop where
  wf : WF W
  n16 : W.n ≤ 16
  rl : W.rlist = W.roots
  ph : W.phase = 0 ∨ W.phase = 1 ∨ W.phase = 2 ∨ W.phase = 3
  wh : W.white = 0 ∨ W.white = 1
  tot : W.total = (W.kept.map W.size).sum
  rk : ∀ i, Reach W i → i ∈ W.kept
  p1 : W.phase = 1 → P1 W
  p2 : W.phase = 2 → P2 W
  p0 : W.phase = 0 ∨ W.phase = 3 → P0 W

inductive Step : St → St → Prop
  | start {W : St} : W.phase = 0 → Step W ((beginL (W.setGrey []) W.rlist).setPhase 1)
  | prop {W : St} {ns : List Nat} {i : Nat} : W.phase = 1 → W.grey = ns ++ [i] → Step W (propW W ns i)
  | atomic {W W1 W2 : St} {v : Int} : W.phase = 1 → W.grey = [] → Props W W1 → Props (beginL W1 W1.rlist) W2 → W2.grey = [] →
      Step W ((((W2.setWhite (1 - W2.white)).setSweep W2.kept).setPhase 2).setEst v)
  | sweep {W W' : St} {k : Nat} {v : Int} : W.phase = 2 → Swp k W W' → W'.sweep = [] → Step W ((W'.setPhase 3).setEst v)
  | fin {W : St} : W.phase = 3 → Step W (((W.setPhase 0).setDebt 0).setCyc (W.cyc + 1))

/-- what marking leaves as it is -/
structure Calm (W W' : St) : Prop where
  n : W'.n = W.n
  size : W'.size = W.size
  edges : W'.edges = W.edges
  roots : W'.roots = W.roots
  kept : W'.kept = W.kept
  white : W'.white = W.white
  rlist : W'.rlist = W.rlist
  phase : W'.phase = W.phase
  sweep : W'.sweep = W.sweep
  total : W'.total = W.total
  cyc : W'.cyc = W.cyc
theorem Calm.refl {W : St} : Calm W W := ⟨rfl, rfl, rfl, rfl, rfl, rfl, rfl, rfl, rfl, rfl, rfl⟩
theorem Calm.trans {W W' W'' : St} (a : Calm W W') (b : Calm W' W'') : Calm W W'' :=
  ⟨b.n.trans a.n, b.size.trans a.size, b.edges.trans a.edges, b.roots.trans a.roots, b.kept.trans a.kept, b.white.trans a.white, b.rlist.trans a.rlist, b.phase.trans a.phase, b.sweep.trans a.sweep, b.total.trans a.total, b.cyc.trans a.cyc⟩
theorem Calm.reach {W W' : St} (a : Calm W W') {i : Nat} : Reach W' i ↔ Reach W i := ⟨Reach.same a.roots.symm a.edges.symm, Reach.same a.roots a.edges⟩
theorem calm_mark (W : St) (i : Nat) : Calm W (markW W i) := by unfold markW; split <;> exact ⟨rfl, rfl, rfl, rfl, rfl, rfl, rfl, rfl, rfl, rfl, rfl⟩
theorem calm_begin : ∀ (ns : List Nat) (W : St), Calm W (beginL W ns)
  | [], _ => .refl
  | i :: r, W => (calm_mark W i).trans (calm_begin r (markW W i))
theorem calm_prop (W : St) (ns : List Nat) (i : Nat) : Calm W (propW W ns i) := Calm.trans (W' := (W.setGrey ns).setMark i 3) ⟨rfl, rfl, rfl, rfl, rfl, rfl, rfl, rfl, rfl, rfl, rfl⟩ (calm_begin _ _)
theorem Props.calm {W W' : St} (p : Props W W') : Calm W W' := by
  induction p with
  | refl => exact .refl
  | step _ _ ih => exact ih.trans (calm_prop _ _ _)

theorem mark_of (W : St) (i j : Nat) : (markW W i).mark j = if j = i ∧ W.mark i < 2 then 2 else W.mark j := by
  unfold markW
  split
  · rename_i h; show (if j = i then (2 : Int) else W.mark j) = _; simp [h]
  · rename_i h; simp [h]
theorem mark_up (W : St) (i j : Nat) (h : ¬ W.mark j < 2) : (markW W i).mark j = W.mark j := by
  rw [mark_of]
  by_cases e : j = i
  · subst e; simp [h]
  · simp [e]
theorem mark_self (W : St) (i : Nat) : ¬ (markW W i).mark i < 2 := by
  rw [mark_of]
  by_cases h : W.mark i < 2
  · simp [h]
  · simp [h]
theorem mark_grey (W : St) (i j : Nat) : j ∈ (markW W i).grey ↔ j ∈ W.grey ∨ (j = i ∧ W.mark i < 2) := by
  unfold markW
  split
  · rename_i h; show j ∈ W.grey ++ [i] ↔ _; simp [h]
  · rename_i h; simp [h]
theorem begin_up : ∀ (ns : List Nat) (W : St) (j : Nat), ¬ W.mark j < 2 → (beginL W ns).mark j = W.mark j
  | [], _, _, _ => rfl
  | i :: r, W, j, h => by
    have h1 := mark_up W i j h
    exact (begin_up r (markW W i) j (by rw [h1]; exact h)).trans h1
theorem begin_all : ∀ (ns : List Nat) (W : St) (j : Nat), j ∈ ns → ¬ (beginL W ns).mark j < 2
  | i :: r, W, j, h => by
    by_cases e : ¬ (markW W i).mark j < 2
    · show ¬ (beginL (markW W i) r).mark j < 2
      rw [begin_up r _ j e]; exact e
    · rcases List.mem_cons.mp h with rfl | h
      · exact absurd (mark_self W j) e
      · exact begin_all r (markW W i) j h

theorem P1.mark {W : St} (h : P1 W) (hw : W.white = 0 ∨ W.white = 1) (i : Nat) : P1 (markW W i) := by
  have c := calm_mark W i
  refine ⟨fun j hj => ?_, fun j hj hm => ?_, fun j hj hm k hk => ?_⟩
  · rw [c.kept] at hj
    rw [c.white, mark_of]
    split
    · exact .inr (.inl rfl)
    · exact h.m j hj
  · rw [c.kept] at hj
    rw [mark_grey]
    rw [mark_of] at hm
    split at hm
    · rename_i q; exact .inr q
    · exact .inl (h.g j hj hm)
  · rw [c.kept] at hj
    rw [c.edges] at hk
    rw [mark_of] at hm
    split at hm
    · omega
    · have := h.t j hj hm k hk
      rw [mark_up W i k this]; exact this
theorem P1.begin : ∀ {ns : List Nat} {W : St}, P1 W → (W.white = 0 ∨ W.white = 1) → P1 (beginL W ns)
  | [], _, h, _ => h
  | i :: r, W, h, hw => P1.begin (ns := r) (W := markW W i) (h.mark hw i) (by rw [(calm_mark W i).white]; exact hw)
theorem P1.prop {W : St} (h : P1 W) (hf : WF W) (hw : W.white = 0 ∨ W.white = 1) {ns : List Nat} {i : Nat} (hg : W.grey = ns ++ [i]) : P1 (propW W ns i) := by
  have hm2 := (hf.hg i (by rw [hg]; simp)).2
  have hall := begin_all (W.edges i) ((W.setGrey ns).setMark i 3)
  -- all but the third holds ahead of the children
  have c := calm_begin (W.edges i) ((W.setGrey ns).setMark i 3)
  have up := begin_up (W.edges i) ((W.setGrey ns).setMark i 3)
  have low : ∀ j, ((W.setGrey ns).setMark i 3).mark j = if j = i then 3 else W.mark j := fun j => rfl
  -- the children marked one by one
  have key : ∀ (es : List Nat) (V : St), V.white = W.white → V.kept = W.kept → (∀ j ∈ V.kept, V.mark j = V.white ∨ V.mark j = 2 ∨ V.mark j = 3) → (∀ j ∈ V.kept, V.mark j = 2 → j ∈ V.grey) →
      (∀ j ∈ (beginL V es).kept, (beginL V es).mark j = (beginL V es).white ∨ (beginL V es).mark j = 2 ∨ (beginL V es).mark j = 3) ∧ (∀ j ∈ (beginL V es).kept, (beginL V es).mark j = 2 → j ∈ (beginL V es).grey) := by
    intro es
    induction es with
    | nil => intro V _ _ a b; exact ⟨a, b⟩
    | cons e r ih =>
      intro V hv hk a b
      have c := calm_mark V e
      refine ih (markW V e) (c.white.trans hv) (c.kept.trans hk) (fun j hj => ?_) (fun j hj hm => ?_)
      · rw [c.kept] at hj
        rw [c.white, mark_of]
        split
        · exact .inr (.inl rfl)
        · exact a j hj
      · rw [c.kept] at hj
        rw [mark_grey]
        rw [mark_of] at hm
        split at hm
        · rename_i q; exact .inr q
        · exact .inl (b j hj hm)
  obtain ⟨k1, k2⟩ := key (W.edges i) ((W.setGrey ns).setMark i 3) rfl rfl (fun j hj => by
    rw [low]; split
    · exact .inr (.inr rfl)
    · exact h.m j hj) (fun j hj hm => by
    rw [low] at hm
    split at hm
    · omega
    · rename_i hne
      have := h.g j hj hm
      rw [hg] at this
      rcases List.mem_append.mp this with q | q
      · exact q
      · exact absurd (List.mem_singleton.mp q) hne)
  refine ⟨k1, k2, fun j hj hm d hd => ?_⟩
  have hj' : j ∈ W.kept := by rw [show (propW W ns i).kept = W.kept from (calm_prop W ns i).kept] at hj; exact hj
  have hd' : d ∈ W.edges j := by rw [show (propW W ns i).edges = W.edges from (calm_prop W ns i).edges] at hd; exact hd
  by_cases e : j = i
  · subst e; exact hall d hd'
  · have hjm : W.mark j = 3 := by
      have : ((W.setGrey ns).setMark i 3).mark j = W.mark j := by rw [low, if_neg e]
      by_cases q : W.mark j < 2
      · -- a white one does not become black
        have := (beginL_lt3 (W.edges i) ((W.setGrey ns).setMark i 3) j).mpr (by rw [low, if_neg e]; omega)
        have hm' : (beginL ((W.setGrey ns).setMark i 3) (W.edges i)).mark j = 3 := hm
        omega
      · have := up j (by rw [low, if_neg e]; exact q)
        rw [low, if_neg e] at this
        have hm' : (beginL ((W.setGrey ns).setMark i 3) (W.edges i)).mark j = 3 := hm
        omega
    have hd2 := h.t j hj' hjm d hd'
    have hlow : ¬ ((W.setGrey ns).setMark i 3).mark d < 2 := by rw [low]; split <;> omega
    show ¬ (beginL ((W.setGrey ns).setMark i 3) (W.edges i)).mark d < 2
    rw [up d hlow]; exact hlow
theorem P1.props {W W' : St} (p : Props W W') (h : P1 W) (hf : WF W) (hw : W.white = 0 ∨ W.white = 1) : P1 W' := by
  induction p with
  | refl => exact h
  | step p hg ih => exact ih.prop (hf.props p) (by rw [p.calm.white]; exact hw) hg
theorem props_nil {W W' : St} (p : Props W W') (h : W.grey = []) : W' = W := by
  induction p with
  | refl => rfl
  | step p hg ih =>
    rw [ih] at hg
    rw [h] at hg
    exact absurd hg (by simp)
theorem props_up {W W' : St} (p : Props W W') (hf : WF W) (j : Nat) (h : ¬ W.mark j < 2) : ¬ W'.mark j < 2 := by
  induction p with
  | refl => exact h
  | @step W' ns i p hg ih =>
    have a := ih
    have hi := ((hf.props p).hg i (by rw [hg]; simp)).2
    have hlow : ¬ ((W'.setGrey ns).setMark i 3).mark j < 2 := by
      show ¬ (if j = i then (3 : Int) else W'.mark j) < 2
      split <;> omega
    show ¬ (beginL ((W'.setGrey ns).setMark i 3) (W'.edges i)).mark j < 2
    rw [begin_up _ _ j hlow]; exact hlow

/-- all that is reached is black when no grey one is left -/
theorem black_of {W : St} (h : P1 W) (hw : W.white = 0 ∨ W.white = 1) (hg : W.grey = []) (hk : ∀ i, Reach W i → i ∈ W.kept) (hr : ∀ i ∈ W.roots, ¬ W.mark i < 2) {i : Nat} (r : Reach W i) : W.mark i = 3 := by
  have fin : ∀ j, j ∈ W.kept → ¬ W.mark j < 2 → W.mark j = 3 := fun j hj h2 => by
    rcases h.m j hj with q | q | q
    · rcases hw with w | w <;> omega
    · have := h.g j hj q; rw [hg] at this; exact nomatch this
    · exact q
  induction r with
  | root hi => exact fin _ (hk _ (.root hi)) (hr _ hi)
  | edge r he ih => exact fin _ (hk _ (.edge r he)) (h.t _ (hk _ r) ih _ he)

theorem sum_filter (g : Nat → Int) {i : Nat} : ∀ {l : List Nat}, l.Nodup → i ∈ l → ((l.filter (fun j => j ≠ i)).map g).sum = (l.map g).sum - g i
  | a :: r, hd, hi => by
    have hd' := List.nodup_cons.mp hd
    by_cases e : a = i
    · subst e
      have : r.filter (fun j => decide (j ≠ a)) = r := List.filter_eq_self.mpr fun j hj => by
        have : j ≠ a := fun q => hd'.1 (q ▸ hj)
        simpa using this
      rw [List.filter_cons_of_neg (by simp), this, List.map_cons, List.sum_cons]; omega
    · rw [List.filter_cons_of_pos (by simpa using e), List.map_cons, List.map_cons, List.sum_cons, List.sum_cons]
      rw [sum_filter g hd'.2 ((List.mem_cons.mp hi).resolve_left fun q => e q.symm)]; omega

/-- what holds while the sweep goes on -/
structure SI (W₀ W : St) : Prop where
  n : W.n = W₀.n
  size : W.size = W₀.size
  edges : W.edges = W₀.edges
  roots : W.roots = W₀.roots
  white : W.white = W₀.white
  rlist : W.rlist = W₀.rlist
  cyc : W.cyc = W₀.cyc
  sub : ∀ i ∈ W.kept, i ∈ W₀.kept
  nd : W.kept.Nodup
  tot : W.total = (W.kept.map W.size).sum
  m : ∀ i ∈ W.kept, W.mark i = 0 ∨ W.mark i = 1 ∨ W.mark i = 3
  s : ∀ i ∈ W.kept, i ∈ W.sweep ∨ W.mark i = W.white
  r : ∀ i, Reach W₀ i → i ∈ W.kept ∧ (W.mark i = 3 ∨ W.mark i = W.white)
  live : ∀ i ∈ W.kept, W.mark i = W₀.mark i ∨ (W.mark i = W.white ∧ ¬ Dead W₀ i)
  gone : ∀ i ∈ W₀.kept, i ∉ W.kept → Dead W₀ i
theorem SI.start {W : St} (h : Inv W) (p : P2 W) : SI W W :=
  ⟨rfl, rfl, rfl, rfl, rfl, rfl, rfl, fun _ h => h, h.wf.hkn, h.tot, p.m, p.s, fun i r => ⟨h.rk i r, p.r i r⟩, fun _ _ => .inl rfl, fun _ h1 h2 => absurd h1 h2⟩
theorem SI.step {W₀ W : St} (h : SI W₀ W) (hw : W₀.white = 0 ∨ W₀.white = 1) {ns : List Nat} {i : Nat} (hs : W.sweep = ns ++ [i]) : SI W₀ (sweep1 (W.setSweep ns) i) := by
  have hin : ∀ j ∈ W.kept, j ≠ i → j ∈ ns ∨ W.mark j = W.white := fun j hj hne => by
    rcases h.s j hj with q | q
    · rw [hs] at q
      rcases List.mem_append.mp q with q | q
      · exact .inl q
      · exact absurd (List.mem_singleton.mp q) hne
    · exact .inr q
  have hww : W.white = 0 ∨ W.white = 1 := by rw [h.white]; exact hw
  unfold sweep1
  by_cases hk : i ∈ W.kept
  · rw [if_pos (show i ∈ (W.setSweep ns).kept from hk)]
    by_cases hd : Dead (W.setSweep ns) i
    · rw [if_pos hd]
      have hd' : Dead W i := hd
      have hnr : ¬ Reach W₀ i := fun r => by
        have a := (h.r i r).2
        rcases hd' with q | q
        · rcases h.m i hk with z | z | z <;> omega
        · rcases a with z | z
          · omega
          · exact q.2 z
      have mk : ∀ j, j ≠ i → (freeW (W.setSweep ns) i).mark j = W.mark j := fun j hne => by
        show (if j = i then (4 : Int) else W.mark j) = _
        rw [if_neg hne]
      have mem : ∀ j, j ∈ (freeW (W.setSweep ns) i).kept ↔ j ∈ W.kept ∧ j ≠ i := fun j => by
        show j ∈ W.kept.filter (fun j => decide (j ≠ i)) ↔ _
        rw [List.mem_filter]; simp
      refine ⟨h.n, h.size, h.edges, h.roots, h.white, h.rlist, h.cyc, fun j hj => h.sub j ((mem j).mp hj).1, h.nd.filter _, ?_, fun j hj => ?_, fun j hj => ?_, fun j r => ?_, fun j hj => ?_, fun j hj hn => ?_⟩
      · show W.total - W.size i = _
        rw [h.tot]
        exact (sum_filter W.size h.nd hk).symm
      · rw [mk j ((mem j).mp hj).2]; exact h.m j ((mem j).mp hj).1
      · rw [mk j ((mem j).mp hj).2]; exact hin j ((mem j).mp hj).1 ((mem j).mp hj).2
      · have hne : j ≠ i := fun e => hnr (e ▸ r)
        rw [mk j hne]; exact ⟨(mem j).mpr ⟨(h.r j r).1, hne⟩, (h.r j r).2⟩
      · rw [mk j ((mem j).mp hj).2]; exact h.live j ((mem j).mp hj).1
      · by_cases e : j = i
        · subst e
          rcases h.live j hk with q | q
          · rcases hd' with z | z
            · exact .inl (q ▸ z)
            · exact .inr ⟨q ▸ z.1, by rw [← h.white, ← q]; exact z.2⟩
          · rcases hd' with z | z
            · rcases h.m j hk with y | y | y <;> omega
            · exact absurd q.1 z.2
        · exact h.gone j hj fun q => hn ((mem j).mpr ⟨q, e⟩)
    · rw [if_neg hd]
      have hd' : ¬ Dead W i := hd
      have mk : ∀ j, ((W.setSweep ns).setMark i (W.setSweep ns).white).mark j = if j = i then W.white else W.mark j := fun j => rfl
      refine ⟨h.n, h.size, h.edges, h.roots, h.white, h.rlist, h.cyc, h.sub, h.nd, h.tot, fun j hj => ?_, fun j hj => ?_, fun j r => ⟨(h.r j r).1, ?_⟩, fun j hj => ?_, h.gone⟩
      · rw [mk]
        split
        · rcases hww with q | q
          · exact .inl q
          · exact .inr (.inl q)
        · exact h.m j hj
      · rw [mk]
        split
        · exact .inr rfl
        · rename_i e; exact hin j hj e
      · rw [mk]
        split
        · exact .inr rfl
        · exact (h.r j r).2
      · rw [mk]
        split
        · rename_i e
          subst e
          refine .inr ⟨rfl, fun q => hd' ?_⟩
          rcases h.live j hj with z | z
          · rcases q with y | y
            · exact .inl (z ▸ y)
            · exact .inr ⟨z ▸ y.1, by rw [h.white, z]; exact y.2⟩
          · exact absurd q z.2
        · exact h.live j hj
  · rw [if_neg (show i ∉ (W.setSweep ns).kept from hk)]
    exact ⟨h.n, h.size, h.edges, h.roots, h.white, h.rlist, h.cyc, h.sub, h.nd, h.tot, h.m, fun j hj => hin j hj fun e => hk (e ▸ hj), h.r, h.live, h.gone⟩
theorem Swp.si {k : Nat} {W W' : St} (p : Swp k W W') (h : Inv W) (q : P2 W) : SI W W' := by
  induction p with
  | refl => exact SI.start h q
  | step p hs ih => exact (ih h q).step h.wh hs

theorem wf_same {W W' : St} (h : WF W) (n : W'.n = W.n) (e : W'.edges = W.edges) (g : W'.grey = []) (r : W'.rlist = W.rlist) (k : ∀ j ∈ W'.kept, j ∈ W.kept) (kn : W'.kept.Nodup) (s : W'.sweep.length ≤ 100) (o : W'.roots = W.roots) : WF W' where
  hn := n ▸ h.hn
  he := fun i j hj => by rw [e] at hj; rw [n]; exact h.he i j hj
  hel := fun i => by rw [e]; exact h.hel i
  hg := fun j hj => by rw [g] at hj; exact nomatch hj
  hgn := by rw [g]; exact .nil
  hr := fun j hj => by rw [r] at hj; rw [n]; exact h.hr j hj
  hrl := by rw [r]; exact h.hrl
  hk := fun j hj => by rw [n]; exact h.hk j (k j hj)
  hkn := kn
  hs := s
  ho := fun j hj => by rw [o] at hj; rw [n]; exact h.ho j hj
  hol := by rw [o]; exact h.hol

theorem Inv.step {W W' : St} (h : Inv W) (s : Step W W') : Inv W' := by
  cases s with
  | start hp =>
    have p := h.p0 (.inl hp)
    have c := calm_begin W.rlist (W.setGrey [])
    have hf := h.wf.grey0.begin (ns := W.rlist) h.wf.hr
    have p1 : P1 (W.setGrey []) := ⟨fun i hi => .inl (p.m i hi), fun i hi hm => by
      have := p.m i hi
      have hm' : W.mark i = 2 := hm
      rcases h.wh with q | q <;> omega, fun i hi hm => by
      have := p.m i hi
      have hm' : W.mark i = 3 := hm
      rcases h.wh with q | q <;> omega⟩
    have p1' := p1.begin (ns := W.rlist) h.wh
    have cr : ∀ i, Reach ((beginL (W.setGrey []) W.rlist).setPhase 1) i → Reach W i := fun i r => Reach.same (W := (beginL (W.setGrey []) W.rlist).setPhase 1) (W' := W) c.roots.symm c.edges.symm r
    exact { wf := { hf with }, n16 := by show (beginL _ _).n ≤ 16; rw [c.n]; exact h.n16, rl := by show (beginL _ _).rlist = (beginL _ _).roots; rw [c.rlist, c.roots]; exact h.rl,
            ph := .inr (.inl rfl), wh := by show (beginL _ _).white = 0 ∨ (beginL _ _).white = 1; rw [c.white]; exact h.wh,
            tot := by show (beginL _ _).total = ((beginL _ _).kept.map (beginL _ _).size).sum; rw [c.total, c.kept, c.size]; exact h.tot,
            rk := fun i r => by show i ∈ (beginL _ _).kept; rw [c.kept]; exact h.rk i (cr i r),
            p1 := fun _ => ⟨p1'.m, p1'.g, p1'.t⟩, p2 := fun q => absurd q (by show ¬ (1 : Int) = 2; decide), p0 := fun q => by
              rcases q with q | q
              · exact absurd q (by show ¬ (1 : Int) = 0; decide)
              · exact absurd q (by show ¬ (1 : Int) = 3; decide) }
  | @prop ns i hp hg =>
    have c := calm_prop W ns i
    have p1 := (h.p1 hp).prop h.wf h.wh hg
    exact { wf := h.wf.prop hg, n16 := by rw [c.n]; exact h.n16, rl := by rw [c.rlist, c.roots]; exact h.rl, ph := by rw [c.phase]; exact h.ph, wh := by rw [c.white]; exact h.wh,
            tot := by rw [c.total, c.kept, c.size]; exact h.tot, rk := fun i r => by rw [c.kept]; exact h.rk i (c.reach.mp r),
            p1 := fun _ => p1, p2 := fun q => by rw [c.phase, hp] at q; exact absurd q (by decide), p0 := fun q => by
              rw [c.phase, hp] at q; rcases q with q | q <;> exact absurd q (by decide) }
  | @atomic W1 W2 v hp hg p1 p2 hg2 =>
    have e := props_nil p1 hg
    subst e
    have c := (calm_begin W1.rlist W1).trans p2.calm
    have hb := h.wf.begin (ns := W1.rlist) h.wf.hr
    have q1 := P1.props p2 ((h.p1 hp).begin (ns := W1.rlist) h.wh) hb (by rw [(calm_begin _ _).white]; exact h.wh)
    have hf := hb.props p2
    have hw2 : W2.white = 0 ∨ W2.white = 1 := by rw [c.white]; exact h.wh
    have hrk : ∀ i, Reach W2 i → i ∈ W2.kept := fun i r => by rw [c.kept]; exact h.rk i (c.reach.mp r)
    have black : ∀ i, Reach W2 i → W2.mark i = 3 := fun i r => black_of q1 hw2 hg2 hrk (fun j hj => props_up p2 hb j (begin_all _ _ j (by rw [h.rl]; rw [c.roots] at hj; exact hj))) r
    have kl : W2.kept.length ≤ 16 := Nat.le_trans (nodup_le W2.n _ hf.hkn hf.hk) (by rw [c.n]; exact h.n16)
    refine { wf := wf_same hf rfl rfl hg2 rfl (fun j hj => hj) hf.hkn (Nat.le_trans kl (by decide)) rfl, n16 := by show W2.n ≤ 16; rw [c.n]; exact h.n16, rl := by show W2.rlist = W2.roots; rw [c.rlist, c.roots]; exact h.rl, ph := .inr (.inr (.inl rfl)), wh := ?_,
             tot := by show W2.total = (W2.kept.map W2.size).sum; rw [c.total, c.kept, c.size]; exact h.tot, rk := fun i r => hrk i (Reach.same (W := (((W2.setWhite (1 - W2.white)).setSweep W2.kept).setPhase 2).setEst v) (W' := W2) rfl rfl r),
             p1 := fun q => absurd q (by show ¬ (2 : Int) = 1; decide), p2 := fun _ => ⟨hg2, fun i hi => ?_, fun i hi => .inl hi, fun i r => .inl (black i (Reach.same (W := (((W2.setWhite (1 - W2.white)).setSweep W2.kept).setPhase 2).setEst v) (W' := W2) rfl rfl r)), kl⟩, p0 := fun q => by
              rcases q with q | q
              · exact absurd q (by show ¬ (2 : Int) = 0; decide)
              · exact absurd q (by show ¬ (2 : Int) = 3; decide) }
    · show 1 - W2.white = 0 ∨ 1 - W2.white = 1
      rcases hw2 with q | q <;> omega
    · show W2.mark i = 0 ∨ W2.mark i = 1 ∨ W2.mark i = 3
      rcases q1.m i hi with q | q | q
      · rcases hw2 with z | z <;> omega
      · have := q1.g i hi q; rw [hg2] at this; exact nomatch this
      · exact .inr (.inr q)
  | @sweep W' k v hp p hs =>
    have q := h.p2 hp
    have si := p.si h q
    have ff := p.facts h.wf q.g
    have cr : ∀ i, Reach ((W'.setPhase 3).setEst v) i → Reach W i := fun i r => Reach.same (W := (W'.setPhase 3).setEst v) (W' := W) si.roots.symm si.edges.symm r
    refine { wf := wf_same h.wf si.n si.edges ff.2.1 si.rlist si.sub si.nd (by show W'.sweep.length ≤ 100; rw [hs]; decide) si.roots, n16 := by show W'.n ≤ 16; rw [si.n]; exact h.n16, rl := by show W'.rlist = W'.roots; rw [si.rlist, si.roots]; exact h.rl,
             ph := .inr (.inr (.inr rfl)), wh := by show W'.white = 0 ∨ W'.white = 1; rw [si.white]; exact h.wh, tot := si.tot, rk := fun i r => (si.r i (cr i r)).1,
             p1 := fun q => absurd q (by show ¬ (3 : Int) = 1; decide), p2 := fun q => absurd q (by show ¬ (3 : Int) = 2; decide), p0 := fun _ => ⟨ff.2.1, fun i hi => ?_⟩ }
    rcases si.s i hi with z | z
    · rw [hs] at z; exact nomatch z
    · exact z
  | fin hp =>
    have p := h.p0 (.inr hp)
    exact { wf := { h.wf with }, n16 := h.n16, rl := h.rl, ph := .inl rfl, wh := h.wh, tot := h.tot, rk := fun i r => h.rk i (Reach.same (W := ((W.setPhase 0).setDebt 0).setCyc (W.cyc + 1)) (W' := W) rfl rfl r),
            p1 := fun q => absurd q (by show ¬ (0 : Int) = 1; decide), p2 := fun q => absurd q (by show ¬ (0 : Int) = 2; decide), p0 := fun _ => ⟨p.g, p.m⟩ }

/-- the steps that are left of this cycle, at most -/
def sig (W : St) : Nat := if W.phase = 0 then W.n + 4 else if W.phase = 1 then mu W + 3 else if W.phase = 2 then 2 else 1
theorem mu_le (W : St) : mu W ≤ W.n := by
  unfold mu
  exact Nat.le_trans (List.length_filter_le _ _) (by simp)
theorem sig_le {W : St} (h : Inv W) : sig W ≤ 20 := by
  have := mu_le W
  have := h.n16
  unfold sig
  split
  · omega
  · split
    · omega
    · split <;> omega
theorem sig_pos (W : St) : 0 < sig W := by
  unfold sig
  split
  · omega
  · split
    · omega
    · split <;> omega
/-- a step: the cycle goes on, or it ends -/
theorem Step.sig {W W' : St} (h : Inv W) (s : Step W W') : (W'.cyc = W.cyc ∧ W'.phase ≠ 0 ∧ sig W' < sig W) ∨ (W'.cyc = W.cyc + 1 ∧ W'.phase = 0 ∧ W.phase = 3) := by
  cases s with
  | start hp =>
    refine .inl ⟨(calm_begin _ _).cyc, by show (1 : Int) ≠ 0; decide, ?_⟩
    have e : mu ((beginL (W.setGrey []) W.rlist).setPhase 1) ≤ W.n := Nat.le_trans (mu_le _) (by show (beginL _ _).n ≤ W.n; rw [(calm_begin _ _).n]; exact Nat.le_refl _)
    unfold Mine.sig
    rw [if_pos hp, if_neg (by show ¬ (1 : Int) = 0; decide), if_pos (by rfl)]
    omega
  | @prop ns i hp hg =>
    have c := calm_prop W ns i
    have := mu_prop h.wf hg
    refine .inl ⟨c.cyc, by rw [c.phase, hp]; decide, ?_⟩
    unfold Mine.sig
    rw [c.phase, hp]
    simp only [Int.reduceEq, if_true, if_false, if_neg (show ¬ (1 : Int) = 0 by decide)]
    omega
  | @atomic W1 W2 v hp hg p1 p2 hg2 =>
    have e := props_nil p1 hg
    subst e
    have c := (calm_begin W1.rlist W1).trans p2.calm
    refine .inl ⟨c.cyc, by show (2 : Int) ≠ 0; decide, ?_⟩
    unfold Mine.sig
    rw [hp, if_neg (by show ¬ (2 : Int) = 0; decide), if_neg (by show ¬ (2 : Int) = 1; decide), if_pos (by rfl), if_neg (by decide), if_pos rfl]
    omega
  | @sweep W' k v hp p hs =>
    have si := p.si h (h.p2 hp)
    refine .inl ⟨si.cyc, by show (3 : Int) ≠ 0; decide, ?_⟩
    unfold Mine.sig
    rw [hp, if_neg (by show ¬ (3 : Int) = 0; decide), if_neg (by show ¬ (3 : Int) = 1; decide), if_neg (by show ¬ (3 : Int) = 2; decide), if_neg (by decide), if_neg (by decide), if_pos rfl]
    omega
  | fin hp => exact .inr ⟨rfl, rfl, hp⟩
/-- what a step of the collector never turns -/
structure Still (W W' : St) : Prop where
  n : W'.n = W.n
  edges : W'.edges = W.edges
  roots : W'.roots = W.roots
theorem Still.refl {W : St} : Still W W := ⟨rfl, rfl, rfl⟩
theorem Still.trans {W W' W'' : St} (a : Still W W') (b : Still W' W'') : Still W W'' := ⟨b.n.trans a.n, b.edges.trans a.edges, b.roots.trans a.roots⟩
theorem Still.reach {W W' : St} (a : Still W W') {i : Nat} : Reach W' i ↔ Reach W i := ⟨Reach.same a.roots.symm a.edges.symm, Reach.same a.roots a.edges⟩
theorem Calm.still {W W' : St} (c : Calm W W') : Still W W' := ⟨c.n, c.edges, c.roots⟩
theorem Step.still {W W' : St} (h : Inv W) (s : Step W W') : Still W W' := by
  cases s with
  | start hp => exact ⟨(calm_begin _ _).n, (calm_begin _ _).edges, (calm_begin _ _).roots⟩
  | prop hp hg => exact (calm_prop _ _ _).still
  | @atomic W1 W2 v hp hg p1 p2 hg2 =>
    have e := props_nil p1 hg
    subst e
    have c := (calm_begin W1.rlist W1).trans p2.calm
    exact ⟨c.n, c.edges, c.roots⟩
  | @sweep W' k v hp p hs =>
    have si := p.si h (h.p2 hp)
    exact ⟨si.n, si.edges, si.roots⟩
  | fin hp => exact ⟨rfl, rfl, rfl⟩

/-- nothing but what is reached has been marked in this cycle -/
structure Fresh (W : St) : Prop where
  g : W.phase = 1 → ∀ i ∈ W.grey, Reach W i
  b : W.phase = 1 → ∀ i ∈ W.kept, W.mark i = 2 ∨ W.mark i = 3 → Reach W i
  s : W.phase = 2 → ∀ i ∈ W.kept, ¬ Dead W i → Reach W i
  f : W.phase = 3 → ∀ i ∈ W.kept, Reach W i
theorem fresh0 {W : St} (h : W.phase = 0) : Fresh W := ⟨fun q => by omega, fun q => by omega, fun q => by omega, fun q => by omega⟩
theorem fresh_marks {W : St} (hg : ∀ i ∈ W.grey, Reach W i) (hb : ∀ i ∈ W.kept, W.mark i = 2 ∨ W.mark i = 3 → Reach W i) : ∀ (ns : List Nat), (∀ i ∈ ns, Reach W i) →
    (∀ i ∈ (beginL W ns).grey, Reach W i) ∧ (∀ i ∈ (beginL W ns).kept, (beginL W ns).mark i = 2 ∨ (beginL W ns).mark i = 3 → Reach W i) := by
  intro ns
  induction ns generalizing W with
  | nil => intro _; exact ⟨hg, hb⟩
  | cons j r ih =>
    intro hr
    have c := calm_mark W j
    have := ih (W := markW W j) (fun i hi => c.reach.mpr ?_) (fun i hi hm => c.reach.mpr ?_) (fun i hi => c.reach.mpr (hr i (.tail _ hi)))
    · exact ⟨fun i hi => c.reach.mp (this.1 i hi), fun i hi hm => c.reach.mp (this.2 i hi hm)⟩
    · rcases (mark_grey W j i).mp hi with q | q
      · exact hg i q
      · exact q.1 ▸ hr j (.head _)
    · rw [c.kept] at hi
      rw [mark_of] at hm
      split at hm
      · rename_i q; exact q.1 ▸ hr j (.head _)
      · exact hb i hi hm
theorem fresh_prop {W : St} (hf : WF W) (hg : ∀ i ∈ W.grey, Reach W i) (hb : ∀ i ∈ W.kept, W.mark i = 2 ∨ W.mark i = 3 → Reach W i) {ns : List Nat} {i : Nat} (he : W.grey = ns ++ [i]) :
    (∀ j ∈ (propW W ns i).grey, Reach W j) ∧ (∀ j ∈ (propW W ns i).kept, (propW W ns i).mark j = 2 ∨ (propW W ns i).mark j = 3 → Reach W j) := by
  have hi := hg i (by rw [he]; simp)
  have same : ∀ j, Reach ((W.setGrey ns).setMark i 3) j ↔ Reach W j := fun j => ⟨Reach.same (W := (W.setGrey ns).setMark i 3) (W' := W) rfl rfl, Reach.same (W := W) (W' := (W.setGrey ns).setMark i 3) rfl rfl⟩
  have := fresh_marks (W := (W.setGrey ns).setMark i 3) (fun j hj => (same j).mpr (hg j (by rw [he]; exact List.mem_append_left _ hj))) (fun j hj hm => (same j).mpr ?_) (W.edges i) (fun j hj => (same j).mpr (.edge hi hj))
  · exact ⟨fun j hj => (same j).mp (this.1 j hj), fun j hj hm => (same j).mp (this.2 j hj hm)⟩
  · by_cases e : j = i
    · exact e ▸ hi
    · have : W.mark j = 2 ∨ W.mark j = 3 := by
        have hm' : (if j = i then (3 : Int) else W.mark j) = 2 ∨ (if j = i then (3 : Int) else W.mark j) = 3 := hm
        rw [if_neg e] at hm'; exact hm'
      exact hb j hj this
theorem fresh_props {W W' : St} (p : Props W W') (hf : WF W) (hg : ∀ i ∈ W.grey, Reach W i) (hb : ∀ i ∈ W.kept, W.mark i = 2 ∨ W.mark i = 3 → Reach W i) :
    (∀ i ∈ W'.grey, Reach W i) ∧ (∀ j ∈ W'.kept, W'.mark j = 2 ∨ W'.mark j = 3 → Reach W j) := by
  induction p with
  | refl => exact ⟨hg, hb⟩
  | step p he ih =>
    have c := p.calm
    have := fresh_prop (hf.props p) (fun i hi => c.reach.mpr (ih.1 i hi)) (fun i hi hm => c.reach.mpr (ih.2 i hi hm)) he
    exact ⟨fun i hi => c.reach.mp (this.1 i hi), fun i hi hm => c.reach.mp (this.2 i hi hm)⟩
/-- a step within the cycle keeps it; at its end all that is kept is reached -/
theorem Fresh.step {W W' : St} (h : Inv W) (q : Fresh W) (s : Step W W') : (W'.phase ≠ 0 → Fresh W') ∧ (W'.phase = 0 → ∀ i ∈ W'.kept, Reach W' i) := by
  have st := s.still h
  cases s with
  | start hp =>
    refine ⟨fun _ => ?_, fun e => absurd e (by show ¬ (1 : Int) = 0; decide)⟩
    have p := h.p0 (.inl hp)
    have c := calm_begin W.rlist (W.setGrey [])
    have same : ∀ j, Reach (W.setGrey []) j ↔ Reach W j := fun j => ⟨Reach.same (W := W.setGrey []) (W' := W) rfl rfl, Reach.same (W := W) (W' := W.setGrey []) rfl rfl⟩
    have := fresh_marks (W := W.setGrey []) (fun j hj => nomatch hj) (fun j hj hm => by
      have a := p.m j hj
      have hm' : W.mark j = 2 ∨ W.mark j = 3 := hm
      rcases h.wh with z | z <;> omega) W.rlist (fun j hj => (same j).mpr (.root (h.rl ▸ hj)))
    exact ⟨fun _ i hi => st.reach.mpr ((same i).mp (this.1 i hi)), fun _ i hi hm => st.reach.mpr ((same i).mp (this.2 i hi hm)), fun e => absurd e (by show ¬ (1 : Int) = 2; decide), fun e => absurd e (by show ¬ (1 : Int) = 3; decide)⟩
  | @prop ns i hp hg =>
    have c := calm_prop W ns i
    refine ⟨fun _ => ?_, fun e => by rw [c.phase, hp] at e; exact absurd e (by decide)⟩
    have := fresh_prop h.wf (q.g hp) (q.b hp) hg
    exact ⟨fun _ i hi => c.reach.mpr (this.1 i hi), fun _ i hi hm => c.reach.mpr (this.2 i hi hm), fun e => by rw [c.phase, hp] at e; exact absurd e (by decide), fun e => by rw [c.phase, hp] at e; exact absurd e (by decide)⟩
  | @atomic W1 W2 v hp hg p1 p2 hg2 =>
    have e := props_nil p1 hg
    subst e
    refine ⟨fun _ => ?_, fun e => absurd e (by show ¬ (2 : Int) = 0; decide)⟩
    have c0 := calm_begin W1.rlist W1
    have c := c0.trans p2.calm
    have a := fresh_marks (q.g hp) (q.b hp) W1.rlist (fun j hj => .root (h.rl ▸ hj))
    have hb := h.wf.begin (ns := W1.rlist) h.wf.hr
    have b := fresh_props p2 hb (fun i hi => c0.reach.mpr (a.1 i hi)) (fun i hi hm => c0.reach.mpr (a.2 i hi hm))
    have q1 := P1.props p2 ((h.p1 hp).begin (ns := W1.rlist) h.wh) hb (by rw [(calm_begin _ _).white]; exact h.wh)
    have hw2 : W2.white = 0 ∨ W2.white = 1 := by rw [c.white]; exact h.wh
    refine ⟨fun e => absurd e (by show ¬ (2 : Int) = 1; decide), fun e => absurd e (by show ¬ (2 : Int) = 1; decide), fun _ i hi hd => ?_, fun e => absurd e (by show ¬ (2 : Int) = 3; decide)⟩
    have hi' : i ∈ W2.kept := hi
    have hd' : ¬ (W2.mark i = 4 ∨ (W2.mark i < 2 ∧ W2.mark i ≠ 1 - W2.white)) := hd
    have : W2.mark i = 2 ∨ W2.mark i = 3 := by
      rcases q1.m i hi' with z | z | z
      · refine absurd (.inr ⟨?_, ?_⟩) hd'
        · rcases hw2 with y | y <;> omega
        · rcases hw2 with y | y <;> omega
      · exact .inl z
      · exact .inr z
    exact st.reach.mpr (c0.reach.mp (b.2 i hi' this))
  | @sweep W' k v hp p hs =>
    have si := p.si h (h.p2 hp)
    refine ⟨fun _ => ?_, fun e => absurd e (by show ¬ (3 : Int) = 0; decide)⟩
    refine ⟨fun e => absurd e (by show ¬ (3 : Int) = 1; decide), fun e => absurd e (by show ¬ (3 : Int) = 1; decide), fun e => absurd e (by show ¬ (3 : Int) = 2; decide), fun _ i hi => ?_⟩
    have hi' : i ∈ W'.kept := hi
    refine st.reach.mpr (q.s hp i (si.sub i hi') fun hd => ?_)
    rcases si.live i hi' with z | z
    · have hw : W'.mark i = W'.white := by
        rcases si.s i hi' with y | y
        · rw [hs] at y; exact nomatch y
        · exact y
      rcases hd with y | y
      · rcases si.m i hi' with x | x | x <;> omega
      · exact y.2 (by rw [← z, hw, si.white])
    · exact z.2 hd
  | fin hp => exact ⟨fun e => absurd rfl e, fun _ i hi => Reach.same (W := W) (W' := ((W.setPhase 0).setDebt 0).setCyc (W.cyc + 1)) rfl rfl (q.f hp i hi)⟩
theorem reach_thr {W : St} {v : Int} {i : Nat} : Reach (W.setThr v) i ↔ Reach W i := ⟨Reach.same (W := W.setThr v) (W' := W) rfl rfl, Reach.same (W := W) (W' := W.setThr v) rfl rfl⟩
theorem Inv.thr {W : St} (h : Inv W) (v : Int) : Inv (W.setThr v) :=
  { wf := { h.wf with }, n16 := h.n16, rl := h.rl, ph := h.ph, wh := h.wh, tot := h.tot, rk := fun i r => h.rk i (reach_thr.mp r), p1 := fun q => ⟨(h.p1 q).m, (h.p1 q).g, (h.p1 q).t⟩,
    p2 := fun q => ⟨(h.p2 q).g, (h.p2 q).m, (h.p2 q).s, fun i r => (h.p2 q).r i (reach_thr.mp r), (h.p2 q).l⟩, p0 := fun q => ⟨(h.p0 q).g, (h.p0 q).m⟩ }
theorem Inv.kl {W : St} (h : Inv W) : W.kept.length ≤ 16 := Nat.le_trans (nodup_le W.n _ h.wf.hkn h.wf.hk) h.n16
theorem Inv.sweepAll {W : St} (h : Inv W) (e : W.phase = 0) : Inv (((W.setGrey []).setSweep W.kept).setPhase 2) := by
  have p := h.p0 (.inl e)
  have rs : ∀ i, Reach (((W.setGrey []).setSweep W.kept).setPhase 2) i → Reach W i := fun i r => Reach.same (W := ((W.setGrey []).setSweep W.kept).setPhase 2) (W' := W) rfl rfl r
  exact { wf := wf_same h.wf rfl rfl rfl rfl (fun _ h => h) h.wf.hkn (Nat.le_trans h.kl (by decide)) rfl, n16 := h.n16, rl := h.rl, ph := .inr (.inr (.inl rfl)), wh := h.wh, tot := h.tot, rk := fun i r => h.rk i (rs i r),
          p1 := fun q => absurd q (by show ¬ (2 : Int) = 1; decide),
          p2 := fun _ => ⟨rfl, fun i hi => by
            have := p.m i hi
            show W.mark i = 0 ∨ W.mark i = 1 ∨ W.mark i = 3
            rcases h.wh with z | z <;> omega, fun i hi => .inl hi, fun i r => .inr (p.m i (h.rk i (rs i r))), h.kl⟩,
          p0 := fun q => by
            rcases q with q | q
            · exact absurd q (by show ¬ (2 : Int) = 0; decide)
            · exact absurd q (by show ¬ (2 : Int) = 3; decide) }
theorem Inv.pause {W : St} (h : Inv W) (e : W.phase = 3) : Inv (W.setPhase 0) := by
  have p := h.p0 (.inr e)
  exact { wf := { h.wf with }, n16 := h.n16, rl := h.rl, ph := .inl rfl, wh := h.wh, tot := h.tot, rk := fun i r => h.rk i (Reach.same (W := W.setPhase 0) (W' := W) rfl rfl r),
          p1 := fun q => absurd q (by show ¬ (0 : Int) = 1; decide), p2 := fun q => absurd q (by show ¬ (0 : Int) = 2; decide), p0 := fun _ => ⟨p.g, p.m⟩ }
theorem begin_phase (a : Int) : ∀ (ns : List Nat) (W : St), beginL (W.setPhase a) ns = (beginL W ns).setPhase a
  | [], _ => rfl
  | i :: r, W => by
    have : markW (W.setPhase a) i = (markW W i).setPhase a := by
      unfold markW
      by_cases h : W.mark i < 2
      · rw [if_pos h, if_pos (show (W.setPhase a).mark i < 2 from h)]; rfl
      · rw [if_neg h, if_neg (show ¬ (W.setPhase a).mark i < 2 from h)]
    show beginL (markW (W.setPhase a) i) r = _
    rw [this]; exact begin_phase a r (markW W i)
theorem restart {W : St} (e : W.phase = 3) : Step (W.setPhase 0) ((beginL (W.setGrey []) W.rlist).setPhase 1) := by
  have := Step.start (W := W.setPhase 0) rfl
  have e1 : (W.setPhase 0).setGrey [] = (W.setGrey []).setPhase 0 := rfl
  rw [e1, begin_phase] at this
  exact this
theorem step2 {W W' : St} (e : W.phase = 2) (s : Step W W') : W'.phase = 3 := by
  cases s with
  | start q => omega
  | prop q => omega
  | atomic q => omega
  | sweep q => rfl
  | fin q => omega
def sigP (W : St) : Nat := if W.phase = 0 then 0 else sig W
theorem Step.sigP {W W' : St} (h : Inv W) (s : Step W W') (e : W.phase ≠ 0) : sigP W' < sigP W := by
  have := sig_pos W
  unfold Mine.sigP
  rw [if_neg e]
  rcases s.sig h with q | q
  · rw [if_neg q.2.1]; exact q.2.2
  · rw [if_pos q.2.1]; exact this
end
end Mine
namespace Mine
section
def barW (W : St) (i j : Nat) (bm : Bool) : St := if W.mark i = 3 ∧ W.mark j < 2 ∧ W.mark j = W.white then (if bm then markW W j else W.setMark i W.white) else W
def edgeW (W : St) (i j : Nat) : St := barW (W.setEdges i (W.edges i ++ [j])) i j (W.phase == 1)
def freshW (W : St) (sz : Int) : St := (newW W sz).setTotal (W.total + sz)
theorem WF.edges {W : St} (h : WF W) {i : Nat} {es : List Nat} (he : ∀ c ∈ es, 1 ≤ c ∧ c ≤ W.n) (hl : es.length ≤ 100) : WF (W.setEdges i es) :=
  { h with
    he := fun k c hc => by
      have hc' : c ∈ (if k = i then es else W.edges k) := hc
      split at hc'
      · exact he c hc'
      · exact h.he k c hc'
    hel := fun k => by
      show (if k = i then es else W.edges k).length ≤ 100
      split
      · exact hl
      · exact h.hel k }
theorem WF.addEdge {W : St} (h : WF W) {i j : Nat} (h3 : 1 ≤ j) (h4 : j ≤ W.n) (hl : (W.edges i).length < 100) : WF (W.setEdges i (W.edges i ++ [j])) :=
  h.edges (fun c hc => by
    rcases List.mem_append.mp hc with q | q
    · exact h.he i c q
    · rw [List.mem_singleton.mp q]; exact ⟨h3, h4⟩) (by simp; omega)
theorem WF.setRoots {W : St} (h : WF W) {rs : List Nat} (hr : ∀ j ∈ rs, 1 ≤ j ∧ j ≤ W.n) (hl : rs.length ≤ 100) : WF (W.setRoots rs) := { h with ho := hr, hol := hl }
theorem WF.setRlist {W : St} (h : WF W) {rs : List Nat} (hr : ∀ j ∈ rs, 1 ≤ j ∧ j ≤ W.n) (hl : rs.length ≤ 100) : WF (W.setRlist rs) := { h with hr := hr, hrl := hl }

/-- less is reached: all the rest stands -/
theorem Inv.less {W : St} (h : Inv W) {i : Nat} {es rs : List Nat} (he : ∀ c ∈ es, c ∈ W.edges i) (hel : es.length ≤ (W.edges i).length) (hr : ∀ c ∈ rs, c ∈ W.roots) (hrl : rs.length ≤ W.roots.length) : Inv (((W.setEdges i es).setRoots rs).setRlist rs) := by
  have hsub : ∀ k c, c ∈ (((W.setEdges i es).setRoots rs).setRlist rs).edges k → c ∈ W.edges k := fun k c hc => by
    have hc' : c ∈ (if k = i then es else W.edges k) := hc
    split at hc'
    · rename_i e; exact e ▸ he c hc'
    · exact hc'
  have rs' : ∀ k, Reach (((W.setEdges i es).setRoots rs).setRlist rs) k → Reach W k := fun k r => by
    induction r with
    | root q => exact .root (hr _ q)
    | edge _ q ih => exact .edge ih (hsub _ _ q)
  have hf : WF (((W.setEdges i es).setRoots rs).setRlist rs) :=
    ((h.wf.edges (fun c hc => h.wf.he i c (he c hc)) (Nat.le_trans hel (h.wf.hel i))).setRoots (fun c hc => h.wf.ho c (hr c hc)) (Nat.le_trans hrl h.wf.hol)).setRlist (fun c hc => h.wf.ho c (hr c hc)) (Nat.le_trans hrl h.wf.hol)
  exact { wf := hf, n16 := h.n16, rl := rfl, ph := h.ph, wh := h.wh, tot := h.tot, rk := fun k r => h.rk k (rs' k r),
          p1 := fun q => ⟨(h.p1 q).m, (h.p1 q).g, fun k hk hm c hc => (h.p1 q).t k hk hm c (hsub k c hc)⟩,
          p2 := fun q => ⟨(h.p2 q).g, (h.p2 q).m, (h.p2 q).s, fun k r => (h.p2 q).r k (rs' k r), (h.p2 q).l⟩, p0 := fun q => ⟨(h.p0 q).g, (h.p0 q).m⟩ }
/-- the row of roots told anew -/
theorem Inv.again {W : St} (h : Inv W) : Inv (W.setRlist W.roots) := by
  have e : W.setRlist W.roots = W := by rw [← h.rl]; rfl
  rw [e]; exact h
theorem Inv.addRoot {W : St} (h : Inv W) {r : Nat} (hk : r ∈ W.kept) (hc : Reach W r ∨ (W.edges r = [] ∧ W.mark r = W.white)) (hl : W.roots.length < 100) : Inv ((W.setRoots (W.roots ++ [r])).setRlist (W.roots ++ [r])) := by
  have rs : ∀ k, Reach ((W.setRoots (W.roots ++ [r])).setRlist (W.roots ++ [r])) k → Reach W k ∨ (k = r ∧ W.edges r = [] ∧ W.mark r = W.white) := fun k q => by
    induction q with
    | root q =>
      rcases List.mem_append.mp q with q | q
      · exact .inl (.root q)
      · have e := List.mem_singleton.mp q
        rcases hc with c | c
        · exact .inl (e ▸ c)
        · exact .inr ⟨e, c⟩
    | edge _ q ih =>
      rcases ih with z | ⟨z, z1, _⟩
      · exact .inl (.edge z q)
      · have q' : _ ∈ W.edges _ := q
        rw [z, z1] at q'; exact nomatch q'
  have hr : ∀ j ∈ W.roots ++ [r], 1 ≤ j ∧ j ≤ W.n := fun j hj => by
    rcases List.mem_append.mp hj with q | q
    · exact h.wf.ho j q
    · rw [List.mem_singleton.mp q]; exact h.wf.hk r hk
  have hll : (W.roots ++ [r]).length ≤ 100 := by simp; omega
  exact { wf := (h.wf.setRoots hr hll).setRlist hr hll, n16 := h.n16, rl := rfl, ph := h.ph, wh := h.wh, tot := h.tot,
          rk := fun k q => by
            rcases rs k q with z | z
            · exact h.rk k z
            · exact z.1 ▸ hk
          p1 := fun q => ⟨(h.p1 q).m, (h.p1 q).g, (h.p1 q).t⟩,
          p2 := fun q => ⟨(h.p2 q).g, (h.p2 q).m, (h.p2 q).s, fun k z => by
            rcases rs k z with y | y
            · exact (h.p2 q).r k y
            · rw [y.1]; exact .inr y.2.2, (h.p2 q).l⟩,
          p0 := fun q => ⟨(h.p0 q).g, (h.p0 q).m⟩ }
theorem Inv.fresh {W : St} (h : Inv W) (hn : W.n < 16) (sz : Int) : Inv (freshW W sz) ∧ W.n + 1 ∈ (freshW W sz).kept ∧ (freshW W sz).edges (W.n + 1) = [] ∧ (freshW W sz).mark (W.n + 1) = (freshW W sz).white ∧ ∀ k, Reach W k → Reach (freshW W sz) k := by
  have he : ∀ k, (freshW W sz).edges k = if k = W.n + 1 then [] else W.edges k := fun _ => rfl
  have hm : ∀ k, (freshW W sz).mark k = if k = W.n + 1 then W.white else W.mark k := fun _ => rfl
  have hnk : ∀ k ∈ W.kept, k ≠ W.n + 1 := fun k hk => by have := (h.wf.hk k hk).2; omega
  have hkk : ∀ k, k ∈ (freshW W sz).kept → k ∈ W.kept ∨ k = W.n + 1 := fun k hk => by
    rcases List.mem_append.mp (show k ∈ W.kept ++ [W.n + 1] from hk) with q | q
    · exact .inl q
    · exact .inr (List.mem_singleton.mp q)
  have hec : ∀ k c, c ∈ W.edges k → (freshW W sz).mark c = W.mark c := fun k c hc => by
    rw [hm, if_neg (by have := (h.wf.he k c hc).2; omega)]
  have rs : ∀ k, Reach (freshW W sz) k → Reach W k := fun k r => by
    induction r with
    | root q => exact .root q
    | edge _ q ih =>
      rw [he] at q
      split at q
      · exact nomatch q
      · exact .edge ih q
  have rs' : ∀ k, Reach W k → Reach (freshW W sz) k := fun k r => by
    induction r with
    | root q => exact .root q
    | edge r q ih => exact .edge ih (by rw [he, if_neg (hnk _ (h.rk _ r))]; exact q)
  have ww : ¬ W.white = 2 ∧ ¬ W.white = 3 := by rcases h.wh with z | z <;> omega
  have hf : WF (freshW W sz) :=
    { hn := by show W.n + 1 ≤ 100; omega
      he := fun k c hc => by
        rw [he] at hc
        split at hc
        · exact nomatch hc
        · exact ⟨(h.wf.he k c hc).1, Nat.le_succ_of_le (h.wf.he k c hc).2⟩
      hel := fun k => by
        rw [he]; split
        · decide
        · exact h.wf.hel k
      hg := fun j hj => by
        have := h.wf.hg j hj
        exact ⟨⟨this.1.1, Nat.le_succ_of_le this.1.2⟩, by rw [hm, if_neg (by omega)]; exact this.2⟩
      hgn := h.wf.hgn
      hr := fun j hj => ⟨(h.wf.hr j hj).1, Nat.le_succ_of_le (h.wf.hr j hj).2⟩
      hrl := h.wf.hrl
      hk := fun j hj => by
        rcases hkk j hj with q | q
        · exact ⟨(h.wf.hk j q).1, Nat.le_succ_of_le (h.wf.hk j q).2⟩
        · subst q; exact ⟨Nat.le_add_left _ _, Nat.le_refl _⟩
      hkn := List.nodup_append.mpr ⟨h.wf.hkn, by simp, fun a ha b hb e => hnk a ha (by rw [e, List.mem_singleton.mp hb])⟩
      hs := h.wf.hs
      ho := fun j hj => ⟨(h.wf.ho j hj).1, Nat.le_succ_of_le (h.wf.ho j hj).2⟩
      hol := h.wf.hol }
  have hin : W.n + 1 ∈ (freshW W sz).kept := List.mem_append_right _ (.head _)
  refine ⟨{ wf := hf, n16 := hn, rl := h.rl, ph := h.ph, wh := h.wh, tot := ?_, rk := fun k r => List.mem_append_left _ (h.rk k (rs k r)), p1 := fun q => ?_, p2 := fun q => ?_, p0 := fun q => ⟨(h.p0 q).g, fun k hk => ?_⟩ }, hin, by rw [he, if_pos rfl], by rw [hm, if_pos rfl]; rfl, rs'⟩
  · show W.total + sz = ((W.kept ++ [W.n + 1]).map (newW W sz).size).sum
    rw [List.map_append, List.sum_append, h.tot]
    have e1 : W.kept.map (newW W sz).size = W.kept.map W.size := List.map_congr_left fun k hk => by
      show (if k = W.n + 1 then sz else W.size k) = _
      rw [if_neg (hnk k hk)]
    have e2 : ([W.n + 1].map (newW W sz).size).sum = sz := by
      show (if W.n + 1 = W.n + 1 then sz else W.size (W.n + 1)) + 0 = sz
      rw [if_pos rfl]; omega
    rw [e1, e2]
  · have p := h.p1 q
    refine ⟨fun k hk => ?_, fun k hk h2 => ?_, fun k hk h3 c hc => ?_⟩
    · rw [hm]; split
      · exact .inl rfl
      · rename_i e
        rcases hkk k hk with z | z
        · exact p.m k z
        · exact absurd z e
    · rw [hm] at h2
      split at h2
      · exact absurd h2 ww.1
      · rename_i e
        rcases hkk k hk with z | z
        · exact p.g k z h2
        · exact absurd z e
    · rw [hm] at h3
      split at h3
      · exact absurd h3 ww.2
      · rename_i e
        rw [he, if_neg e] at hc
        rw [hec k c hc]
        rcases hkk k hk with z | z
        · exact p.t k z h3 c hc
        · exact absurd z e
  · have p := h.p2 q
    refine ⟨p.g, fun k hk => ?_, fun k hk => ?_, fun k r => ?_, p.l⟩
    · rw [hm]; split
      · rcases h.wh with z | z
        · exact .inl z
        · exact .inr (.inl z)
      · rename_i e
        rcases hkk k hk with z | z
        · exact p.m k z
        · exact absurd z e
    · rw [hm]; split
      · exact .inr rfl
      · rename_i e
        rcases hkk k hk with z | z
        · exact p.s k z
        · exact absurd z e
    · have r' := rs k r
      rw [hm, if_neg (hnk k (h.rk k r'))]
      exact p.r k r'
  · rw [hm]; split
    · rfl
    · rename_i e
      rcases hkk k hk with z | z
      · exact (h.p0 q).m k z
      · exact absurd z e
theorem calm_bar (W : St) (i j : Nat) (b : Bool) : Calm W (barW W i j b) := by
  unfold barW
  split
  · split
    · exact calm_mark W j
    · exact ⟨rfl, rfl, rfl, rfl, rfl, rfl, rfl, rfl, rfl, rfl, rfl⟩
  · exact .refl
theorem WF.calmSet {W : St} (h : WF W) (hg : W.grey = []) (i : Nat) (v : Int) : WF (W.setMark i v) := h.mark0 hg i v
theorem Inv.addEdge {W : St} (h : Inv W) {i j : Nat} (hi : Reach W i) (hk : j ∈ W.kept) (hc : Reach W j ∨ (W.edges j = [] ∧ W.mark j = W.white ∧ j ≠ i)) (hl : (W.edges i).length < 100) : Inv (edgeW W i j) := by
  have hik := h.rk i hi
  have hjr := h.wf.hk j hk
  have he : ∀ k, (W.setEdges i (W.edges i ++ [j])).edges k = if k = i then W.edges i ++ [j] else W.edges k := fun _ => rfl
  have c := calm_bar (W.setEdges i (W.edges i ++ [j])) i j (W.phase == 1)
  have hV := h.wf.addEdge hjr.1 hjr.2 hl
  have ww : ¬ W.white = 2 ∧ ¬ W.white = 3 ∧ W.white < 2 := by rcases h.wh with z | z <;> omega
  have rs0 : ∀ k, Reach (W.setEdges i (W.edges i ++ [j])) k → Reach W k ∨ (k = j ∧ W.edges j = [] ∧ W.mark j = W.white ∧ j ≠ i) := fun k r => by
    induction r with
    | root q => exact .inl (.root q)
    | @edge a b _ q ih =>
      rw [he] at q
      rcases ih with z | ⟨z, z1, z2, z3⟩
      · split at q
        · rename_i e
          rcases List.mem_append.mp q with q | q
          · exact .inl (.edge z (e ▸ q))
          · have e2 := List.mem_singleton.mp q
            rcases hc with y | y
            · exact .inl (e2 ▸ y)
            · exact .inr ⟨e2, y⟩
        · exact .inl (.edge z q)
      · rw [if_neg (z ▸ z3), z, z1] at q; exact nomatch q
  have rs : ∀ k, Reach (edgeW W i j) k → Reach W k ∨ (k = j ∧ W.edges j = [] ∧ W.mark j = W.white ∧ j ≠ i) := fun k r => rs0 k (c.reach.mp r)
  have hrk : ∀ k, Reach (edgeW W i j) k → k ∈ (edgeW W i j).kept := fun k r => by
    rw [show (edgeW W i j).kept = W.kept from c.kept]
    rcases rs k r with z | z
    · exact h.rk k z
    · exact z.1 ▸ hk
  have base : ∀ (wf : WF (edgeW W i j)) (p1 : (edgeW W i j).phase = 1 → P1 (edgeW W i j)) (p2 : (edgeW W i j).phase = 2 → P2 (edgeW W i j)) (p0 : (edgeW W i j).phase = 0 ∨ (edgeW W i j).phase = 3 → P0 (edgeW W i j)), Inv (edgeW W i j) := fun wf p1 p2 p0 =>
    { wf := wf, n16 := by rw [show (edgeW W i j).n = W.n from c.n]; exact h.n16, rl := by rw [show (edgeW W i j).rlist = W.rlist from c.rlist, show (edgeW W i j).roots = W.roots from c.roots]; exact h.rl,
      ph := by rw [show (edgeW W i j).phase = W.phase from c.phase]; exact h.ph, wh := by rw [show (edgeW W i j).white = W.white from c.white]; exact h.wh,
      tot := by rw [show (edgeW W i j).total = W.total from c.total, show (edgeW W i j).kept = W.kept from c.kept, show (edgeW W i j).size = W.size from c.size]; exact h.tot, rk := hrk, p1 := p1, p2 := p2, p0 := p0 }
  have eph : (edgeW W i j).phase = W.phase := c.phase
  have ekk : (edgeW W i j).kept = W.kept := c.kept
  have ewh : (edgeW W i j).white = W.white := c.white
  have eed : ∀ k, (edgeW W i j).edges k = if k = i then W.edges i ++ [j] else W.edges k := fun k => by rw [show (edgeW W i j).edges = (W.setEdges i (W.edges i ++ [j])).edges from c.edges]; exact he k
  by_cases hb : W.mark i = 3 ∧ W.mark j < 2 ∧ W.mark j = W.white
  · -- the barrier
    by_cases hp : W.phase = 1
    · have e : edgeW W i j = markW (W.setEdges i (W.edges i ++ [j])) j := by
        unfold edgeW barW
        rw [if_pos (show (W.setEdges i (W.edges i ++ [j])).mark i = 3 ∧ (W.setEdges i (W.edges i ++ [j])).mark j < 2 ∧ (W.setEdges i (W.edges i ++ [j])).mark j = (W.setEdges i (W.edges i ++ [j])).white from hb), hp]; rfl
      have p := h.p1 hp
      have mk : ∀ k, (edgeW W i j).mark k = if k = j then 2 else W.mark k := fun k => by
        rw [e, mark_of]
        show (if k = j ∧ W.mark j < 2 then (2 : Int) else W.mark k) = _
        simp [hb.2.1]
      have mg : ∀ k, k ∈ (edgeW W i j).grey ↔ k ∈ W.grey ∨ k = j := fun k => by
        rw [e, mark_grey]
        show k ∈ W.grey ∨ (k = j ∧ W.mark j < 2) ↔ _
        simp [hb.2.1]
      refine base (by rw [e]; exact hV.mark hjr.1 hjr.2) (fun _ => ⟨fun k hk' => ?_, fun k hk' hm => ?_, fun k hk' hm d hd => ?_⟩) (fun q => by rw [eph, hp] at q; exact absurd q (by decide)) (fun q => by rw [eph, hp] at q; rcases q with q | q <;> exact absurd q (by decide))
      · rw [mk, ewh]; split
        · exact .inr (.inl rfl)
        · exact p.m k (ekk ▸ hk')
      · rw [mg]
        rw [mk] at hm
        split at hm
        · rename_i q; exact .inr q
        · exact .inl (p.g k (ekk ▸ hk') hm)
      · rw [mk] at hm
        split at hm
        · omega
        · rw [mk]; split
          · omega
          · rename_i hdj
            rw [eed] at hd
            split at hd
            · rename_i q
              rcases List.mem_append.mp hd with z | z
              · exact p.t k (ekk ▸ hk') hm d (q ▸ z)
              · exact absurd (List.mem_singleton.mp z) hdj
            · exact p.t k (ekk ▸ hk') hm d hd
    · have e : edgeW W i j = (W.setEdges i (W.edges i ++ [j])).setMark i W.white := by
        unfold edgeW barW
        rw [if_pos (show (W.setEdges i (W.edges i ++ [j])).mark i = 3 ∧ (W.setEdges i (W.edges i ++ [j])).mark j < 2 ∧ (W.setEdges i (W.edges i ++ [j])).mark j = (W.setEdges i (W.edges i ++ [j])).white from hb), if_neg (by simpa using hp)]; rfl
      have mk : ∀ k, (edgeW W i j).mark k = if k = i then W.white else W.mark k := fun k => by rw [e]; rfl
      have hp2 : W.phase = 2 := by
        rcases h.ph with q | q | q | q
        · have := (h.p0 (.inl q)).m i hik; omega
        · exact absurd q hp
        · exact q
        · have := (h.p0 (.inr q)).m i hik; omega
      have p := h.p2 hp2
      refine base (by rw [e]; exact hV.mark0 p.g i _) (fun q => absurd (eph ▸ q) hp) (fun _ => ⟨by rw [e]; exact p.g, fun k hk' => ?_, fun k hk' => ?_, fun k r => ?_, by rw [e]; exact p.l⟩) (fun q => by rw [eph, hp2] at q; rcases q with q | q <;> exact absurd q (by decide))
      · rw [mk]; split
        · rcases h.wh with z | z
          · exact .inl z
          · exact .inr (.inl z)
        · exact p.m k (ekk ▸ hk')
      · rw [mk, ewh]; split
        · exact .inr rfl
        · rw [show (edgeW W i j).sweep = W.sweep from c.sweep]; exact p.s k (ekk ▸ hk')
      · rw [mk, ewh]; split
        · exact .inr rfl
        · rcases rs k r with z | z
          · exact p.r k z
          · rw [z.1]; exact .inr z.2.2.1
  · -- none
    have e : edgeW W i j = W.setEdges i (W.edges i ++ [j]) := by unfold edgeW barW; exact if_neg hb
    have mk : ∀ k, (edgeW W i j).mark k = W.mark k := fun k => by rw [e]; rfl
    have gk : (edgeW W i j).grey = W.grey := by rw [e]; rfl
    refine base (by rw [e]; exact hV) (fun q => ?_) (fun q => ?_) (fun q => ?_)
    · have p := h.p1 (eph ▸ q)
      refine ⟨fun k hk' => by rw [mk, ewh]; exact p.m k (ekk ▸ hk'), fun k hk' hm => by rw [gk]; rw [mk] at hm; exact p.g k (ekk ▸ hk') hm, fun k hk' hm d hd => ?_⟩
      rw [mk] at hm ⊢
      rw [eed] at hd
      split at hd
      · rename_i q2
        rcases List.mem_append.mp hd with z | z
        · exact p.t k (ekk ▸ hk') hm d (q2 ▸ z)
        · have e3 := List.mem_singleton.mp z
          intro hlt
          refine hb ⟨q2 ▸ hm, e3 ▸ hlt, ?_⟩
          rcases p.m j hk with y | y | y
          · exact y
          · rw [e3] at hlt; omega
          · rw [e3] at hlt; omega
      · exact p.t k (ekk ▸ hk') hm d hd
    · have p := h.p2 (eph ▸ q)
      refine ⟨gk.trans p.g, fun k hk' => by rw [mk]; exact p.m k (ekk ▸ hk'), fun k hk' => by rw [mk, ewh, show (edgeW W i j).sweep = W.sweep from c.sweep]; exact p.s k (ekk ▸ hk'), fun k r => ?_, by rw [show (edgeW W i j).sweep = W.sweep from c.sweep]; exact p.l⟩
      rw [mk, ewh]
      rcases rs k r with z | z
      · exact p.r k z
      · rw [z.1]; exact .inr z.2.2.1
    · have p := h.p0 (eph ▸ q)
      exact ⟨gk.trans p.g, fun k hk' => by rw [mk, ewh]; exact p.m k (ekk ▸ hk')⟩
end
end Mine
namespace Mine
section
theorem sorted_ext : ∀ {a b : List Nat}, a.Pairwise (· < ·) → b.Pairwise (· < ·) → (∀ i, i ∈ a ↔ i ∈ b) → a = b
  | [], [], _, _, _ => rfl
  | [], y :: s, _, _, h => nomatch (h y).mpr (.head _)
  | x :: r, [], _, _, h => nomatch (h x).mp (.head _)
  | x :: r, y :: s, ha, hb, h => by
    have ha' := List.pairwise_cons.mp ha
    have hb' := List.pairwise_cons.mp hb
    have e : x = y := by
      rcases List.mem_cons.mp ((h x).mp (.head _)) with q | q
      · exact q
      · rcases List.mem_cons.mp ((h y).mpr (.head _)) with z | z
        · exact z.symm
        · have := ha'.1 y z; have := hb'.1 x q; omega
    subst e
    rw [sorted_ext ha'.2 hb'.2 fun i => ?_]
    constructor
    · intro hi
      rcases List.mem_cons.mp ((h i).mp (.tail _ hi)) with q | q
      · have := ha'.1 i hi; omega
      · exact q
    · intro hi
      rcases List.mem_cons.mp ((h i).mpr (.tail _ hi)) with q | q
      · have := hb'.1 i hi; omega
      · exact q
theorem sorted_strict {ms : List Nat} (h : ms.Pairwise (· ≤ ·)) (nd : ms.Nodup) : ms.Pairwise (· < ·) := (h.and nd).imp fun q => Nat.lt_of_le_of_ne q.1 q.2
/-- the kept ones in order are the reached ones in order -/
theorem kept_reached {W : St} (h : Inv W) (k : ∀ i ∈ W.kept, Reach W i) {ms us : List Nat} (p : ms.Perm W.kept) (o : ms.Pairwise (· ≤ ·)) (u : us.Pairwise (· < ·)) (r : ∀ i, i ∈ us ↔ Reach W i) : ms = us :=
  sorted_ext (sorted_strict o (p.nodup_iff.mpr h.wf.hkn)) u fun i => p.mem_iff.trans ⟨fun q => (r i).mpr (k i q), fun q => h.rk i ((r i).mp q)⟩
/-- how far the two cycles are -/
def Far (c : Int) (W : St) : Prop := W.cyc = c ∨ (W.cyc = c + 1 ∧ Fresh W) ∨ (W.cyc = c + 2 ∧ W.phase = 0 ∧ ∀ i ∈ W.kept, Reach W i)
def left (c : Int) (W : St) : Nat := if W.cyc = c then 20 + sig W else if W.cyc = c + 1 then sig W else 0
theorem left_le {c : Int} {W : St} (h : Inv W) : left c W ≤ 40 := by
  have := sig_le h
  unfold left
  split
  · omega
  · split <;> omega
theorem Far.step {c : Int} {W W' : St} (h : Inv W) (q : Far c W) (lt : W.cyc < c + 2) (s : Step W W') : Far c W' ∧ left c W' < left c W := by
  have pos := sig_pos W
  have le' := sig_le (h.step s)
  have z := s.sig h
  rcases q with q | q | q
  · rcases z with z | z
    · refine ⟨.inl (by omega), ?_⟩
      unfold left
      rw [if_pos (by omega), if_pos q]; omega
    · refine ⟨.inr (.inl ⟨by omega, fresh0 z.2.1⟩), ?_⟩
      unfold left
      rw [if_neg (by omega), if_pos (by omega), if_pos q]; omega
  · have f := q.2.step h s
    rcases z with z | z
    · refine ⟨.inr (.inl ⟨by omega, f.1 z.2.1⟩), ?_⟩
      unfold left
      rw [if_neg (by omega), if_pos (by omega), if_neg (by omega), if_pos q.1]; omega
    · refine ⟨.inr (.inr ⟨by omega, z.2.1, f.2 z.2.1⟩), ?_⟩
      unfold left
      rw [if_neg (by omega), if_neg (by omega), if_neg (by omega), if_pos q.1]; omega
  · omega
theorem Far.done {c : Int} {W : St} (q : Far c W) (ge : ¬ W.cyc < c + 2) : W.phase = 0 ∧ ∀ i ∈ W.kept, Reach W i := by
  rcases q with q | q | q
  · omega
  · omega
  · exact q.2
end
end Mine
namespace Mine
section
/-- the world ahead of the first object -/
def W0 : St := { n := 0, mark := fun _ => 0, size := fun _ => 0, edges := fun _ => [], roots := [], kept := [], white := 0, grey := [], rlist := [], phase := 0, sweep := [], total := 0, est := 0, debt := 0, thr := 256, cyc := 0 }
theorem no_reach {i : Nat} (r : Reach W0 i) : False := by
  induction r with
  | root h => exact nomatch h
  | edge _ _ ih => exact ih
theorem inv0 : Inv W0 where
  wf := { hn := Nat.zero_le _, he := fun _ _ h => (nomatch h), hel := fun _ => Nat.zero_le _, hg := fun _ h => (nomatch h), hgn := .nil, hr := fun _ h => (nomatch h), hrl := Nat.zero_le _, hk := fun _ h => (nomatch h), hkn := .nil, hs := Nat.zero_le _, ho := fun _ h => (nomatch h), hol := Nat.zero_le _ }
  n16 := Nat.zero_le _
  rl := rfl
  ph := .inl rfl
  wh := .inl rfl
  tot := rfl
  rk := fun _ r => (no_reach r).elim
  p1 := fun h => absurd h (by decide)
  p2 := fun h => absurd h (by decide)
  p0 := fun _ => ⟨rfl, fun _ h => nomatch h⟩
abbrev F0 (wd al ed ro cy cd od mi md ch so chc soc ce : Addr) : Fix := ⟨wd, al, ed, ro, cy, cd, od, mi, md, ch, so, chc, soc, ce, fun _ => 0, fun _ => 0, fun _ => 0, [], []⟩
abbrev M0 (rl ts gr ga we : Addr) : Mut := ⟨rl, ts, gr, ga, we⟩
noncomputable def asc (a : Nat) (r : List Nat) : Prop := List.rec (motive := fun _ => Nat → Prop) (fun _ => True) (fun b _ ih a => a < b ∧ ih b) r a
theorem asc_lt : ∀ {r : List Nat} {a : Nat}, asc a r → ∀ b ∈ r, a < b
  | c :: r, a, h, b, hb => by
    rcases List.mem_cons.mp hb with e | hb
    · rw [e]; exact h.1
    · exact Nat.lt_trans h.1 (asc_lt h.2 b hb)
theorem asc_nodup : ∀ {r : List Nat} {a : Nat}, asc a r → (a :: r).Nodup
  | [], _, _ => by simp
  | b :: r, a, h => List.nodup_cons.mpr ⟨fun q => Nat.lt_irrefl _ (asc_lt (r := b :: r) h a q), asc_nodup h.2⟩
theorem inj_of {g : Sl → Nat} {l : List Sl} (hd : (l.map g).Nodup) {a b : Sl} (ha : a ∈ l) (hb : b ∈ l) (e : g a = g b) : a = b := by
  induction l with
  | nil => exact nomatch ha
  | cons c r ih =>
    have hd' := List.nodup_cons.mp hd
    rcases List.mem_cons.mp ha with h1 | h1
    · rcases List.mem_cons.mp hb with h2 | h2
      · rw [h1, h2]
      · exact absurd (List.mem_map.mpr ⟨b, h2, by rw [← e, h1]⟩) hd'.1
    · rcases List.mem_cons.mp hb with h2 | h2
      · exact absurd (List.mem_map.mpr ⟨a, h1, by rw [e, h2]⟩) hd'.1
      · exact ih hd'.2 h1 h2
def slots : List Sl := [.ce, .wd, .al, .ed, .ro, .chc, .ch, .soc, .so, .cd, .cy, .od, .md, .mi, .gr, .ga, .we, .rl, .ts]
theorem slot_in {n : Nat} (hn : n = 0) : ∀ s, live n s → s ∈ slots := by
  subst hn
  intro s hs
  cases s
  case wd => exact (.tail _ (.head _))
  case al => exact (.tail _ (.tail _ (.head _)))
  case ed => exact (.tail _ (.tail _ (.tail _ (.head _))))
  case ro => exact (.tail _ (.tail _ (.tail _ (.tail _ (.head _)))))
  case cy => exact (.tail _ (.tail _ (.tail _ (.tail _ (.tail _ (.tail _ (.tail _ (.tail _ (.tail _ (.tail _ (.head _)))))))))))
  case cd => exact (.tail _ (.tail _ (.tail _ (.tail _ (.tail _ (.tail _ (.tail _ (.tail _ (.tail _ (.head _))))))))))
  case od => exact (.tail _ (.tail _ (.tail _ (.tail _ (.tail _ (.tail _ (.tail _ (.tail _ (.tail _ (.tail _ (.tail _ (.head _))))))))))))
  case mi => exact (.tail _ (.tail _ (.tail _ (.tail _ (.tail _ (.tail _ (.tail _ (.tail _ (.tail _ (.tail _ (.tail _ (.tail _ (.tail _ (.head _))))))))))))))
  case md => exact (.tail _ (.tail _ (.tail _ (.tail _ (.tail _ (.tail _ (.tail _ (.tail _ (.tail _ (.tail _ (.tail _ (.tail _ (.head _)))))))))))))
  case ch => exact (.tail _ (.tail _ (.tail _ (.tail _ (.tail _ (.tail _ (.head _)))))))
  case so => exact (.tail _ (.tail _ (.tail _ (.tail _ (.tail _ (.tail _ (.tail _ (.tail _ (.head _)))))))))
  case chc => exact (.tail _ (.tail _ (.tail _ (.tail _ (.tail _ (.head _))))))
  case soc => exact (.tail _ (.tail _ (.tail _ (.tail _ (.tail _ (.tail _ (.tail _ (.head _))))))))
  case ce => exact (.head _)
  case rl => exact (.tail _ (.tail _ (.tail _ (.tail _ (.tail _ (.tail _ (.tail _ (.tail _ (.tail _ (.tail _ (.tail _ (.tail _ (.tail _ (.tail _ (.tail _ (.tail _ (.tail _ (.head _))))))))))))))))))
  case ts => exact (.tail _ (.tail _ (.tail _ (.tail _ (.tail _ (.tail _ (.tail _ (.tail _ (.tail _ (.tail _ (.tail _ (.tail _ (.tail _ (.tail _ (.tail _ (.tail _ (.tail _ (.tail _ (.head _)))))))))))))))))))
  case gr => exact (.tail _ (.tail _ (.tail _ (.tail _ (.tail _ (.tail _ (.tail _ (.tail _ (.tail _ (.tail _ (.tail _ (.tail _ (.tail _ (.tail _ (.head _)))))))))))))))
  case ga => exact (.tail _ (.tail _ (.tail _ (.tail _ (.tail _ (.tail _ (.tail _ (.tail _ (.tail _ (.tail _ (.tail _ (.tail _ (.tail _ (.tail _ (.tail _ (.head _))))))))))))))))
  case we => exact (.tail _ (.tail _ (.tail _ (.tail _ (.tail _ (.tail _ (.tail _ (.tail _ (.tail _ (.tail _ (.tail _ (.tail _ (.tail _ (.tail _ (.tail _ (.tail _ (.head _)))))))))))))))))
  all_goals (have h1 : 1 ≤ _ := hs.1; have h2 : _ ≤ 0 := hs.2; exact absurd (Nat.le_trans h1 h2) (by decide))
theorem rep_start {w : World} {h₀ h : Heap} {L ts rl we ga gr mi md od cy cd so soc ch chc ro ed al wd ce P : Addr} {oMd oOd oCd oSo oSoc oCh oChc oEd oWd oCe oT : Obj}
    (_N : News h₀ L h [(ts, PySem.W.listOf #[] 0), (rl, PySem.W.listOf #[] 0), (we, PySem.W.listOf #[] 0), (ga, PySem.W.listOf #[] 0), (gr, PySem.W.listOf #[] 0), (mi, instObj 136 md), (md, oMd), (od, oOd), (cy, instObj 346 cd), (cd, oCd), (so, oSo), (soc, oSoc), (ch, oCh), (chc, oChc), (ro, PySem.W.listOf #[] 0), (ed, oEd), (al, PySem.W.listOf #[] 0), (wd, oWd), (ce, oCe), (P, oT)])
    (hMd : ∃ t, oMd = mkD w.params t ch so 0 gr ga we) (hOd : oOd.IsDictOf (PySem.intKind PR w) []) (hCd : ∃ t, oCd = cyD w.params t od mi rl 0 ts 0 0 0 256 0)
    (hSo : ∃ pm ctv, oSo = kla_obj (Str.ofString "<lambda>") lamQual (lamParams (lamAt 1)) (lamBody (lamAt 1)) (lamScope (lamAt 1)) [] pm soc ctv)
    (hSoc : IsCode lamQual oSoc)
    (hCh : ∃ pm ctv, oCh = kla_obj (Str.ofString "<lambda>") lamQual (lamParams (lamAt 0)) (lamBody (lamAt 0)) (lamScope (lamAt 0)) [(Str.ofString "world", ce)] pm chc ctv)
    (hChc : IsCode lamQual oChc) (hEd : oEd.IsDictOf (PySem.intKind PR w) [])
    (hWd : oWd.IsDictOf (PySem.strKind PR w) [(Str.ofString "all", .ref al), (Str.ofString "edges", .ref ed), (Str.ofString "roots", .ref ro), (Str.ofString "heap", .ref cy)])
    (hCe : oCe.data = .cell (some (.ref wd)))
    (h1 : (od == sysModules) = false) (h2 : (ed == sysModules) = false) (h3 : (wd == sysModules) = false)
    (k0 : ce < wd) (k1 : wd < al) (k2 : al < ed) (k3 : ed < ro) (k4 : ro < chc) (k5 : chc < ch) (k6 : ch < soc) (k7 : soc < so) (k8 : so < cd) (k9 : cd < cy) (k10 : cy < od) (k11 : od < md) (k12 : md < mi) (k13 : mi < gr) (k14 : gr < ga) (k15 : ga < we) (k16 : we < rl) (k17 : rl < ts) :
    Rep w W0 (F0 wd al ed ro cy cd od mi md ch so chc soc ce) (M0 rl ts gr ga we) [(ts, PySem.W.listOf #[] 0), (rl, PySem.W.listOf #[] 0), (we, PySem.W.listOf #[] 0), (ga, PySem.W.listOf #[] 0), (gr, PySem.W.listOf #[] 0), (mi, instObj 136 md), (md, oMd), (od, oOd), (cy, instObj 346 cd), (cd, oCd), (so, oSo), (soc, oSoc), (ch, oCh), (chc, oChc), (ro, PySem.W.listOf #[] 0), (ed, oEd), (al, PySem.W.listOf #[] 0), (wd, oWd), (ce, oCe), (P, oT)] where
  has := fun s hs => by
    cases s
    case wd => exact ⟨_, (.tail _ (.tail _ (.tail _ (.tail _ (.tail _ (.tail _ (.tail _ (.tail _ (.tail _ (.tail _ (.tail _ (.tail _ (.tail _ (.tail _ (.tail _ (.tail _ (.tail _ (.head _)))))))))))))))))), hWd⟩
    case al => exact ⟨_, (.tail _ (.tail _ (.tail _ (.tail _ (.tail _ (.tail _ (.tail _ (.tail _ (.tail _ (.tail _ (.tail _ (.tail _ (.tail _ (.tail _ (.tail _ (.tail _ (.head _))))))))))))))))), ⟨0, rfl⟩⟩
    case ed => exact ⟨_, (.tail _ (.tail _ (.tail _ (.tail _ (.tail _ (.tail _ (.tail _ (.tail _ (.tail _ (.tail _ (.tail _ (.tail _ (.tail _ (.tail _ (.tail _ (.head _)))))))))))))))), hEd⟩
    case ro => exact ⟨_, (.tail _ (.tail _ (.tail _ (.tail _ (.tail _ (.tail _ (.tail _ (.tail _ (.tail _ (.tail _ (.tail _ (.tail _ (.tail _ (.tail _ (.head _))))))))))))))), ⟨fun _ => 0, 0, rfl⟩⟩
    case cy => exact ⟨_, (.tail _ (.tail _ (.tail _ (.tail _ (.tail _ (.tail _ (.tail _ (.tail _ (.head _))))))))), rfl⟩
    case cd => exact ⟨_, (.tail _ (.tail _ (.tail _ (.tail _ (.tail _ (.tail _ (.tail _ (.tail _ (.tail _ (.head _)))))))))), hCd⟩
    case od => exact ⟨_, (.tail _ (.tail _ (.tail _ (.tail _ (.tail _ (.tail _ (.tail _ (.head _)))))))), hOd⟩
    case mi => exact ⟨_, (.tail _ (.tail _ (.tail _ (.tail _ (.tail _ (.head _)))))), rfl⟩
    case md => exact ⟨_, (.tail _ (.tail _ (.tail _ (.tail _ (.tail _ (.tail _ (.head _))))))), hMd⟩
    case ch => exact ⟨_, (.tail _ (.tail _ (.tail _ (.tail _ (.tail _ (.tail _ (.tail _ (.tail _ (.tail _ (.tail _ (.tail _ (.tail _ (.head _))))))))))))), hCh⟩
    case so => exact ⟨_, (.tail _ (.tail _ (.tail _ (.tail _ (.tail _ (.tail _ (.tail _ (.tail _ (.tail _ (.tail _ (.head _))))))))))), hSo⟩
    case chc => exact ⟨_, (.tail _ (.tail _ (.tail _ (.tail _ (.tail _ (.tail _ (.tail _ (.tail _ (.tail _ (.tail _ (.tail _ (.tail _ (.tail _ (.head _)))))))))))))), hChc⟩
    case soc => exact ⟨_, (.tail _ (.tail _ (.tail _ (.tail _ (.tail _ (.tail _ (.tail _ (.tail _ (.tail _ (.tail _ (.tail _ (.head _)))))))))))), hSoc⟩
    case ce => exact ⟨_, (.tail _ (.tail _ (.tail _ (.tail _ (.tail _ (.tail _ (.tail _ (.tail _ (.tail _ (.tail _ (.tail _ (.tail _ (.tail _ (.tail _ (.tail _ (.tail _ (.tail _ (.tail _ (.head _))))))))))))))))))), hCe⟩
    case rl => exact ⟨_, (.tail _ (.head _)), ⟨0, rfl⟩⟩
    case ts => exact ⟨_, (.head _), ⟨fun _ => 0, 0, rfl⟩⟩
    case gr => exact ⟨_, (.tail _ (.tail _ (.tail _ (.tail _ (.head _))))), ⟨0, rfl⟩⟩
    case ga => exact ⟨_, (.tail _ (.tail _ (.tail _ (.head _)))), ⟨0, rfl⟩⟩
    case we => exact ⟨_, (.tail _ (.tail _ (.head _))), ⟨0, rfl⟩⟩
    all_goals (have h1 : 1 ≤ _ := hs.1; have h2 : _ ≤ 0 := hs.2; exact absurd (Nat.le_trans h1 h2) (by decide))
  inj := fun s t hs ht e => inj_of (g := fun s => s.at (F0 wd al ed ro cy cd od mi md ch so chc soc ce) (M0 rl ts gr ga we)) (l := slots)
    (asc_nodup (a := ce) (r := [wd, al, ed, ro, chc, ch, soc, so, cd, cy, od, md, mi, gr, ga, we, rl, ts]) ⟨k0, k1, k2, k3, k4, k5, k6, k7, k8, k9, k10, k11, k12, k13, k14, k15, k16, k17, trivial⟩) (slot_in rfl s hs) (slot_in rfl t ht) e
  lo := ⟨h1, h2, h3⟩
theorem off_start {ts rl we ga gr mi md od cy cd so soc ch chc ro ed al wd ce P : Addr} {l : Led} {oT : Obj} (hm : (P, oT) ∈ l) (kP : P < ce) (k0 : ce < wd) (k1 : wd < al) (k2 : al < ed) (k3 : ed < ro) (k4 : ro < chc) (k5 : chc < ch) (k6 : ch < soc) (k7 : soc < so) (k8 : so < cd) (k9 : cd < cy) (k10 : cy < od) (k11 : od < md) (k12 : md < mi) (k13 : mi < gr) (k14 : gr < ga) (k15 : ga < we) (k16 : we < rl) (k17 : rl < ts) :
    Loc W0.n (F0 wd al ed ro cy cd od mi md ch so chc soc ce) (M0 rl ts gr ga we) l P oT := ⟨hm, fun s hs _ e => by
  have h := asc_lt (a := P) (r := [ce, wd, al, ed, ro, chc, ch, soc, so, cd, cy, od, md, mi, gr, ga, we, rl, ts]) ⟨kP, k0, k1, k2, k3, k4, k5, k6, k7, k8, k9, k10, k11, k12, k13, k14, k15, k16, k17, trivial⟩ (s.at (F0 wd al ed ro cy cd od mi md ch so chc soc ce) (M0 rl ts gr ga we)) (List.mem_map_of_mem (f := fun s => s.at (F0 wd al ed ro cy cd od mi md ch so chc soc ce) (M0 rl ts gr ga we)) (slot_in (n := 0) rfl s hs))
  rw [e] at h
  exact Nat.lt_irrefl _ h⟩
theorem world_start {w : World} {h₀ h : Heap} {L ts rl we ga gr mi md od cy cd so soc ch chc ro ed al wd ce P : Addr} {oMd oOd oCd oSo oSoc oCh oChc oEd oWd oCe oT : Obj}
    (N : News h₀ L h [(ts, PySem.W.listOf #[] 0), (rl, PySem.W.listOf #[] 0), (we, PySem.W.listOf #[] 0), (ga, PySem.W.listOf #[] 0), (gr, PySem.W.listOf #[] 0), (mi, instObj 136 md), (md, oMd), (od, oOd), (cy, instObj 346 cd), (cd, oCd), (so, oSo), (soc, oSoc), (ch, oCh), (chc, oChc), (ro, PySem.W.listOf #[] 0), (ed, oEd), (al, PySem.W.listOf #[] 0), (wd, oWd), (ce, oCe), (P, oT)])
    (hMd : ∃ t, oMd = mkD w.params t ch so 0 gr ga we) (hOd : oOd.IsDictOf (PySem.intKind PR w) []) (hCd : ∃ t, oCd = cyD w.params t od mi rl 0 ts 0 0 0 256 0)
    (hSo : ∃ pm ctv, oSo = kla_obj (Str.ofString "<lambda>") lamQual (lamParams (lamAt 1)) (lamBody (lamAt 1)) (lamScope (lamAt 1)) [] pm soc ctv)
    (hSoc : IsCode lamQual oSoc)
    (hCh : ∃ pm ctv, oCh = kla_obj (Str.ofString "<lambda>") lamQual (lamParams (lamAt 0)) (lamBody (lamAt 0)) (lamScope (lamAt 0)) [(Str.ofString "world", ce)] pm chc ctv)
    (hChc : IsCode lamQual oChc) (hEd : oEd.IsDictOf (PySem.intKind PR w) [])
    (hWd : oWd.IsDictOf (PySem.strKind PR w) [(Str.ofString "all", .ref al), (Str.ofString "edges", .ref ed), (Str.ofString "roots", .ref ro), (Str.ofString "heap", .ref cy)])
    (hCe : oCe.data = .cell (some (.ref wd)))
    (h1 : (od == sysModules) = false) (h2 : (ed == sysModules) = false) (h3 : (wd == sysModules) = false)
    (k0 : ce < wd) (k1 : wd < al) (k2 : al < ed) (k3 : ed < ro) (k4 : ro < chc) (k5 : chc < ch) (k6 : ch < soc) (k7 : soc < so) (k8 : so < cd) (k9 : cd < cy) (k10 : cy < od) (k11 : od < md) (k12 : md < mi) (k13 : mi < gr) (k14 : gr < ga) (k15 : ga < we) (k16 : we < rl) (k17 : rl < ts) (kP : P < ce) :
    Rep w W0 (F0 wd al ed ro cy cd od mi md ch so chc soc ce) (M0 rl ts gr ga we) [(ts, PySem.W.listOf #[] 0), (rl, PySem.W.listOf #[] 0), (we, PySem.W.listOf #[] 0), (ga, PySem.W.listOf #[] 0), (gr, PySem.W.listOf #[] 0), (mi, instObj 136 md), (md, oMd), (od, oOd), (cy, instObj 346 cd), (cd, oCd), (so, oSo), (soc, oSoc), (ch, oCh), (chc, oChc), (ro, PySem.W.listOf #[] 0), (ed, oEd), (al, PySem.W.listOf #[] 0), (wd, oWd), (ce, oCe), (P, oT)] ∧ Loc W0.n (F0 wd al ed ro cy cd od mi md ch so chc soc ce) (M0 rl ts gr ga we) [(ts, PySem.W.listOf #[] 0), (rl, PySem.W.listOf #[] 0), (we, PySem.W.listOf #[] 0), (ga, PySem.W.listOf #[] 0), (gr, PySem.W.listOf #[] 0), (mi, instObj 136 md), (md, oMd), (od, oOd), (cy, instObj 346 cd), (cd, oCd), (so, oSo), (soc, oSoc), (ch, oCh), (chc, oChc), (ro, PySem.W.listOf #[] 0), (ed, oEd), (al, PySem.W.listOf #[] 0), (wd, oWd), (ce, oCe), (P, oT)] P oT :=
  ⟨rep_start N hMd hOd hCd hSo hSoc hCh hChc hEd hWd hCe h1 h2 h3 k0 k1 k2 k3 k4 k5 k6 k7 k8 k9 k10 k11 k12 k13 k14 k15 k16 k17, off_start (.tail _ (.tail _ (.tail _ (.tail _ (.tail _ (.tail _ (.tail _ (.tail _ (.tail _ (.tail _ (.tail _ (.tail _ (.tail _ (.tail _ (.tail _ (.tail _ (.tail _ (.tail _ (.tail _ (.head _)))))))))))))))))))) kP k0 k1 k2 k3 k4 k5 k6 k7 k8 k9 k10 k11 k12 k13 k14 k15 k16 k17⟩
end
end Mine
namespace Mine
section
local macro_rules | `(tactic| walk_at "ik2") => `(tactic| (intro h' l' F' N' R' K'; (have K2 := KeepNew.but (KeepNew.after (by assumption) (KeepNew.keep (by assumption))) K')))
local macro_rules | `(tactic| walk_at "i9") => `(tactic| (intro a' h' l' F' N' R' U' K' ne'))
local macro_rules | `(tactic| walk_at "i8") => `(tactic| (intro a' h' l' F' N' R' U' K'))
local macro_rules | `(tactic| walk_at "i8'") => `(tactic| (intro q' h' l' F' N' R' U' K'))
local macro_rules | `(tactic| walk_at "ik") => `(tactic| (intro h' l' F' N' R' K'; (have K2 := KeepNew.but (by assumption) K')))
local macro_rules | `(tactic| walk_at "i6") => `(tactic| (intro h' l' F' N' R' K'))
local macro_rules | `(tactic| walk_at "i5") => `(tactic| (intro h' l' F' N' H'))
local macro_rules | `(tactic| walk_at "mine ne") => `(tactic| first
  | assumption
  | exact Ne.symm (by assumption)
  | exact Nat.ne_of_lt (by assumption)
  | exact Nat.ne_of_gt (by assumption))
local macro_rules | `(tactic| walk_at "mine le") => `(tactic| first | assumption | omega | exact Nat.le_trans (by assumption) (by decide))
local macro_rules | `(tactic| walk_at "mine loc") => `(tactic| first
  | assumption
  | exact Keep.loc (by assumption) (by walk_at "mine loc")
  | exact KeepNew.loc (by assumption) (by walk_at "mine loc"))
local macro_rules | `(tactic| walk_at "mine keep") => `(tactic| first
  | assumption
  | exact Keep.refl
  | exact KeepNew.keep (by assumption)
  | (refine' Keep.trans ?a ?b; (case b => first | assumption | exact KeepNew.keep (by assumption)); (case a => walk_at "mine keep")))
local macro_rules | `(tactic| k_mem) => `(tactic| ((fail_if_success (fail_if_success (rename Rep _ _ _ _ _ => hRg))); first
  | assumption
  | exact Rep.hmi (by assumption)
  | exact Rep.hmd (by assumption)
  | exact Rep.hcy (by assumption)
  | exact Rep.hcd (by assumption)
  | exact Rep.hx (by assumption) (by walk_at "mine le") (by walk_at "mine le")
  | exact Rep.hd (by assumption) (by walk_at "mine le") (by walk_at "mine le")
  | exact Rep.hso (by assumption)
  | exact Rep.hch (by assumption)
  | exact Rep.hgr (by assumption)
  | exact Rep.hga (by assumption)
  | exact Rep.hwe (by assumption)
  | exact Rep.hrl (by assumption)
  | exact Rep.hts (by assumption)
  | exact Rep.hal (by assumption)
  | exact Rep.hro (by assumption)
  | exact Rep.he (by assumption) (by walk_at "mine le") (by walk_at "mine le")
  | exact Loc.mem (by walk_at "mine loc")
  | with_reducible exact mem_put_self
  | (with_reducible refine mem_put_ne ?h1 ?h2; (case h2 => k_mem); (case h1 => walk_at "mine ne"))
  | exact List.Mem.head _
  | (refine' List.Mem.tail _ ?_; k_mem)))
set_option hygiene false
local macro_rules | `(tactic| walk_at "m4") => `(tactic| ((case F => k_asm); (case X => k_asm); (case N => k_asm); (case R => assumption)))
local macro_rules | `(tactic| walk_at "m3") => `(tactic| ((case F => k_asm); (case N => k_asm); (case R => assumption)))
local macro_rules | `(tactic| walk_at "m2") => `(tactic| ((case N => k_asm); (case R => assumption)))
local macro_rules | `(tactic| walk_at "m5") => `(tactic| ((case F => k_asm); (case X => k_asm); (case N => k_asm)))
local macro_rules | `(tactic| walk_at "mh") => `(tactic| ((case h1 => walk_at "mine le"); (case h2 => walk_at "mine le")))
local macro_rules | `(tactic| walk_at "mz") => `(tactic| ((case z => walk_at "mine le")))
local macro_rules | `(tactic| walk_at "mm") => `(tactic| ((case m => exact Loc.mem (by walk_at "mine loc"))))
local macro_rules | `(tactic| walk_at "ma") => `(tactic| ((case ha => walk_at "mine loc")))
local macro_rules | `(tactic| walk_at "mab") => `(tactic| ((case N => k_asm); (case ha => exact Loc.mem (by walk_at "mine loc")); (case hb => exact Loc.mem (by walk_at "mine loc")); (case hu => ktr_units)))
local macro_rules | `(tactic| walk_at "mr") => `(tactic| ((case har => assumption)))
local macro_rules | `(tactic| walk_at "ms") => `(tactic| ((case hs => with_unfolding_all rfl)))
local macro_rules | `(tactic| walk_at "mg") => `(tactic| ((case hg => (intro _; with_unfolding_all rfl))))
local macro_rules | `(tactic| walk_at "m1") => `(tactic| ((case N => k_asm)))
local macro_rules | `(tactic| walk_at "setAttr ref") => `(tactic| (k_here; first
  | ((with_reducible show wpAny _ _ (setAttr _ (Str.ofString "grey_again") _) _ _ _); k_dflt (refine' w_swap2_ga ?F ?X ?N ?H ?_; walk_at "m5"; (case H => assumption); k_whole); walk_at "ik2")
  | ((with_reducible show wpAny _ _ (setAttr _ (Str.ofString "grey") (Value.ref (Mut.ga _))) _ _ _); k_dflt (refine' w_swap1_ga ?F ?X ?N ?R ?ha ?har ?hg ?_; walk_at "m4"; walk_at "ma"; walk_at "mr"; (case hg => assumption); k_whole); walk_at "i5")
  | ((with_reducible show wpAny _ _ (setAttr _ (Str.ofString "weak") _) _ _ _); k_dflt (refine' w_swap2_we ?F ?X ?N ?H ?_; walk_at "m5"; (case H => assumption); k_whole); walk_at "ik2")
  | ((with_reducible show wpAny _ _ (setAttr _ (Str.ofString "grey") (Value.ref (Mut.we _))) _ _ _); k_dflt (refine' w_swap1_we ?F ?X ?N ?R ?ha ?har ?hg ?_; walk_at "m4"; walk_at "ma"; walk_at "mr"; (case hg => assumption); k_whole); walk_at "i5")
  | ((with_reducible show wpAny _ _ (setAttr _ (Str.ofString "to_sweep") _) _ _ _); k_dflt (refine' w_new_to_sweep ?F ?X ?N ?R ?ha ?har ?_; walk_at "m4"; walk_at "ma"; walk_at "mr"; k_whole); walk_at "ik")
  | ((with_reducible show wpAny _ _ (setAttr _ (Str.ofString "root_list") _) _ _ _); k_dflt (refine' w_new_root_list ?F ?X ?N ?R ?ha ?_; walk_at "m4"; walk_at "ma"; k_whole); walk_at "ik")
  | ((with_reducible show wpAny _ _ (setAttr _ (Str.ofString "weak") _) _ _ _); k_dflt (refine' w_new_weak ?F ?X ?N ?R ?ha ?har ?_; walk_at "m4"; walk_at "ma"; walk_at "mr"; k_whole); walk_at "ik")
  | ((with_reducible show wpAny _ _ (setAttr _ (Str.ofString "grey_again") _) _ _ _); k_dflt (refine' w_new_grey_again ?F ?X ?N ?R ?ha ?har ?_; walk_at "m4"; walk_at "ma"; walk_at "mr"; k_whole); walk_at "ik")
  | ((with_reducible show wpAny _ _ (setAttr _ (Str.ofString "grey") _) _ _ _); k_dflt (refine' w_new_grey (ns := []) ?F ?X ?N ?R ?ha ?har ?_; walk_at "m4"; walk_at "ma"; walk_at "mr"; k_whole); walk_at "ik")
  | ((with_reducible show wpAny _ _ (setAttr _ (Str.ofString "mark") _) _ _ _); k_dflt (refine' w_set_mark ?F ?X ?N ?R ?h1 ?h2 ?_; walk_at "m4"; walk_at "mh"; k_whole); walk_at "i6")
  | ((with_reducible show wpAny _ _ (setAttr _ (Str.ofString "cycles") _) _ _ _); k_dflt (refine' w_set_cycles ?F ?X ?N ?R ?_; walk_at "m4"; k_whole); walk_at "i6")
  | ((with_reducible show wpAny _ _ (setAttr _ (Str.ofString "threshold") _) _ _ _); k_dflt (refine' w_set_threshold ?F ?X ?N ?R ?_; walk_at "m4"; k_whole); walk_at "i6")
  | ((with_reducible show wpAny _ _ (setAttr _ (Str.ofString "debt") _) _ _ _); k_dflt (refine' w_set_debt ?F ?X ?N ?R ?_; walk_at "m4"; k_whole); walk_at "i6")
  | ((with_reducible show wpAny _ _ (setAttr _ (Str.ofString "estimate") _) _ _ _); k_dflt (refine' w_set_estimate ?F ?X ?N ?R ?_; walk_at "m4"; k_whole); walk_at "i6")
  | ((with_reducible show wpAny _ _ (setAttr _ (Str.ofString "total") _) _ _ _); k_dflt (refine' w_set_total ?F ?X ?N ?R ?_; walk_at "m4"; k_whole); walk_at "i6")
  | ((with_reducible show wpAny _ _ (setAttr _ (Str.ofString "phase") _) _ _ _); k_dflt (refine' w_set_phase ?F ?X ?N ?R ?_; walk_at "m4"; k_whole); walk_at "i6")
  | ((with_reducible show wpAny _ _ (setAttr _ (Str.ofString "white") _) _ _ _); k_dflt (refine' w_set_white ?F ?X ?N ?R ?_; walk_at "m4"; k_whole); walk_at "i6")))
local macro_rules | `(tactic| walk_at "newList") => `(tactic| (k_here; (with_reducible show wpAny _ _ (newList []) _ _ _); k_dflt (refine' w_newList ?F ?N ?R ?_; walk_at "m3"; k_whole); walk_at "i9"))
local macro_rules | `(tactic| walk_at "call builtin:list.append") => `(tactic| (k_here; first
  | ((with_reducible show wpAny _ _ (call _ [Value.ref (Fix.ro _), _]) _ _ _); k_dflt (refine' w_append_ro ?F ?N ?R ?z ?_; walk_at "m3"; walk_at "mz"; k_whole); walk_at "i6")
  | ((with_reducible show wpAny _ _ (call _ [Value.ref (Fix.e _ _), _]) _ _ _); k_dflt (refine' w_append_e ?F ?N ?R ?h1 ?h2 ?z ?_; walk_at "m3"; walk_at "mh"; walk_at "mz"; k_whole); walk_at "i6")
  | (k_dflt (refine' w_append_gr ?F ?N ?R ?z ?_; walk_at "m3"; walk_at "mz"; k_whole); walk_at "i6")))
local macro_rules | `(tactic| walk_at "callWith ref") => `(tactic| (k_here; first
  | ((with_reducible show wpAny _ _ (callWith _ (Value.ref (Fix.so _)) _ _ _) _ _ _); k_dflt (first
  | (refine' callWith_F ?k1 ?_; (case k1 => exact FnAt.of (by k_asm) (by k_mem)); k_whole)
  | (refine' callWith_F0 ?k1 ?_; (case k1 => exact FnAt.of (by k_asm) (by k_mem)); k_whole; try dsimp only [List.nil_append, List.cons_append])))
  | ((with_reducible show wpAny _ _ (callWith _ (Value.ref (Fix.ch _)) _ _ _) _ _ _); k_dflt (first
  | (refine' callWith_F ?k1 ?_; (case k1 => exact FnAt.of (by k_asm) (by k_mem)); k_whole)
  | (refine' callWith_F0 ?k1 ?_; (case k1 => exact FnAt.of (by k_asm) (by k_mem)); k_whole; try dsimp only [List.nil_append, List.cons_append])))))
local macro_rules | `(tactic| walk_at "getMethod ref") => `(tactic| (k_here; first
  | ((with_reducible show wpAny _ _ (getMethod (Value.ref (Fix.ro _)) (PySem.Str.ofString "pop") _) _ _ _); k_dflt (refine' kl_method ?N ?m PySem.F.slot_list_pop PySem.F.type_list_pop ?_; walk_at "m1"; (case m => exact Rep.hro (by assumption))))
  | ((with_reducible show wpAny _ _ (getMethod (Value.ref (Fix.ro _)) (PySem.Str.ofString "append") _) _ _ _); k_dflt (refine' kl_method ?N ?m PySem.F.slot_list_append PySem.F.type_list_append ?_; walk_at "m1"; (case m => exact Rep.hro (by assumption))))
  | ((with_reducible show wpAny _ _ (getMethod (Value.ref (Fix.e _ _)) (PySem.Str.ofString "pop") _) _ _ _); k_dflt (refine' kl_method ?N ?m PySem.F.slot_list_pop PySem.F.type_list_pop ?_; walk_at "m1"; (case m => exact Rep.he (by assumption) (by walk_at "mine le") (by walk_at "mine le"))))
  | ((with_reducible show wpAny _ _ (getMethod (Value.ref (Fix.e _ _)) (PySem.Str.ofString "append") _) _ _ _); k_dflt (refine' kl_method ?N ?m PySem.F.slot_list_append PySem.F.type_list_append ?_; walk_at "m1"; (case m => exact Rep.he (by assumption) (by walk_at "mine le") (by walk_at "mine le"))))
  | ((with_reducible show wpAny _ _ (getMethod (Value.ref (Fix.al _)) (PySem.Str.ofString "append") _) _ _ _); k_dflt (refine' kl_method ?N ?m PySem.F.slot_list_append PySem.F.type_list_append ?_; walk_at "m1"; (case m => exact Rep.hal (by assumption))))
  | ((with_reducible show wpAny _ _ (getMethod (Value.ref (Mut.ts _)) (PySem.Str.ofString "pop") _) _ _ _); k_dflt (refine' kl_method ?N ?m PySem.F.slot_list_pop PySem.F.type_list_pop ?_; walk_at "m1"; (case m => exact Rep.hts (by assumption))))
  | ((with_reducible show wpAny _ _ (getMethod (Value.ref (Fix.od _)) (PySem.Str.ofString "values") _) _ _ _); k_dflt (refine' w_od_method PySem.F.slot_dict_values PySem.F.type_dict_values ?N ?R ?_; walk_at "m2"; k_whole))
  | ((with_reducible show wpAny _ _ (getMethod (Value.ref (Fix.od _)) (PySem.Str.ofString "pop") _) _ _ _); k_dflt (refine' w_od_method PySem.F.slot_dict_pop PySem.F.type_dict_pop ?N ?R ?_; walk_at "m2"; k_whole))
  | ((with_reducible show wpAny _ _ (getMethod (Value.ref (Fix.od _)) (PySem.Str.ofString "get") _) _ _ _); k_dflt (refine' w_od_method PySem.F.slot_dict_get PySem.F.type_dict_get ?N ?R ?_; walk_at "m2"; k_whole))
  | ((with_reducible show wpAny _ _ (getMethod (Value.ref (Mut.gr _)) (PySem.Str.ofString "pop") _) _ _ _); k_dflt (refine' kl_method ?N ?m PySem.F.slot_list_pop PySem.F.type_list_pop ?_; walk_at "m1"; (case m => exact Rep.hgr (by assumption))))
  | ((with_reducible show wpAny _ _ (getMethod (Value.ref (Mut.gr _)) (PySem.Str.ofString "append") _) _ _ _); k_dflt (refine' kl_method ?N ?m PySem.F.slot_list_append PySem.F.type_list_append ?_; walk_at "m1"; (case m => exact Rep.hgr (by assumption))))
  | ((with_reducible show wpAny _ _ (getMethod (Value.ref (Fix.cy _)) _ _) _ _ _); k_dflt (first
  | (refine' method_inst ?k1 ?k2 ?k3 ?k4 ?k5 ?k6 ?k7 ?_; (case k1 => k_asm); (case k2 => k_asm); (case k3 => k_inst); (case k4 => k_is); (case k5 => k_is); (case k6 => k_is); (case k7 => k_get); k_whole)
  | (refine' kmu_own ?k1 ?k2 ?k3 ?k4 ?k5 ?_; (case k1 => k_asm); (case k2 => k_asm); (case k3 => k_inst); (case k4 => k_is); (case k5 => k_is); k_whole)))
  | ((with_reducible show wpAny _ _ (getMethod (Value.ref (Fix.mi _)) _ _) _ _ _); k_dflt (first
  | (refine' method_inst ?k1 ?k2 ?k3 ?k4 ?k5 ?k6 ?k7 ?_; (case k1 => k_asm); (case k2 => k_asm); (case k3 => k_inst); (case k4 => k_is); (case k5 => k_is); (case k6 => k_is); (case k7 => k_get); k_whole)
  | (refine' kmu_own ?k1 ?k2 ?k3 ?k4 ?k5 ?_; (case k1 => k_asm); (case k2 => k_asm); (case k3 => k_inst); (case k4 => k_is); (case k5 => k_is); k_whole)))))
local macro_rules | `(tactic| walk_at "subscriptTail") => `(tactic| (k_here; first
  | ((with_reducible show wpAny _ _ (subscriptTail _ _ (Value.ref (Fix.al _)) (Value.int (((_ : Nat) : Int) - 1) _)) _ _ _); k_dflt (refine' w_al ?N ?R ?h1 ?h2 ?hn ?hk ?hs ?_; walk_at "m2"; (case hk => exact rfl); walk_at "mh"; (case hn => walk_at "mine le"); walk_at "ms"; k_whole))
  | ((with_reducible show wpAny _ _ (subscriptTail _ _ (Value.ref (Fix.ed _)) _) _ _ _); k_dflt (refine' w_ed ?N ?R ?h1 ?h2 ?hs ?hg ?_; walk_at "m2"; walk_at "mh"; walk_at "ms"; walk_at "mg"; k_whole))
  | ((with_reducible show wpAny _ _ (subscriptTail _ _ (Value.ref (Fix.wd _)) _) _ _ _); k_dflt (refine' w_wd ?N ?R ?hl ?hs ?hg ?_; walk_at "m2"; (case hl => with_unfolding_all rfl); walk_at "ms"; walk_at "mg"; k_whole))))
local macro_rules | `(tactic| walk_at "eval Name") => `(tactic| (k_here; (with_reducible show wpAny _ _ (eval (Expr.Name (Str.ofString "world") _) (envX _ _ _ _ _ _)) _ _ _); k_dflt (refine' nameX_F ?N ?c ?m ?d ?_ ?a ?b; (case a => rfl); (case b => rfl); walk_at "m1"; (case c => rfl); (case m => k_mem); (case d => k_asm); k_whole)))
local macro_rules | `(tactic| walk_at "call builtin:list.pop") => `(tactic| (k_here; first
  | ((with_reducible show wpAny _ _ (call _ [Value.ref (Mut.ts _)]) _ _ _); k_dflt (refine' w_pop_ts ?F ?N ?R ?z ?hg ?_; walk_at "m3"; (case hg => assumption); walk_at "mz"; k_whole); intro h' l' t' F' N' R' K')
  | (k_dflt (refine' w_pop_gr ?F ?N ?R ?z ?hg ?_; walk_at "m3"; (case hg => assumption); walk_at "mz"; k_whole); walk_at "i6")))
local macro_rules | `(tactic| walk_at "call builtin:len") => `(tactic| (k_here; first
  | ((with_reducible show wpAny _ _ (call _ [Value.ref (Fix.e _ _)]) _ _ _); k_dflt (refine' w_len_il ?N ?m ?z ?_; walk_at "m1"; (case m => exact Rep.he (by assumption) (by walk_at "mine le") (by walk_at "mine le")); walk_at "mz"; k_whole))
  | ((with_reducible show wpAny _ _ (call _ [Value.ref (Fix.ro _)]) _ _ _); k_dflt (refine' w_len_il ?N ?m ?z ?_; walk_at "m1"; (case m => exact Rep.hro (by assumption)); walk_at "mz"; k_whole))
  | (k_dflt (refine' w_len_il ?N ?m ?z ?_; walk_at "m1"; walk_at "mm"; walk_at "mz"; k_whole))
  | ((with_reducible show wpAny _ _ (call _ [Value.ref (Fix.al _)]) _ _ _); k_dflt (refine' w_len_al ?N ?R ?hx ?z ?_; walk_at "m2"; (case hx => assumption); walk_at "mz"; k_whole))
  | ((with_reducible show wpAny _ _ (call _ [Value.ref (Mut.ts _)]) _ _ _); k_dflt (refine' w_len_ts ?N ?R ?z ?_; walk_at "m2"; walk_at "mz"; k_whole))
  | ((with_reducible show wpAny _ _ (call _ [Value.ref (Mut.gr _)]) _ _ _); k_dflt (refine' w_len_gr ?N ?R ?z ?_; walk_at "m2"; walk_at "mz"; k_whole))
  | (k_dflt (refine' w_len ?N ?m ?z ?_; walk_at "m1"; walk_at "mm"; walk_at "mz"; k_whole))))
local macro_rules | `(tactic| walk_at "newTuple") => `(tactic| (k_here; k_dflt (refine' w_newTuple ?F ?N ?R ?z ?_; walk_at "m3"; (case z => exact Nat.le_of_ble_eq_true rfl); k_whole); walk_at "i8"))
local macro_rules | `(tactic| walk_at "compareOp In") => `(tactic| (k_here; (with_reducible show wpAny _ _ (compareOp CmpOp.In _ (Value.ref (Fix.od _))) _ _ _); k_dflt (refine' w_od_in ?N ?R ?_; walk_at "m2"; k_whole); intro b' hb'))
local macro_rules | `(tactic| walk_at "call builtin:dict.get") => `(tactic| (k_here; (with_reducible show wpAny _ _ (call _ [Value.ref (Fix.od _), _]) _ _ _); k_dflt (refine' w_od_get ?N ?R ?_ ?_; walk_at "m2"); intro hk'))
local macro_rules | `(tactic| walk_at "call builtin:dict.pop") => `(tactic| (k_here; (with_reducible show wpAny _ _ (call _ [Value.ref (Fix.od _), _, _]) _ _ _); k_dflt (refine' w_od_pop ?F ?N ?R ?hi ?z ?_; walk_at "m3"; (case hi => assumption); walk_at "mz"; k_whole); walk_at "i6"))
local macro_rules | `(tactic| walk_at "call builtin:dict.values") => `(tactic| (k_here; (with_reducible show wpAny _ _ (call _ [Value.ref (Fix.od _)]) _ _ _); k_dflt (refine' w_values_od ?F ?N ?R ?_; walk_at "m3"; k_whole); walk_at "i8"))
local macro_rules | `(tactic| walk_at "call type:list") => `(tactic| (k_here; first
  | ((with_reducible show wpAny _ _ (call _ [Value.ref (Fix.ro _)]) _ _ _); k_dflt (refine' w_list_ro ?F ?N ?R ?z ?_; walk_at "m3"; walk_at "mz"; k_whole); intro a' h' l' t' ep' F' N' R' U' K' ne')
  | ((with_reducible show wpAny _ _ (call _ [Value.ref (Fix.od _)]) _ _ _); k_dflt (refine' w_list_od ?hh ?F ?N ?R ?z ?_; (case hh => rfl); walk_at "m3"; walk_at "mz"; k_whole); intro a' h' l' tk' t' ep' F' N' R' U' K' ne')
  | (k_dflt (refine' w_list_values ?hh ?F ?N ?R ?z ?hv ?_; (case hh => rfl); walk_at "m3"; walk_at "mz"; (case hv => walk_at "mine loc"); k_whole); intro a' h' l' tk' ep' F' N' R' U' K')))
local macro_rules | `(tactic| walk_at "getAttr ref") => `(tactic| (k_here; first
  | ((with_reducible show wpAny _ _ (getAttr _ (Str.ofString "make_white") _) _ _ _); k_dflt (refine' w_bound_make_white ?F ?X ?N ?R ?_; walk_at "m4"; k_whole); walk_at "i8'")
  | ((with_reducible show wpAny _ _ (getAttr _ (Str.ofString "free") _) _ _ _); k_dflt (refine' w_bound_free ?F ?X ?N ?R ?_; walk_at "m4"; k_whole); walk_at "i8'")
  | ((with_reducible show wpAny _ _ (getAttr _ (Str.ofString "is_dead") _) _ _ _); k_dflt (refine' w_bound_is_dead ?F ?X ?N ?R ?_; walk_at "m4"; k_whole); walk_at "i8'")))
local macro_rules | `(tactic| walk_at "compareOp NotEq ref ref") => `(tactic| (k_here; first
  | ((with_reducible show wpAny _ _ (compareOp CmpOp.NotEq (Value.ref (Fix.e _ _)) (Value.ref _)) _ _ _); k_dflt (refine' w_ne_nil ?N ?ha ?hb ?hu ?_ ?_; walk_at "m1"; (case ha => exact Rep.he (by assumption) (by walk_at "mine le") (by walk_at "mine le")); (case hb => exact Loc.mem (by walk_at "mine loc")); (case hu => ktr_units)); intro hne')
  | ((with_reducible show wpAny _ _ (compareOp CmpOp.NotEq (Value.ref _) (Value.ref _)) _ _ _); k_dflt (refine' w_ne_nil ?N ?ha ?hb ?hu ?_ ?_; walk_at "mab"); intro hne')))
local macro_rules | `(tactic| walk_at "compareOp Eq ref ref") => `(tactic| (k_here; (with_reducible show wpAny _ _ (compareOp CmpOp.Eq (Value.ref _) (Value.ref _)) _ _ _); k_dflt (refine' w_eq_nil ?N ?ha ?hb ?hu ?_ ?_; walk_at "mab"); intro hne'))
set_option hygiene true
section
section
variable {w : World} {p : Program} {loose : List Str} {mean : ExcName → Option Value} {mg mb : Str → Option Value} {W : St} {f : Fix} {m : Mut} {l : Led} {i : Nat}
theorem is_white_c (R : Rep w W f m l) (h1 : 1 ≤ i) (h2 : i ≤ W.n) :
   Ctr w p loose mean mg mb 28 [.ref (f.x i)] l 2 (fun r l' => (∃ b, r = .bool b ∧ (b = true ↔ W.mark i < 2)) ∧ l' = l) := by
  unfold Ctr; k_fill; intro dp un gd cn cs a ccd cl outer A₀ base h₀ L mF s Q E B F X N T hk hdp hun hret; k_dflt ktr_enter
  (repeat' ((fail_if_success (with_reducible show wpAny _ _ (exec (Stmt.While _ _ _ _) _) _ _ _)); (fail_if_success (with_reducible show wpAny _ _ (exec (Stmt.For _ _ _ _ _) _) _ _ _)); (fail_if_success (with_reducible show wpAny _ _ (pyIter (Value.ref _)) _ _ _)); (fail_if_success (with_reducible show wpAny _ _ (call (Value.ref _) _) _ _ _)); (fail_if_success (with_reducible show wpAny _ _ (eval (Expr.ListComp _ _ _ _) _) _ _ _)); (first | (k_unfold; (try dsimp only)) | (k_end; wrow_close) | walk1 | (dsimp only; walk1) | (leave1; walk_say "STEP leave1"; try dsimp only) | fail "no step")))
  refine hret _ _ _ _ (by k_asm) (by k_asm) ⟨⟨_, rfl, by simp⟩, rfl⟩
theorem make_white_c (R : Rep w W f m l) (h1 : 1 ≤ i) (h2 : i ≤ W.n) :
   Ctr w p loose mean mg mb 56 [.ref f.mi, .ref (f.x i)] l 2 (fun r l' => r = .none ∧ Rep w (W.setMark i W.white) f m l' ∧ Keep W.n f m l (W.setMark i W.white).n f m l') := by
  unfold Ctr; k_fill; intro dp un gd cn cs a ccd cl outer A₀ base h₀ L mF s Q E B F X N T hk hdp hun hret; k_dflt ktr_enter
  (repeat' ((fail_if_success (with_reducible show wpAny _ _ (exec (Stmt.While _ _ _ _) _) _ _ _)); (fail_if_success (with_reducible show wpAny _ _ (exec (Stmt.For _ _ _ _ _) _) _ _ _)); (fail_if_success (with_reducible show wpAny _ _ (pyIter (Value.ref _)) _ _ _)); (fail_if_success (with_reducible show wpAny _ _ (call (Value.ref _) _) _ _ _)); (fail_if_success (with_reducible show wpAny _ _ (eval (Expr.ListComp _ _ _ _) _) _ _ _)); (first | (k_unfold; (try dsimp only)) | (k_end; wrow_close) | walk1 | (dsimp only; walk1) | (leave1; walk_say "STEP leave1"; try dsimp only) | fail "no step")))
  refine hret _ _ _ _ (by k_asm) (by k_asm) ⟨rfl, by assumption, by assumption⟩
theorem sort_c (R : Rep w W f m l) {x : Addr} :
   Ctr w p loose mean mg mb f.so [.ref x] l 2 (fun r l' => (∃ t, r = .int 0 t) ∧ l' = l) := by
  obtain ⟨oc, hsoc, vs, tq, hcd1, hcd2⟩ := R.has .soc trivial
  dsimp only [Sl.at] at hsoc
  have hlam := R.hso
  rw [show lamScope (lamAt 1) = Scope.mk _ _ _ _ _ from rfl, show lamBody (lamAt 1) = Expr.Name _ _ from rfl, show lamParams (lamAt 1) = Arguments.mk _ _ _ _ _ _ _ from rfl] at hlam
  unfold Ctr; k_fill; intro dp un gd cn cs a ccd cl outer A₀ base h₀ L m s Q E B F X N T hk hd hu hret
  k_dflt ((refine' kla_code ?k1 ?k2 ?k3 ?k4 ?k5 ?kA ?kF ?kK ?k6 ?k7 ?k8 ?k9 ?kB ?_ ?c2 ?c3 ?c4 ?c5; (case kA => exact rfl); (case kF => exact rfl); (case kK => assumption); (case k1 => k_asm); (case k2 => k_asm); (case k3 => k_asm); (case k4 => k_asm); (case k5 => k_asm); (case k6 => exact hlam); (case k7 => exact codeRec_news (by k_asm) hsoc (by assumption) (by assumption)); (case k8 => ktr_room); (case k9 => exact rfl); (case c5 => decide); (case kB => exact locs rfl); (case c2 => exact rfl); (case c3 => exact rfl); (case c4 => exact rfl); k_whole; intro g' L' h' FG' F' N' B' X' T'; (try dsimp only); (try k_fold)))
  (repeat' ((fail_if_success (with_reducible show wpAny _ _ (exec (Stmt.While _ _ _ _) _) _ _ _)); (fail_if_success (with_reducible show wpAny _ _ (exec (Stmt.For _ _ _ _ _) _) _ _ _)); (fail_if_success (with_reducible show wpAny _ _ (pyIter (Value.ref _)) _ _ _)); (fail_if_success (with_reducible show wpAny _ _ (call (Value.ref _) _) _ _ _)); (fail_if_success (with_reducible show wpAny _ _ (eval (Expr.ListComp _ _ _ _) _) _ _ _)); (first | (k_unfold; (try dsimp only)) | (k_end; wrow_close) | walk1 | (dsimp only; walk1) | (leave1; walk_say "STEP leave1"; try dsimp only) | fail "no step")))
  refine hret _ _ _ _ (by k_asm) (by k_asm) ⟨⟨_, rfl⟩, rfl⟩
theorem mark_c (R : Rep w W f m l) (h1 : 1 ≤ i) (h2 : i ≤ W.n) (hz : W.grey.length ≤ 1000) :
   Ctr w p loose mean mg mb 84 [.ref f.mi, .ref (f.x i)] l 6 (fun r l' => r = .none ∧ Rep w (markW W i) f m l' ∧ Keep W.n f m l (markW W i).n f m l') := by
  unfold Ctr; k_fill; intro dp un gd cn cs a ccd cl outer A₀ base h₀ L mF s Q E B F X N T hk hdp hun hret; k_dflt ktr_enter
  (repeat' ((fail_if_success (with_reducible show wpAny _ _ (exec (Stmt.While _ _ _ _) _) _ _ _)); (fail_if_success (with_reducible show wpAny _ _ (exec (Stmt.For _ _ _ _ _) _) _ _ _)); (fail_if_success (with_reducible show wpAny _ _ (pyIter (Value.ref _)) _ _ _)); (fail_if_success (with_reducible show wpAny _ _ (call (Value.ref _) _) _ _ _)); (fail_if_success (with_reducible show wpAny _ _ (eval (Expr.ListComp _ _ _ _) _) _ _ _)); (first | (k_unfold; (try dsimp only)) | (k_end; wrow_close) | walk1 | (dsimp only; walk1) | (leave1; walk_say "STEP leave1"; try dsimp only) | fail "no step")))
  (refine' Ctr.use ?k1 ?k2 ?k3 ?k4 ?k5 ?k6 (is_white_c R h1 h2) ?k7 ?k8 ?_; (case k1 => k_asm); (case k2 => k_asm); (case k3 => k_asm); (case k4 => k_asm); (case k5 => k_asm); (case k6 => first | exact rfl | assumption); (case k7 => ktr_room); (case k8 => ktr_units))
  rintro r9 l9 h9 tk9 F9 N9 ⟨⟨b, rfl, hb⟩, rfl⟩
  (try dsimp only); (try k_fold)
  cases b
  · (repeat' ((fail_if_success (with_reducible show wpAny _ _ (exec (Stmt.While _ _ _ _) _) _ _ _)); (fail_if_success (with_reducible show wpAny _ _ (exec (Stmt.For _ _ _ _ _) _) _ _ _)); (fail_if_success (with_reducible show wpAny _ _ (pyIter (Value.ref _)) _ _ _)); (fail_if_success (with_reducible show wpAny _ _ (call (Value.ref _) _) _ _ _)); (fail_if_success (with_reducible show wpAny _ _ (eval (Expr.ListComp _ _ _ _) _) _ _ _)); (first | (k_unfold; (try dsimp only)) | (k_end; wrow_close) | walk1 | (dsimp only; walk1) | (leave1; walk_say "STEP leave1"; try dsimp only) | fail "no step")))
    refine hret _ _ _ _ (by k_asm) (by k_asm) ⟨rfl, by rw [markW, if_neg (by simpa using hb)]; exact R, by rw [markW_n]; exact Keep.refl⟩
  · (repeat' ((fail_if_success (with_reducible show wpAny _ _ (exec (Stmt.While _ _ _ _) _) _ _ _)); (fail_if_success (with_reducible show wpAny _ _ (exec (Stmt.For _ _ _ _ _) _) _ _ _)); (fail_if_success (with_reducible show wpAny _ _ (pyIter (Value.ref _)) _ _ _)); (fail_if_success (with_reducible show wpAny _ _ (call (Value.ref _) _) _ _ _)); (fail_if_success (with_reducible show wpAny _ _ (eval (Expr.ListComp _ _ _ _) _) _ _ _)); (first | (k_unfold; (try dsimp only)) | (k_end; wrow_close) | walk1 | (dsimp only; walk1) | (leave1; walk_say "STEP leave1"; try dsimp only) | fail "no step")))
    (refine' Ctr.use ?k1 ?k2 ?k3 ?k4 ?k5 ?k6 (sort_c (by assumption)) ?k7 ?k8 ?_; (case k1 => k_asm); (case k2 => k_asm); (case k3 => k_asm); (case k4 => k_asm); (case k5 => k_asm); (case k6 => first | exact rfl | assumption); (case k7 => ktr_room); (case k8 => ktr_units))
    rintro r9 l9 h9 tk9 F9 N9 ⟨⟨t9, rfl⟩, rfl⟩
    (try dsimp only); (try k_fold)
    (repeat' ((fail_if_success (with_reducible show wpAny _ _ (exec (Stmt.While _ _ _ _) _) _ _ _)); (fail_if_success (with_reducible show wpAny _ _ (exec (Stmt.For _ _ _ _ _) _) _ _ _)); (fail_if_success (with_reducible show wpAny _ _ (pyIter (Value.ref _)) _ _ _)); (fail_if_success (with_reducible show wpAny _ _ (call (Value.ref _) _) _ _ _)); (fail_if_success (with_reducible show wpAny _ _ (eval (Expr.ListComp _ _ _ _) _) _ _ _)); (first | (k_unfold; (try dsimp only)) | (k_end; wrow_close) | walk1 | (dsimp only; walk1) | (leave1; walk_say "STEP leave1"; try dsimp only) | fail "no step")))
    refine hret _ _ _ _ (by k_asm) (by k_asm) ⟨rfl, by rw [markW, if_pos (by simpa using hb)]; assumption, by rw [markW_n]; walk_at "mine keep"⟩
end
end
section
section
variable {w : World} {p : Program} {loose : List Str} {mean : ExcName → Option Value} {mg mb : Str → Option Value} {W : St} {f : Fix} {m : Mut} {l : Led} {i : Nat}
theorem children_c (R : Rep w W f m l) (h1 : 1 ≤ i) (h2 : i ≤ W.n) (he : ∀ j ∈ W.edges i, 1 ≤ j ∧ j ≤ W.n) (hz : (W.edges i).length ≤ 1000) (hn : W.n ≤ 1000) :
   Ctr w p loose mean mg mb f.ch [.ref (f.x i)] l 2 (fun r l' => ∃ a ep, r = .ref a ∧ Rep w W f m l' ∧ Loc W.n f m l' a (PySem.W.listOf (refs f (W.edges i)).toArray ep) ∧ KeepNew a W.n f m l W.n f m l') := by
  obtain ⟨oc, hsoc, vs, tq, hcd1, hcd2⟩ := R.has .chc trivial
  dsimp only [Sl.at] at hsoc
  obtain ⟨oce, hoce, dce⟩ := R.has .ce trivial
  dsimp only [Sl.at] at hoce
  have hlam := R.hch
  rw [show lamScope (lamAt 0) = Scope.mk _ _ _ _ _ from rfl, show lamBody (lamAt 0) = Expr.ListComp _ _ _ _ from rfl, show lamParams (lamAt 0) = Arguments.mk _ _ _ _ _ _ _ from rfl] at hlam
  unfold Ctr; k_fill; intro dp un gd cn cs a ccd cl outer A₀ base h₀ L mF s Q E B F X N T hk hd hu hret
  k_dflt ((refine' kla_code ?k1 ?k2 ?k3 ?k4 ?k5 ?kA ?kF ?kK ?k6 ?k7 ?k8 ?k9 ?kB ?_ ?c2 ?c3 ?c4 ?c5; (case kA => exact rfl); (case kF => exact rfl); (case kK => assumption); (case k1 => k_asm); (case k2 => k_asm); (case k3 => k_asm); (case k4 => k_asm); (case k5 => k_asm); (case k6 => exact hlam); (case k7 => exact codeRec_news (by k_asm) hsoc (by assumption) (by assumption)); (case k8 => ktr_room); (case k9 => exact rfl); (case c5 => decide); (case kB => exact locs rfl); (case c2 => exact rfl); (case c3 => exact rfl); (case c4 => exact rfl); k_whole; intro g' L' h' FG' F' N' B' X' T'; (try dsimp only); (try k_fold)))
  k_dflt (refine LCg.ListComp_U (F₀ := by k_asm) (by with_unfolding_all rfl) (by decide) (by rfl) (by decide) (by rfl) ?_)
  (repeat' ((fail_if_success (with_reducible show wpAny _ _ (exec (Stmt.While _ _ _ _) _) _ _ _)); (fail_if_success (with_reducible show wpAny _ _ (exec (Stmt.For _ _ _ _ _) _) _ _ _)); (fail_if_success (with_reducible show wpAny _ _ (pyIter (Value.ref _)) _ _ _)); (fail_if_success (with_reducible show wpAny _ _ (call (Value.ref _) _) _ _ _)); (fail_if_success (with_reducible show wpAny _ _ (eval (Expr.ListComp _ _ _ _) _) _ _ _)); (first | (k_unfold; (try dsimp only)) | (k_end; wrow_close) | walk1 | (dsimp only; walk1) | (leave1; walk_say "STEP leave1"; try dsimp only) | fail "no step")))
  refine src_pure (fun j y => ∃ i', (W.edges i)[j]? = some i' ∧ y = .ref (f.x i')) (by rfl) (by k_asm) (by k_asm) (R.he h1 h2) (sizeLine_ge (by simp; omega)) ?_ ?_
  · intro s j v C oC lx m₂ E' hv hsub hC hNs hx F N
    obtain ⟨i', hi', rfl⟩ := mapIdx_ints hv
    have Rx : Rep w W f m lx := R.mono hsub
    have hce := hsub _ hoce
    have h1' := (he i' (List.mem_of_getElem? hi')).1
    have h2' := (he i' (List.mem_of_getElem? hi')).2
    (repeat' ((fail_if_success (with_reducible show wpAny _ _ (exec (Stmt.While _ _ _ _) _) _ _ _)); (fail_if_success (with_reducible show wpAny _ _ (exec (Stmt.For _ _ _ _ _) _) _ _ _)); (fail_if_success (with_reducible show wpAny _ _ (pyIter (Value.ref _)) _ _ _)); (fail_if_success (with_reducible show wpAny _ _ (call (Value.ref _) _) _ _ _)); (fail_if_success (with_reducible show wpAny _ _ (eval (Expr.ListComp _ _ _ _) _) _ _ _)); (first | (k_unfold; (try dsimp only)) | (k_end; wrow_close) | walk1 | (dsimp only; walk1) | (leave1; walk_say "STEP leave1"; try dsimp only) | fail "no step")))
    exact EltEnd.intro (by k_asm) (by k_asm) ⟨_, hi', rfl⟩
  · rintro s' ys hl hy ⟨h', rfl⟩
    obtain rfl := refs_of (by simpa using hl) hy
    intro D h'' tk F N o1
    obtain ⟨R', U', K'⟩ := R.newN (o := LCg.lst (refs f (W.edges i))) (off1_ne o1)
    (repeat' ((fail_if_success (with_reducible show wpAny _ _ (exec (Stmt.While _ _ _ _) _) _ _ _)); (fail_if_success (with_reducible show wpAny _ _ (exec (Stmt.For _ _ _ _ _) _) _ _ _)); (fail_if_success (with_reducible show wpAny _ _ (pyIter (Value.ref _)) _ _ _)); (fail_if_success (with_reducible show wpAny _ _ (call (Value.ref _) _) _ _ _)); (fail_if_success (with_reducible show wpAny _ _ (eval (Expr.ListComp _ _ _ _) _) _ _ _)); (first | (k_unfold; (try dsimp only)) | (k_end; wrow_close) | walk1 | (dsimp only; walk1) | (leave1; walk_say "STEP leave1"; try dsimp only) | fail "no step")))
    refine hret _ _ _ _ (by k_asm) (by k_asm) ⟨_, _, rfl, R', U', K'⟩
end
end
section
section
variable {w : World} {p : Program} {loose : List Str} {mean : ExcName → Option Value} {mg mb : Str → Option Value} {W : St} {f : Fix} {m : Mut} {l : Led} {i : Nat}
theorem forget_c (R : Rep w W f m l) :
   Ctr w p loose mean mg mb 70 [.ref f.mi] l 2 (fun r l' => r = .none ∧ ∃ m', Rep w (W.setGrey []) f m' l' ∧ Keep W.n f m l (W.setGrey []).n f m' l' ∧ m'.rl = m.rl ∧ m'.ts = m.ts) := by
  unfold Ctr; k_fill; intro dp un gd cn cs a ccd cl outer A₀ base h₀ L mF s Q E B F X N T hk hdp hun hret; k_dflt ktr_enter
  (repeat' ((fail_if_success (with_reducible show wpAny _ _ (exec (Stmt.While _ _ _ _) _) _ _ _)); (fail_if_success (with_reducible show wpAny _ _ (exec (Stmt.For _ _ _ _ _) _) _ _ _)); (fail_if_success (with_reducible show wpAny _ _ (pyIter (Value.ref _)) _ _ _)); (fail_if_success (with_reducible show wpAny _ _ (call (Value.ref _) _) _ _ _)); (fail_if_success (with_reducible show wpAny _ _ (eval (Expr.ListComp _ _ _ _) _) _ _ _)); (first | (k_unfold; (try dsimp only)) | (k_end; wrow_close) | walk1 | (dsimp only; walk1) | (leave1; walk_say "STEP leave1"; try dsimp only) | fail "no step")))
  refine hret _ _ _ _ (by k_asm) (by k_asm) ⟨rfl, _, by assumption, by walk_at "mine keep", by exact rfl, by exact rfl⟩
theorem flip_c (R : Rep w W f m l) :
   Ctr w p loose mean mg mb 112 [.ref f.mi] l 2 (fun r l' => r = .none ∧ Rep w (W.setWhite (1 - W.white)) f m l' ∧ Keep W.n f m l (W.setWhite (1 - W.white)).n f m l') := by
  unfold Ctr; k_fill; intro dp un gd cn cs a ccd cl outer A₀ base h₀ L mF s Q E B F X N T hk hdp hun hret; k_dflt ktr_enter
  (repeat' ((fail_if_success (with_reducible show wpAny _ _ (exec (Stmt.While _ _ _ _) _) _ _ _)); (fail_if_success (with_reducible show wpAny _ _ (exec (Stmt.For _ _ _ _ _) _) _ _ _)); (fail_if_success (with_reducible show wpAny _ _ (pyIter (Value.ref _)) _ _ _)); (fail_if_success (with_reducible show wpAny _ _ (call (Value.ref _) _) _ _ _)); (fail_if_success (with_reducible show wpAny _ _ (eval (Expr.ListComp _ _ _ _) _) _ _ _)); (first | (k_unfold; (try dsimp only)) | (k_end; wrow_close) | walk1 | (dsimp only; walk1) | (leave1; walk_say "STEP leave1"; try dsimp only) | fail "no step")))
  refine hret _ _ _ _ (by k_asm) (by k_asm) ⟨rfl, by assumption, by assumption⟩
theorem is_dead_c (R : Rep w W f m l) (h1 : 1 ≤ i) (h2 : i ≤ W.n) :
   Ctr w p loose mean mg mb 49 [.ref f.mi, .ref (f.x i)] l 4 (fun r l' => (∃ b, r = .bool b ∧ (b = true ↔ W.mark i = 4 ∨ (W.mark i < 2 ∧ W.mark i ≠ W.white))) ∧ l' = l) := by
  unfold Ctr; k_fill; intro dp un gd cn cs a ccd cl outer A₀ base h₀ L mF s Q E B F X N T hk hdp hun hret; k_dflt ktr_enter
  (repeat' ((fail_if_success (with_reducible show wpAny _ _ (exec (Stmt.While _ _ _ _) _) _ _ _)); (fail_if_success (with_reducible show wpAny _ _ (exec (Stmt.For _ _ _ _ _) _) _ _ _)); (fail_if_success (with_reducible show wpAny _ _ (pyIter (Value.ref _)) _ _ _)); (fail_if_success (with_reducible show wpAny _ _ (call (Value.ref _) _) _ _ _)); (fail_if_success (with_reducible show wpAny _ _ (eval (Expr.ListComp _ _ _ _) _) _ _ _)); (first | (k_unfold; (try dsimp only)) | (k_end; wrow_close) | walk1 | (dsimp only; walk1) | (leave1; walk_say "STEP leave1"; try dsimp only) | fail "no step")))
  · have h4 : W.mark i = 4 := by assumption
    refine hret _ _ _ _ (by k_asm) (by k_asm) ⟨⟨_, rfl, by simp [h4]⟩, rfl⟩
  · have h4 : W.mark i ≠ 4 := by assumption
    (refine' Ctr.use ?k1 ?k2 ?k3 ?k4 ?k5 ?k6 (is_white_c R h1 h2) ?k7 ?k8 ?_; (case k1 => k_asm); (case k2 => k_asm); (case k3 => k_asm); (case k4 => k_asm); (case k5 => k_asm); (case k6 => first | exact rfl | assumption); (case k7 => ktr_room); (case k8 => ktr_units))
    rintro r9 l9 h9 tk9 F9 N9 ⟨⟨b, rfl, hb⟩, rfl⟩
    (try dsimp only); (try k_fold)
    cases b
    · (repeat' ((fail_if_success (with_reducible show wpAny _ _ (exec (Stmt.While _ _ _ _) _) _ _ _)); (fail_if_success (with_reducible show wpAny _ _ (exec (Stmt.For _ _ _ _ _) _) _ _ _)); (fail_if_success (with_reducible show wpAny _ _ (pyIter (Value.ref _)) _ _ _)); (fail_if_success (with_reducible show wpAny _ _ (call (Value.ref _) _) _ _ _)); (fail_if_success (with_reducible show wpAny _ _ (eval (Expr.ListComp _ _ _ _) _) _ _ _)); (first | (k_unfold; (try dsimp only)) | (k_end; wrow_close) | walk1 | (dsimp only; walk1) | (leave1; walk_say "STEP leave1"; try dsimp only) | fail "no step")))
      have hb' : ¬ W.mark i < 2 := by simpa using hb
      refine hret _ _ _ _ (by k_asm) (by k_asm) ⟨⟨_, rfl, by simp [h4, hb']⟩, rfl⟩
    · (repeat' ((fail_if_success (with_reducible show wpAny _ _ (exec (Stmt.While _ _ _ _) _) _ _ _)); (fail_if_success (with_reducible show wpAny _ _ (exec (Stmt.For _ _ _ _ _) _) _ _ _)); (fail_if_success (with_reducible show wpAny _ _ (pyIter (Value.ref _)) _ _ _)); (fail_if_success (with_reducible show wpAny _ _ (call (Value.ref _) _) _ _ _)); (fail_if_success (with_reducible show wpAny _ _ (eval (Expr.ListComp _ _ _ _) _) _ _ _)); (first | (k_unfold; (try dsimp only)) | (k_end; wrow_close) | walk1 | (dsimp only; walk1) | (leave1; walk_say "STEP leave1"; try dsimp only) | fail "no step")))
      have hb' : W.mark i < 2 := by simpa using hb
      refine hret _ _ _ _ (by k_asm) (by k_asm) ⟨⟨_, rfl, by simp [h4, hb']⟩, rfl⟩
theorem begin_c (R : Rep w W f m l) (hW : WF W) :
   Ctr w p loose mean mg mb 77 [.ref f.mi, .ref m.rl] l 10 (fun r l' => r = .none ∧ ∃ m', Rep w (beginL (W.setGrey []) W.rlist) f m' l' ∧ Keep W.n f m l (beginL (W.setGrey []) W.rlist).n f m' l' ∧ m'.rl = m.rl ∧ m'.ts = m.ts) := by
  unfold Ctr; k_fill; intro dp un gd cn cs a ccd cl outer A₀ base h₀ L mF s Q E B F X N T hk hdp hun hret; k_dflt ktr_enter
  (repeat' ((fail_if_success (with_reducible show wpAny _ _ (exec (Stmt.While _ _ _ _) _) _ _ _)); (fail_if_success (with_reducible show wpAny _ _ (exec (Stmt.For _ _ _ _ _) _) _ _ _)); (fail_if_success (with_reducible show wpAny _ _ (pyIter (Value.ref _)) _ _ _)); (fail_if_success (with_reducible show wpAny _ _ (call (Value.ref _) _) _ _ _)); (fail_if_success (with_reducible show wpAny _ _ (eval (Expr.ListComp _ _ _ _) _) _ _ _)); (first | (k_unfold; (try dsimp only)) | (k_end; wrow_close) | walk1 | (dsimp only; walk1) | (leave1; walk_say "STEP leave1"; try dsimp only) | fail "no step")))
  (refine' Ctr.use ?k1 ?k2 ?k3 ?k4 ?k5 ?k6 (forget_c R) ?k7 ?k8 ?_; (case k1 => k_asm); (case k2 => k_asm); (case k3 => k_asm); (case k4 => k_asm); (case k5 => k_asm); (case k6 => first | exact rfl | assumption); (case k7 => ktr_room); (case k8 => ktr_units))
  rintro r9 l9 h9 tk9 F9 N9 ⟨rfl, m1, R1, K1, e1, e2⟩
  (try dsimp only); (try k_fold)
  (repeat' ((fail_if_success (with_reducible show wpAny _ _ (exec (Stmt.While _ _ _ _) _) _ _ _)); (fail_if_success (with_reducible show wpAny _ _ (exec (Stmt.For _ _ _ _ _) _) _ _ _)); (fail_if_success (with_reducible show wpAny _ _ (pyIter (Value.ref _)) _ _ _)); (fail_if_success (with_reducible show wpAny _ _ (call (Value.ref _) _) _ _ _)); (fail_if_success (with_reducible show wpAny _ _ (eval (Expr.ListComp _ _ _ _) _) _ _ _)); (first | (k_unfold; (try dsimp only)) | (k_end; wrow_close) | walk1 | (dsimp only; walk1) | (leave1; walk_say "STEP leave1"; try dsimp only) | fail "no step")))
  ((rename Fr _ _ _ _ => lF'); (with_unfolding_all refine' For_invVF lF' ?k1 ?k2 ?_; (case k1 => exact rfl); (case k2 => exact rfl); k_whole))
  (repeat' ((fail_if_success (with_reducible show wpAny _ _ (exec (Stmt.While _ _ _ _) _) _ _ _)); (fail_if_success (with_reducible show wpAny _ _ (exec (Stmt.For _ _ _ _ _) _) _ _ _)); (fail_if_success (with_reducible show wpAny _ _ (pyIter (Value.ref _)) _ _ _)); (fail_if_success (with_reducible show wpAny _ _ (call (Value.ref _) _) _ _ _)); (fail_if_success (with_reducible show wpAny _ _ (eval (Expr.ListComp _ _ _ _) _) _ _ _)); (first | (k_unfold; (try dsimp only)) | (k_end; wrow_close) | walk1 | (dsimp only; walk1) | (leave1; walk_say "STEP leave1"; try dsimp only) | fail "no step")))
  refine iter_rep (vs := refs f W.rlist) (m₀ := ?M) (locsOf W.n f m l) (fun i W' f' m' mm => (∃ u, mm = fun z => if z = Str.ofString "obj" then u else ?M z) ∧ W' = beginL (W.setGrey []) (W.rlist.take i) ∧ f' = f ∧ m' = m1) (by rfl) (by k_asm) (by k_asm) R1 (by rw [← e1]; exact R1.lrl) (locsOf_from K1) ⟨⟨_, upd_self _ _⟩, rfl, rfl, rfl⟩ ?_ ?_
  · rintro i v W' f' m' mm l2 h2 tk2 I oI hv ⟨⟨u, rfl⟩, rfl, rfl, rfl⟩ R2 ha hl hI F2 N2
    simp only [refs, List.getElem?_map] at hv
    obtain ⟨j, hj, rfl⟩ := Option.map_eq_some_iff.mp hv
    have hjr := hW.hr j (List.mem_of_getElem? hj)
    have hW' := hW.grey0.take hW.hr i
    (repeat' ((fail_if_success (with_reducible show wpAny _ _ (exec (Stmt.While _ _ _ _) _) _ _ _)); (fail_if_success (with_reducible show wpAny _ _ (exec (Stmt.For _ _ _ _ _) _) _ _ _)); (fail_if_success (with_reducible show wpAny _ _ (pyIter (Value.ref _)) _ _ _)); (fail_if_success (with_reducible show wpAny _ _ (call (Value.ref _) _) _ _ _)); (fail_if_success (with_reducible show wpAny _ _ (eval (Expr.ListComp _ _ _ _) _) _ _ _)); (first | (k_unfold; (try dsimp only)) | (k_end; wrow_close) | walk1 | (dsimp only; walk1) | (leave1; walk_say "STEP leave1"; try dsimp only) | fail "no step")))
    (refine' Ctr.use ?k1 ?k2 ?k3 ?k4 ?k5 ?k6 (mark_c R2 hjr.1 (by rw [beginL_n]; exact hjr.2) (Nat.le_trans hW'.gl (by omega))) ?k7 ?k8 ?_; (case k1 => k_asm); (case k2 => k_asm); (case k3 => k_asm); (case k4 => k_asm); (case k5 => k_asm); (case k6 => first | exact rfl | assumption); (case k7 => ktr_room); (case k8 => ktr_units))
    rintro r9 l9 h9 tk9 F9 N9 ⟨rfl, R3, K3⟩
    (try dsimp only); (try k_fold)
    (repeat' ((fail_if_success (with_reducible show wpAny _ _ (exec (Stmt.While _ _ _ _) _) _ _ _)); (fail_if_success (with_reducible show wpAny _ _ (exec (Stmt.For _ _ _ _ _) _) _ _ _)); (fail_if_success (with_reducible show wpAny _ _ (pyIter (Value.ref _)) _ _ _)); (fail_if_success (with_reducible show wpAny _ _ (call (Value.ref _) _) _ _ _)); (fail_if_success (with_reducible show wpAny _ _ (eval (Expr.ListComp _ _ _ _) _) _ _ _)); (first | (k_unfold; (try dsimp only)) | (k_end; wrow_close) | walk1 | (dsimp only; walk1) | (leave1; walk_say "STEP leave1"; try dsimp only) | fail "no step")))
    exact ForPost.next (by k_asm) (by k_asm) R3 (locs_cons (K3 _ _ hI) (locs_cons (K3 _ _ ha) (locs_on K3 hl))) ⟨⟨_, upd_upd _ _ _ _⟩, beginL_next hj, rfl, rfl⟩
  · rintro W' f' m' mm l2 h2 tk2 ⟨⟨u, rfl⟩, rfl, rfl, rfl⟩ R2 ha hl F2 N2
    have e : W.rlist.take (refs f' W.rlist).length = W.rlist := by simp [refs]
    rw [e] at R2 hl
    (repeat' ((fail_if_success (with_reducible show wpAny _ _ (exec (Stmt.While _ _ _ _) _) _ _ _)); (fail_if_success (with_reducible show wpAny _ _ (exec (Stmt.For _ _ _ _ _) _) _ _ _)); (fail_if_success (with_reducible show wpAny _ _ (pyIter (Value.ref _)) _ _ _)); (fail_if_success (with_reducible show wpAny _ _ (call (Value.ref _) _) _ _ _)); (fail_if_success (with_reducible show wpAny _ _ (eval (Expr.ListComp _ _ _ _) _) _ _ _)); (first | (k_unfold; (try dsimp only)) | (k_end; wrow_close) | walk1 | (dsimp only; walk1) | (leave1; walk_say "STEP leave1"; try dsimp only) | fail "no step")))
    refine hret _ _ _ _ (by k_asm) (by k_asm) ⟨rfl, _, R2, locsOf_keep hl, by exact e1, by exact e2⟩
theorem propagate_c (R : Rep w W f m l) (hW : WF W) {ns : List Nat} (hg : W.grey = ns ++ [i]) :
   Ctr w p loose mean mg mb 91 [.ref f.mi] l 10 (fun r l' => (∃ k t, r = .int k t) ∧ Rep w (propW W ns i) f m l' ∧ Keep W.n f m l (propW W ns i).n f m l') := by
  have hi := hW.hg i (by rw [hg]; simp)
  have h1 := hi.1.1
  have h2 := hi.1.2
  have hgl := hW.gl
  unfold Ctr; k_fill; intro dp un gd cn cs a ccd cl outer A₀ base h₀ L mF s Q E B F X N T hk hdp hun hret; k_dflt ktr_enter
  (repeat' ((fail_if_success (with_reducible show wpAny _ _ (exec (Stmt.While _ _ _ _) _) _ _ _)); (fail_if_success (with_reducible show wpAny _ _ (exec (Stmt.For _ _ _ _ _) _) _ _ _)); (fail_if_success (with_reducible show wpAny _ _ (pyIter (Value.ref _)) _ _ _)); (fail_if_success (with_reducible show wpAny _ _ (call (Value.ref _) _) _ _ _)); (fail_if_success (with_reducible show wpAny _ _ (eval (Expr.ListComp _ _ _ _) _) _ _ _)); (first | (k_unfold; (try dsimp only)) | (k_end; wrow_close) | walk1 | (dsimp only; walk1) | (leave1; walk_say "STEP leave1"; try dsimp only) | fail "no step")))
  (refine' Ctr.use ?k1 ?k2 ?k3 ?k4 ?k5 ?k6 (sort_c (by assumption)) ?k7 ?k8 ?_; (case k1 => k_asm); (case k2 => k_asm); (case k3 => k_asm); (case k4 => k_asm); (case k5 => k_asm); (case k6 => first | exact rfl | assumption); (case k7 => ktr_room); (case k8 => ktr_units))
  rintro r9 l9 h9 tk9 F9 N9 ⟨⟨t9, rfl⟩, rfl⟩
  (try dsimp only); (try k_fold)
  (repeat' ((fail_if_success (with_reducible show wpAny _ _ (exec (Stmt.While _ _ _ _) _) _ _ _)); (fail_if_success (with_reducible show wpAny _ _ (exec (Stmt.For _ _ _ _ _) _) _ _ _)); (fail_if_success (with_reducible show wpAny _ _ (pyIter (Value.ref _)) _ _ _)); (fail_if_success (with_reducible show wpAny _ _ (call (Value.ref _) _) _ _ _)); (fail_if_success (with_reducible show wpAny _ _ (eval (Expr.ListComp _ _ _ _) _) _ _ _)); (first | (k_unfold; (try dsimp only)) | (k_end; wrow_close) | walk1 | (dsimp only; walk1) | (leave1; walk_say "STEP leave1"; try dsimp only) | fail "no step")))
  ((rename Fr _ _ _ _ => lF'); (with_unfolding_all refine' For_invVF lF' ?k1 ?k2 ?_; (case k1 => exact rfl); (case k2 => exact rfl); k_whole))
  (repeat' ((fail_if_success (with_reducible show wpAny _ _ (exec (Stmt.While _ _ _ _) _) _ _ _)); (fail_if_success (with_reducible show wpAny _ _ (exec (Stmt.For _ _ _ _ _) _) _ _ _)); (fail_if_success (with_reducible show wpAny _ _ (pyIter (Value.ref _)) _ _ _)); (fail_if_success (with_reducible show wpAny _ _ (call (Value.ref _) _) _ _ _)); (fail_if_success (with_reducible show wpAny _ _ (eval (Expr.ListComp _ _ _ _) _) _ _ _)); (first | (k_unfold; (try dsimp only)) | (k_end; wrow_close) | walk1 | (dsimp only; walk1) | (leave1; walk_say "STEP leave1"; try dsimp only) | fail "no step")))
  (refine' Ctr.use ?k1 ?k2 ?k3 ?k4 ?k5 ?k6 (children_c (W := (W.setGrey ns).setMark i 3) (by assumption) h1 h2 (fun j hj => hW.he i j hj) (Nat.le_trans (hW.hel i) (by omega)) (Nat.le_trans hW.hn (by omega))) ?k7 ?k8 ?_; (case k1 => k_asm); (case k2 => k_asm); (case k3 => k_asm); (case k4 => k_asm); (case k5 => k_asm); (case k6 => first | exact rfl | assumption); (case k7 => ktr_room); (case k8 => ktr_units))
  rintro r9 l9 h9 tk9 F9 N9 ⟨a1, ep1, rfl, R1, U1, K1⟩
  (try dsimp only); (try k_fold)
  refine iter_rep (vs := refs f (W.edges i)) (m₀ := ?M) (locsOf W.n f m l) (fun k W' f' m' mm => (∃ u, mm = fun z => if z = Str.ofString "child" then u else ?M z) ∧ W' = beginL ((W.setGrey ns).setMark i 3) ((W.edges i).take k) ∧ f' = f ∧ m' = m) (by rfl) (by k_asm) (by k_asm) R1 U1 (locsOf_from (by walk_at "mine keep")) ⟨⟨_, upd_self _ _⟩, rfl, rfl, rfl⟩ ?_ ?_
  · rintro k v W' f' m' mm l2 h2 tk2 I oI hv ⟨⟨u, rfl⟩, rfl, rfl, rfl⟩ R2 ha hl hI F2 N2
    simp only [refs, List.getElem?_map] at hv
    obtain ⟨j, hj, rfl⟩ := Option.map_eq_some_iff.mp hv
    have hjr := hW.he i j (List.mem_of_getElem? hj)
    have hW' := (hW.prop0 hg).take (fun j hj => hW.he i j hj) k
    (repeat' ((fail_if_success (with_reducible show wpAny _ _ (exec (Stmt.While _ _ _ _) _) _ _ _)); (fail_if_success (with_reducible show wpAny _ _ (exec (Stmt.For _ _ _ _ _) _) _ _ _)); (fail_if_success (with_reducible show wpAny _ _ (pyIter (Value.ref _)) _ _ _)); (fail_if_success (with_reducible show wpAny _ _ (call (Value.ref _) _) _ _ _)); (fail_if_success (with_reducible show wpAny _ _ (eval (Expr.ListComp _ _ _ _) _) _ _ _)); (first | (k_unfold; (try dsimp only)) | (k_end; wrow_close) | walk1 | (dsimp only; walk1) | (leave1; walk_say "STEP leave1"; try dsimp only) | fail "no step")))
    (refine' Ctr.use ?k1 ?k2 ?k3 ?k4 ?k5 ?k6 (mark_c R2 hjr.1 (by rw [beginL_n]; exact hjr.2) (Nat.le_trans hW'.gl (by omega))) ?k7 ?k8 ?_; (case k1 => k_asm); (case k2 => k_asm); (case k3 => k_asm); (case k4 => k_asm); (case k5 => k_asm); (case k6 => first | exact rfl | assumption); (case k7 => ktr_room); (case k8 => ktr_units))
    rintro r9 l9 h9 tk9 F9 N9 ⟨rfl, R3, K3⟩
    (try dsimp only); (try k_fold)
    (repeat' ((fail_if_success (with_reducible show wpAny _ _ (exec (Stmt.While _ _ _ _) _) _ _ _)); (fail_if_success (with_reducible show wpAny _ _ (exec (Stmt.For _ _ _ _ _) _) _ _ _)); (fail_if_success (with_reducible show wpAny _ _ (pyIter (Value.ref _)) _ _ _)); (fail_if_success (with_reducible show wpAny _ _ (call (Value.ref _) _) _ _ _)); (fail_if_success (with_reducible show wpAny _ _ (eval (Expr.ListComp _ _ _ _) _) _ _ _)); (first | (k_unfold; (try dsimp only)) | (k_end; wrow_close) | walk1 | (dsimp only; walk1) | (leave1; walk_say "STEP leave1"; try dsimp only) | fail "no step")))
    exact ForPost.next (by k_asm) (by k_asm) R3 (locs_cons (K3 _ _ hI) (locs_cons (K3 _ _ ha) (locs_on K3 hl))) ⟨⟨_, upd_upd _ _ _ _⟩, beginL_next hj, rfl, rfl⟩
  · rintro W' f' m' mm l2 h2' tk2 ⟨⟨u, rfl⟩, rfl, rfl, rfl⟩ R2 ha hl F2 N2
    have e : (W.edges i).take (refs f' (W.edges i)).length = W.edges i := by simp [refs]
    rw [e] at R2 hl
    have h2n : i ≤ (propW W ns i).n := by rw [propW_n]; exact h2
    change Rep w (propW W ns i) f' m' l2 at R2
    (repeat' ((fail_if_success (with_reducible show wpAny _ _ (exec (Stmt.While _ _ _ _) _) _ _ _)); (fail_if_success (with_reducible show wpAny _ _ (exec (Stmt.For _ _ _ _ _) _) _ _ _)); (fail_if_success (with_reducible show wpAny _ _ (pyIter (Value.ref _)) _ _ _)); (fail_if_success (with_reducible show wpAny _ _ (call (Value.ref _) _) _ _ _)); (fail_if_success (with_reducible show wpAny _ _ (eval (Expr.ListComp _ _ _ _) _) _ _ _)); (first | (k_unfold; (try dsimp only)) | (k_end; wrow_close) | walk1 | (dsimp only; walk1) | (leave1; walk_say "STEP leave1"; try dsimp only) | fail "no step")))
    refine hret _ _ _ _ (by k_asm) (by k_asm) ⟨⟨_, _, rfl⟩, R2, locsOf_keep hl⟩
end
end
section
section
variable {w : World} {p : Program} {loose : List Str} {mean : ExcName → Option Value} {mg mb : Str → Option Value} {W : St} {f : Fix} {m : Mut} {l : Led} {i : Nat}
theorem propagate_all_c (R : Rep w W f m l) (hW : WF W) :
   Ctr w p loose mean mg mb 98 [.ref f.mi] l 14 (fun r l' => (∃ k t, r = .int k t) ∧ ∃ W', Props W W' ∧ W'.grey = [] ∧ Rep w W' f m l' ∧ Keep W.n f m l W'.n f m l') := by
  unfold Ctr; k_fill; intro dp un gd cn cs a ccd cl outer A₀ base h₀ L mF s Q E B F X N T hk hdp hun hret; k_dflt ktr_enter
  (repeat' ((fail_if_success (with_reducible show wpAny _ _ (exec (Stmt.While _ _ _ _) _) _ _ _)); (fail_if_success (with_reducible show wpAny _ _ (exec (Stmt.For _ _ _ _ _) _) _ _ _)); (fail_if_success (with_reducible show wpAny _ _ (pyIter (Value.ref _)) _ _ _)); (fail_if_success (with_reducible show wpAny _ _ (call (Value.ref _) _) _ _ _)); (fail_if_success (with_reducible show wpAny _ _ (eval (Expr.ListComp _ _ _ _) _) _ _ _)); (first | (k_unfold; (try dsimp only)) | (k_end; wrow_close) | walk1 | (dsimp only; walk1) | (leave1; walk_say "STEP leave1"; try dsimp only) | fail "no step")))
  refine while_rep (m₀ := ?M) (n₀ := mu W) (locsOf W.n f m l) (fun n W' f' m' mm => (∃ k t, mm = fun z => if z = Str.ofString "work" then some (.int k t) else ?M z) ∧ Props W W' ∧ n = mu W' ∧ f' = f ∧ m' = m) (by k_asm) (by k_asm) R locsOf_start ⟨⟨_, _, upd_self _ _⟩, .refl, rfl, rfl, rfl⟩ ?_
  rintro n W' f' m' mm l2 h2 tk2 ⟨⟨k, t, rfl⟩, hp, rfl, rfl, rfl⟩ R2 hl F2 N2
  have hW2 := hW.props hp
  have hgl := hW2.gl
  (repeat' ((fail_if_success (with_reducible show wpAny _ _ (exec (Stmt.While _ _ _ _) _) _ _ _)); (fail_if_success (with_reducible show wpAny _ _ (exec (Stmt.For _ _ _ _ _) _) _ _ _)); (fail_if_success (with_reducible show wpAny _ _ (pyIter (Value.ref _)) _ _ _)); (fail_if_success (with_reducible show wpAny _ _ (call (Value.ref _) _) _ _ _)); (fail_if_success (with_reducible show wpAny _ _ (eval (Expr.ListComp _ _ _ _) _) _ _ _)); (first | (k_unfold; (try dsimp only)) | (k_end; wrow_close) | walk1 | (dsimp only; walk1) | (leave1; walk_say "STEP leave1"; try dsimp only) | fail "no step")))
  · rcases List.eq_nil_or_concat W'.grey with e | ⟨ns, i, e⟩
    · have : (0 : Int) < W'.grey.length := by assumption
      rw [e] at this; exact absurd this (by simp)
    · rw [List.concat_eq_append] at e
      (refine' Ctr.use ?k1 ?k2 ?k3 ?k4 ?k5 ?k6 (propagate_c R2 hW2 e) ?k7 ?k8 ?_; (case k1 => k_asm); (case k2 => k_asm); (case k3 => k_asm); (case k4 => k_asm); (case k5 => k_asm); (case k6 => first | exact rfl | assumption); (case k7 => ktr_room); (case k8 => ktr_units))
      rintro r9 l9 h9 tk9 F9 N9 ⟨⟨k2, t2, rfl⟩, R3, K3⟩
      (try dsimp only); (try k_fold)
      (repeat' ((fail_if_success (with_reducible show wpAny _ _ (exec (Stmt.While _ _ _ _) _) _ _ _)); (fail_if_success (with_reducible show wpAny _ _ (exec (Stmt.For _ _ _ _ _) _) _ _ _)); (fail_if_success (with_reducible show wpAny _ _ (pyIter (Value.ref _)) _ _ _)); (fail_if_success (with_reducible show wpAny _ _ (call (Value.ref _) _) _ _ _)); (fail_if_success (with_reducible show wpAny _ _ (eval (Expr.ListComp _ _ _ _) _) _ _ _)); (first | (k_unfold; (try dsimp only)) | (k_end; wrow_close) | walk1 | (dsimp only; walk1) | (leave1; walk_say "STEP leave1"; try dsimp only) | fail "no step")))
      exact ForPost.next (by k_asm) (by k_asm) R3 (locs_on K3 hl) ⟨_, mu_prop hW2 e, ⟨_, _, upd_upd _ _ _ _⟩, hp.step e, rfl, rfl, rfl⟩
  · have e : W'.grey = [] := by
      have : ¬ (0 : Int) < W'.grey.length := by assumption
      exact List.eq_nil_of_length_eq_zero (by omega)
    (repeat' ((fail_if_success (with_reducible show wpAny _ _ (exec (Stmt.While _ _ _ _) _) _ _ _)); (fail_if_success (with_reducible show wpAny _ _ (exec (Stmt.For _ _ _ _ _) _) _ _ _)); (fail_if_success (with_reducible show wpAny _ _ (pyIter (Value.ref _)) _ _ _)); (fail_if_success (with_reducible show wpAny _ _ (call (Value.ref _) _) _ _ _)); (fail_if_success (with_reducible show wpAny _ _ (eval (Expr.ListComp _ _ _ _) _) _ _ _)); (first | (k_unfold; (try dsimp only)) | (k_end; wrow_close) | walk1 | (dsimp only; walk1) | (leave1; walk_say "STEP leave1"; try dsimp only) | fail "no step")))
    refine hret _ _ _ _ (by k_asm) (by k_asm) ⟨⟨_, _, rfl⟩, _, hp, e, R2, locsOf_keep hl⟩
end
end
section
section
variable {w : World} {p : Program} {loose : List Str} {mean : ExcName → Option Value} {mg mb : Str → Option Value} {W : St} {f : Fix} {m : Mut} {l : Led} {i : Nat}
theorem Props.trans {W W' W'' : St} (a : Props W W') (b : Props W' W'') : Props W W'' := by
  induction b with
  | refl => exact a
  | step _ h ih => exact .step ih h
theorem finish_c (R : Rep w W f m l) (hW : WF W) :
   Ctr w p loose mean mg mb 105 [.ref f.mi, .ref m.rl] l 18 (fun r l' => r = .none ∧ ∃ W' W'' m', Props W W' ∧ W'.grey = [] ∧ Props (beginL W' W'.rlist) W'' ∧ W''.grey = [] ∧ Rep w W'' f m' l' ∧ Keep W.n f m l W''.n f m' l' ∧ m'.rl = m.rl ∧ m'.ts = m.ts) := by
  unfold Ctr; k_fill; intro dp un gd cn cs a ccd cl outer A₀ base h₀ L mF s Q E B F X N T hk hdp hun hret; k_dflt ktr_enter
  (repeat' ((fail_if_success (with_reducible show wpAny _ _ (exec (Stmt.While _ _ _ _) _) _ _ _)); (fail_if_success (with_reducible show wpAny _ _ (exec (Stmt.For _ _ _ _ _) _) _ _ _)); (fail_if_success (with_reducible show wpAny _ _ (pyIter (Value.ref _)) _ _ _)); (fail_if_success (with_reducible show wpAny _ _ (call (Value.ref _) _) _ _ _)); (fail_if_success (with_reducible show wpAny _ _ (eval (Expr.ListComp _ _ _ _) _) _ _ _)); (first | (k_unfold; (try dsimp only)) | (k_end; wrow_close) | walk1 | (dsimp only; walk1) | (leave1; walk_say "STEP leave1"; try dsimp only) | fail "no step")))
  (refine' Ctr.use ?k1 ?k2 ?k3 ?k4 ?k5 ?k6 (propagate_all_c R hW) ?k7 ?k8 ?_; (case k1 => k_asm); (case k2 => k_asm); (case k3 => k_asm); (case k4 => k_asm); (case k5 => k_asm); (case k6 => first | exact rfl | assumption); (case k7 => ktr_room); (case k8 => ktr_units))
  rintro r9 l9 h9 tk9 F9 N9 ⟨⟨k1, t1, rfl⟩, W1, p1, g1, R1, K1⟩
  (try dsimp only); (try k_fold)
  have hW1 := hW.props p1
  (repeat' ((fail_if_success (with_reducible show wpAny _ _ (exec (Stmt.While _ _ _ _) _) _ _ _)); (fail_if_success (with_reducible show wpAny _ _ (exec (Stmt.For _ _ _ _ _) _) _ _ _)); (fail_if_success (with_reducible show wpAny _ _ (pyIter (Value.ref _)) _ _ _)); (fail_if_success (with_reducible show wpAny _ _ (call (Value.ref _) _) _ _ _)); (fail_if_success (with_reducible show wpAny _ _ (eval (Expr.ListComp _ _ _ _) _) _ _ _)); (first | (k_unfold; (try dsimp only)) | (k_end; wrow_close) | walk1 | (dsimp only; walk1) | (leave1; walk_say "STEP leave1"; try dsimp only) | fail "no step")))
  ((rename Fr _ _ _ _ => lF'); (with_unfolding_all refine' For_invVF lF' ?k1 ?k2 ?_; (case k1 => exact rfl); (case k2 => exact rfl); k_whole))
  (repeat' ((fail_if_success (with_reducible show wpAny _ _ (exec (Stmt.While _ _ _ _) _) _ _ _)); (fail_if_success (with_reducible show wpAny _ _ (exec (Stmt.For _ _ _ _ _) _) _ _ _)); (fail_if_success (with_reducible show wpAny _ _ (pyIter (Value.ref _)) _ _ _)); (fail_if_success (with_reducible show wpAny _ _ (call (Value.ref _) _) _ _ _)); (fail_if_success (with_reducible show wpAny _ _ (eval (Expr.ListComp _ _ _ _) _) _ _ _)); (first | (k_unfold; (try dsimp only)) | (k_end; wrow_close) | walk1 | (dsimp only; walk1) | (leave1; walk_say "STEP leave1"; try dsimp only) | fail "no step")))
  refine iter_rep (vs := refs f W1.rlist) (m₀ := ?M) (locsOf W.n f m l) (fun k W' f' m' mm => (∃ u, mm = fun z => if z = Str.ofString "obj" then u else ?M z) ∧ W' = beginL W1 (W1.rlist.take k) ∧ f' = f ∧ m'.rl = m.rl ∧ m'.ts = m.ts) (by rfl) (by k_asm) (by k_asm) (by assumption) (by exact Rep.lrl (by assumption)) (locsOf_from (by walk_at "mine keep")) ⟨⟨_, upd_self _ _⟩, by exact rfl, by exact rfl, by exact rfl, by exact rfl⟩ ?_ ?_
  · rintro k v W' f' m' mm l2 h2 tk2 I oI hv ⟨⟨u, rfl⟩, rfl, rfl, er, et⟩ R2 ha hl hI F2 N2
    simp only [refs, List.getElem?_map] at hv
    obtain ⟨j, hj, rfl⟩ := Option.map_eq_some_iff.mp hv
    have hjr := hW1.hr j (List.mem_of_getElem? hj)
    have hW' := hW1.take hW1.hr k
    (repeat' ((fail_if_success (with_reducible show wpAny _ _ (exec (Stmt.While _ _ _ _) _) _ _ _)); (fail_if_success (with_reducible show wpAny _ _ (exec (Stmt.For _ _ _ _ _) _) _ _ _)); (fail_if_success (with_reducible show wpAny _ _ (pyIter (Value.ref _)) _ _ _)); (fail_if_success (with_reducible show wpAny _ _ (call (Value.ref _) _) _ _ _)); (fail_if_success (with_reducible show wpAny _ _ (eval (Expr.ListComp _ _ _ _) _) _ _ _)); (first | (k_unfold; (try dsimp only)) | (k_end; wrow_close) | walk1 | (dsimp only; walk1) | (leave1; walk_say "STEP leave1"; try dsimp only) | fail "no step")))
    (refine' Ctr.use ?k1 ?k2 ?k3 ?k4 ?k5 ?k6 (mark_c R2 hjr.1 (by rw [beginL_n]; exact hjr.2) (Nat.le_trans hW'.gl (by omega))) ?k7 ?k8 ?_; (case k1 => k_asm); (case k2 => k_asm); (case k3 => k_asm); (case k4 => k_asm); (case k5 => k_asm); (case k6 => first | exact rfl | assumption); (case k7 => ktr_room); (case k8 => ktr_units))
    rintro r9 l9 h9 tk9 F9 N9 ⟨rfl, R3, K3⟩
    (try dsimp only); (try k_fold)
    (repeat' ((fail_if_success (with_reducible show wpAny _ _ (exec (Stmt.While _ _ _ _) _) _ _ _)); (fail_if_success (with_reducible show wpAny _ _ (exec (Stmt.For _ _ _ _ _) _) _ _ _)); (fail_if_success (with_reducible show wpAny _ _ (pyIter (Value.ref _)) _ _ _)); (fail_if_success (with_reducible show wpAny _ _ (call (Value.ref _) _) _ _ _)); (fail_if_success (with_reducible show wpAny _ _ (eval (Expr.ListComp _ _ _ _) _) _ _ _)); (first | (k_unfold; (try dsimp only)) | (k_end; wrow_close) | walk1 | (dsimp only; walk1) | (leave1; walk_say "STEP leave1"; try dsimp only) | fail "no step")))
    exact ForPost.next (by k_asm) (by k_asm) R3 (locs_cons (K3 _ _ hI) (locs_cons (K3 _ _ ha) (locs_on K3 hl))) ⟨⟨_, upd_upd _ _ _ _⟩, beginL_next hj, rfl, er, et⟩
  · rintro W' f' m' mm l2 h2' tk2 ⟨⟨u, rfl⟩, rfl, rfl, er, et⟩ R2 ha hl F2 N2
    have e : W1.rlist.take (refs f' W1.rlist).length = W1.rlist := by simp [refs]
    rw [e] at R2 hl
    have hW2 := hW1.begin hW1.hr
    (repeat' ((fail_if_success (with_reducible show wpAny _ _ (exec (Stmt.While _ _ _ _) _) _ _ _)); (fail_if_success (with_reducible show wpAny _ _ (exec (Stmt.For _ _ _ _ _) _) _ _ _)); (fail_if_success (with_reducible show wpAny _ _ (pyIter (Value.ref _)) _ _ _)); (fail_if_success (with_reducible show wpAny _ _ (call (Value.ref _) _) _ _ _)); (fail_if_success (with_reducible show wpAny _ _ (eval (Expr.ListComp _ _ _ _) _) _ _ _)); (first | (k_unfold; (try dsimp only)) | (k_end; wrow_close) | walk1 | (dsimp only; walk1) | (leave1; walk_say "STEP leave1"; try dsimp only) | fail "no step")))
    (refine' Ctr.use ?k1 ?k2 ?k3 ?k4 ?k5 ?k6 (propagate_all_c R2 hW2) ?k7 ?k8 ?_; (case k1 => k_asm); (case k2 => k_asm); (case k3 => k_asm); (case k4 => k_asm); (case k5 => k_asm); (case k6 => first | exact rfl | assumption); (case k7 => ktr_room); (case k8 => ktr_units))
    rintro r9 l9 h9 tk9 F9 N9 ⟨⟨k3, t3, rfl⟩, W3, p3, g3, R3, K3⟩
    (try dsimp only); (try k_fold)
    have hW3 := hW2.props p3
    (repeat' ((fail_if_success (with_reducible show wpAny _ _ (exec (Stmt.While _ _ _ _) _) _ _ _)); (fail_if_success (with_reducible show wpAny _ _ (exec (Stmt.For _ _ _ _ _) _) _ _ _)); (fail_if_success (with_reducible show wpAny _ _ (pyIter (Value.ref _)) _ _ _)); (fail_if_success (with_reducible show wpAny _ _ (call (Value.ref _) _) _ _ _)); (fail_if_success (with_reducible show wpAny _ _ (eval (Expr.ListComp _ _ _ _) _) _ _ _)); (first | (k_unfold; (try dsimp only)) | (k_end; wrow_close) | walk1 | (dsimp only; walk1) | (leave1; walk_say "STEP leave1"; try dsimp only) | fail "no step")))
    (refine' Ctr.use ?k1 ?k2 ?k3 ?k4 ?k5 ?k6 (propagate_all_c (W := W3) (by assumption) hW3) ?k7 ?k8 ?_; (case k1 => k_asm); (case k2 => k_asm); (case k3 => k_asm); (case k4 => k_asm); (case k5 => k_asm); (case k6 => first | exact rfl | assumption); (case k7 => ktr_room); (case k8 => ktr_units))
    rintro r9 l9 h9 tk9 F9 N9 ⟨⟨k4, t4, rfl⟩, W4, p4, g4, R4, K4⟩
    (try dsimp only); (try k_fold)
    (repeat' ((fail_if_success (with_reducible show wpAny _ _ (exec (Stmt.While _ _ _ _) _) _ _ _)); (fail_if_success (with_reducible show wpAny _ _ (exec (Stmt.For _ _ _ _ _) _) _ _ _)); (fail_if_success (with_reducible show wpAny _ _ (pyIter (Value.ref _)) _ _ _)); (fail_if_success (with_reducible show wpAny _ _ (call (Value.ref _) _) _ _ _)); (fail_if_success (with_reducible show wpAny _ _ (eval (Expr.ListComp _ _ _ _) _) _ _ _)); (first | (k_unfold; (try dsimp only)) | (k_end; wrow_close) | walk1 | (dsimp only; walk1) | (leave1; walk_say "STEP leave1"; try dsimp only) | fail "no step")))
    have K0 := locsOf_keep hl
    refine hret _ _ _ _ (by k_asm) (by k_asm) ⟨rfl, W1, W4, _, p1, g1, p3.trans p4, g4, R4, by walk_at "mine keep", by exact er, by exact et⟩
theorem barrier_c (R : Rep w W f m l) (hW : WF W) {j : Nat} {bm : Bool} (h1 : 1 ≤ i) (h2 : i ≤ W.n) (h3 : 1 ≤ j) (h4 : j ≤ W.n) :
   Ctr w p loose mean mg mb 119 [.ref f.mi, .ref (f.x i), .ref (f.x j), .bool bm] l 10 (fun r l' => r = .none ∧ Rep w (barW W i j bm) f m l' ∧ Keep W.n f m l (barW W i j bm).n f m l') := by
  have hgl := hW.gl
  unfold Ctr; k_fill; intro dp un gd cn cs a ccd cl outer A₀ base h₀ L mF s Q E B F X N T hk hdp hun hret; k_dflt ktr_enter
  (repeat' ((fail_if_success (with_reducible show wpAny _ _ (exec (Stmt.While _ _ _ _) _) _ _ _)); (fail_if_success (with_reducible show wpAny _ _ (exec (Stmt.For _ _ _ _ _) _) _ _ _)); (fail_if_success (with_reducible show wpAny _ _ (pyIter (Value.ref _)) _ _ _)); (fail_if_success (with_reducible show wpAny _ _ (call (Value.ref _) _) _ _ _)); (fail_if_success (with_reducible show wpAny _ _ (eval (Expr.ListComp _ _ _ _) _) _ _ _)); (first | (k_unfold; (try dsimp only)) | (k_end; wrow_close) | walk1 | (dsimp only; walk1) | (leave1; walk_say "STEP leave1"; try dsimp only) | fail "no step")))
  · have hc : W.mark i ≠ 3 := by assumption
    refine hret _ _ _ _ (by k_asm) (by k_asm) ⟨rfl, by rw [barW, if_neg (fun q => hc q.1)]; exact R, by rw [barW, if_neg (fun q => hc q.1)]; exact Keep.refl⟩
  · have hc : W.mark i = 3 := by first | assumption | exact Decidable.of_not_not (by assumption)
    (refine' Ctr.use ?k1 ?k2 ?k3 ?k4 ?k5 ?k6 (is_white_c R h3 h4) ?k7 ?k8 ?_; (case k1 => k_asm); (case k2 => k_asm); (case k3 => k_asm); (case k4 => k_asm); (case k5 => k_asm); (case k6 => first | exact rfl | assumption); (case k7 => ktr_room); (case k8 => ktr_units))
    rintro r9 l9 h9 tk9 F9 N9 ⟨⟨b, rfl, hb⟩, rfl⟩
    (try dsimp only); (try k_fold)
    cases b
    · have hb' : ¬ W.mark j < 2 := by simpa using hb
      (repeat' ((fail_if_success (with_reducible show wpAny _ _ (exec (Stmt.While _ _ _ _) _) _ _ _)); (fail_if_success (with_reducible show wpAny _ _ (exec (Stmt.For _ _ _ _ _) _) _ _ _)); (fail_if_success (with_reducible show wpAny _ _ (pyIter (Value.ref _)) _ _ _)); (fail_if_success (with_reducible show wpAny _ _ (call (Value.ref _) _) _ _ _)); (fail_if_success (with_reducible show wpAny _ _ (eval (Expr.ListComp _ _ _ _) _) _ _ _)); (first | (k_unfold; (try dsimp only)) | (k_end; wrow_close) | walk1 | (dsimp only; walk1) | (leave1; walk_say "STEP leave1"; try dsimp only) | fail "no step")))
      refine hret _ _ _ _ (by k_asm) (by k_asm) ⟨rfl, by rw [barW, if_neg (fun q => hb' q.2.1)]; exact R, by rw [barW, if_neg (fun q => hb' q.2.1)]; exact Keep.refl⟩
    · have hb' : W.mark j < 2 := by simpa using hb
      (repeat' ((fail_if_success (with_reducible show wpAny _ _ (exec (Stmt.While _ _ _ _) _) _ _ _)); (fail_if_success (with_reducible show wpAny _ _ (exec (Stmt.For _ _ _ _ _) _) _ _ _)); (fail_if_success (with_reducible show wpAny _ _ (pyIter (Value.ref _)) _ _ _)); (fail_if_success (with_reducible show wpAny _ _ (call (Value.ref _) _) _ _ _)); (fail_if_success (with_reducible show wpAny _ _ (eval (Expr.ListComp _ _ _ _) _) _ _ _)); (first | (k_unfold; (try dsimp only)) | (k_end; wrow_close) | walk1 | (dsimp only; walk1) | (leave1; walk_say "STEP leave1"; try dsimp only) | fail "no step")))
      (refine' Ctr.use ?k1 ?k2 ?k3 ?k4 ?k5 ?k6 (is_dead_c R h3 h4) ?k7 ?k8 ?_; (case k1 => k_asm); (case k2 => k_asm); (case k3 => k_asm); (case k4 => k_asm); (case k5 => k_asm); (case k6 => first | exact rfl | assumption); (case k7 => ktr_room); (case k8 => ktr_units))
      rintro r9 l9 h9 tk9 F9 N9 ⟨⟨b2, rfl, hb2⟩, rfl⟩
      (try dsimp only); (try k_fold)
      cases b2
      · have hb2' : W.mark j = W.white := by
          have := (not_congr hb2).mp (by simp)
          exact Decidable.of_not_not fun q => this (.inr ⟨hb', q⟩)
        cases bm
        · (repeat' ((fail_if_success (with_reducible show wpAny _ _ (exec (Stmt.While _ _ _ _) _) _ _ _)); (fail_if_success (with_reducible show wpAny _ _ (exec (Stmt.For _ _ _ _ _) _) _ _ _)); (fail_if_success (with_reducible show wpAny _ _ (pyIter (Value.ref _)) _ _ _)); (fail_if_success (with_reducible show wpAny _ _ (call (Value.ref _) _) _ _ _)); (fail_if_success (with_reducible show wpAny _ _ (eval (Expr.ListComp _ _ _ _) _) _ _ _)); (first | (k_unfold; (try dsimp only)) | (k_end; wrow_close) | walk1 | (dsimp only; walk1) | (leave1; walk_say "STEP leave1"; try dsimp only) | fail "no step")))
          (refine' Ctr.use ?k1 ?k2 ?k3 ?k4 ?k5 ?k6 (make_white_c R h1 h2) ?k7 ?k8 ?_; (case k1 => k_asm); (case k2 => k_asm); (case k3 => k_asm); (case k4 => k_asm); (case k5 => k_asm); (case k6 => first | exact rfl | assumption); (case k7 => ktr_room); (case k8 => ktr_units))
          rintro r9 l9 h9 tk9 F9 N9 ⟨rfl, R3, K3⟩
          (try dsimp only); (try k_fold)
          (repeat' ((fail_if_success (with_reducible show wpAny _ _ (exec (Stmt.While _ _ _ _) _) _ _ _)); (fail_if_success (with_reducible show wpAny _ _ (exec (Stmt.For _ _ _ _ _) _) _ _ _)); (fail_if_success (with_reducible show wpAny _ _ (pyIter (Value.ref _)) _ _ _)); (fail_if_success (with_reducible show wpAny _ _ (call (Value.ref _) _) _ _ _)); (fail_if_success (with_reducible show wpAny _ _ (eval (Expr.ListComp _ _ _ _) _) _ _ _)); (first | (k_unfold; (try dsimp only)) | (k_end; wrow_close) | walk1 | (dsimp only; walk1) | (leave1; walk_say "STEP leave1"; try dsimp only) | fail "no step")))
          refine hret _ _ _ _ (by k_asm) (by k_asm) ⟨rfl, by rw [barW, if_pos ⟨hc, hb', hb2'⟩]; exact R3, by rw [barW, if_pos ⟨hc, hb', hb2'⟩]; exact K3⟩
        · (repeat' ((fail_if_success (with_reducible show wpAny _ _ (exec (Stmt.While _ _ _ _) _) _ _ _)); (fail_if_success (with_reducible show wpAny _ _ (exec (Stmt.For _ _ _ _ _) _) _ _ _)); (fail_if_success (with_reducible show wpAny _ _ (pyIter (Value.ref _)) _ _ _)); (fail_if_success (with_reducible show wpAny _ _ (call (Value.ref _) _) _ _ _)); (fail_if_success (with_reducible show wpAny _ _ (eval (Expr.ListComp _ _ _ _) _) _ _ _)); (first | (k_unfold; (try dsimp only)) | (k_end; wrow_close) | walk1 | (dsimp only; walk1) | (leave1; walk_say "STEP leave1"; try dsimp only) | fail "no step")))
          (refine' Ctr.use ?k1 ?k2 ?k3 ?k4 ?k5 ?k6 (mark_c R h3 h4 (by omega)) ?k7 ?k8 ?_; (case k1 => k_asm); (case k2 => k_asm); (case k3 => k_asm); (case k4 => k_asm); (case k5 => k_asm); (case k6 => first | exact rfl | assumption); (case k7 => ktr_room); (case k8 => ktr_units))
          rintro r9 l9 h9 tk9 F9 N9 ⟨rfl, R3, K3⟩
          (try dsimp only); (try k_fold)
          (repeat' ((fail_if_success (with_reducible show wpAny _ _ (exec (Stmt.While _ _ _ _) _) _ _ _)); (fail_if_success (with_reducible show wpAny _ _ (exec (Stmt.For _ _ _ _ _) _) _ _ _)); (fail_if_success (with_reducible show wpAny _ _ (pyIter (Value.ref _)) _ _ _)); (fail_if_success (with_reducible show wpAny _ _ (call (Value.ref _) _) _ _ _)); (fail_if_success (with_reducible show wpAny _ _ (eval (Expr.ListComp _ _ _ _) _) _ _ _)); (first | (k_unfold; (try dsimp only)) | (k_end; wrow_close) | walk1 | (dsimp only; walk1) | (leave1; walk_say "STEP leave1"; try dsimp only) | fail "no step")))
          refine hret _ _ _ _ (by k_asm) (by k_asm) ⟨rfl, by rw [barW, if_pos ⟨hc, hb', hb2'⟩]; exact R3, by rw [barW, if_pos ⟨hc, hb', hb2'⟩]; exact K3⟩
      · have hb2' : W.mark j ≠ W.white := by
          rcases hb2.mp rfl with q | q
          · omega
          · exact q.2
        (repeat' ((fail_if_success (with_reducible show wpAny _ _ (exec (Stmt.While _ _ _ _) _) _ _ _)); (fail_if_success (with_reducible show wpAny _ _ (exec (Stmt.For _ _ _ _ _) _) _ _ _)); (fail_if_success (with_reducible show wpAny _ _ (pyIter (Value.ref _)) _ _ _)); (fail_if_success (with_reducible show wpAny _ _ (call (Value.ref _) _) _ _ _)); (fail_if_success (with_reducible show wpAny _ _ (eval (Expr.ListComp _ _ _ _) _) _ _ _)); (first | (k_unfold; (try dsimp only)) | (k_end; wrow_close) | walk1 | (dsimp only; walk1) | (leave1; walk_say "STEP leave1"; try dsimp only) | fail "no step")))
        refine hret _ _ _ _ (by k_asm) (by k_asm) ⟨rfl, by rw [barW, if_neg (fun q => hb2' q.2.2)]; exact R, by rw [barW, if_neg (fun q => hb2' q.2.2)]; exact Keep.refl⟩
end
end
section
section
variable {w : World} {p : Program} {loose : List Str} {mean : ExcName → Option Value} {mg mb : Str → Option Value} {W : St} {f : Fix} {m : Mut} {l : Led} {i : Nat}
theorem marks_wrong_c (R : Rep w W f m l) (hW : WF W) (h : ∀ j ∈ W.kept, W.mark j = 3 → ∀ c ∈ W.edges j, ¬ W.mark c < 2) {a : Addr} {ep : Nat} (ha : Loc W.n f m l a (PySem.W.listOf (refs f W.kept).toArray ep)) :
   Ctr w p loose mean mg mb 133 [.ref f.mi, .ref a] l 8 (fun r l' => ∃ b, r = .ref b ∧ Rep w W f m l' ∧ Loc W.n f m l' b (PySem.W.listOf #[] 0) ∧ Keep W.n f m l W.n f m l') := by
  unfold Ctr; k_fill; intro dp un gd cn cs a ccd cl outer A₀ base h₀ L mF s Q E B F X N T hk hdp hun hret; k_dflt ktr_enter
  (repeat' ((fail_if_success (with_reducible show wpAny _ _ (exec (Stmt.While _ _ _ _) _) _ _ _)); (fail_if_success (with_reducible show wpAny _ _ (exec (Stmt.For _ _ _ _ _) _) _ _ _)); (fail_if_success (with_reducible show wpAny _ _ (pyIter (Value.ref _)) _ _ _)); (fail_if_success (with_reducible show wpAny _ _ (call (Value.ref _) _) _ _ _)); (fail_if_success (with_reducible show wpAny _ _ (eval (Expr.ListComp _ _ _ _) _) _ _ _)); (first | (k_unfold; (try dsimp only)) | (k_end; wrow_close) | walk1 | (dsimp only; walk1) | (leave1; walk_say "STEP leave1"; try dsimp only) | fail "no step")))
  ((rename Fr _ _ _ _ => lF'); (with_unfolding_all refine' For_invVF lF' ?k1 ?k2 ?_; (case k1 => exact rfl); (case k2 => exact rfl); k_whole))
  (repeat' ((fail_if_success (with_reducible show wpAny _ _ (exec (Stmt.While _ _ _ _) _) _ _ _)); (fail_if_success (with_reducible show wpAny _ _ (exec (Stmt.For _ _ _ _ _) _) _ _ _)); (fail_if_success (with_reducible show wpAny _ _ (pyIter (Value.ref _)) _ _ _)); (fail_if_success (with_reducible show wpAny _ _ (call (Value.ref _) _) _ _ _)); (fail_if_success (with_reducible show wpAny _ _ (eval (Expr.ListComp _ _ _ _) _) _ _ _)); (first | (k_unfold; (try dsimp only)) | (k_end; wrow_close) | walk1 | (dsimp only; walk1) | (leave1; walk_say "STEP leave1"; try dsimp only) | fail "no step")))
  rename Loc W.n f m _ _ (PySem.W.listOf #[] 0) => U9
  rename KeepNew _ _ _ _ _ _ _ _ _ => K9
  rename Rep w W f m _ => R9
  refine iter_rep (vs := refs f W.kept) (m₀ := ?M) ((_, PySem.W.listOf #[] 0) :: locsOf W.n f m l) (fun k W' f' m' mm => (∃ u v, mm = fun z => if z = Str.ofString "obj" then u else if z = Str.ofString "child" then v else ?M z) ∧ W' = W ∧ f' = f ∧ m' = m) (by rfl) (by k_asm) (by k_asm) R9 (K9.loc ha) (locs_cons U9 (locsOf_from K9.keep)) ⟨⟨_, _, upd_self2 _ (by decide)⟩, rfl, rfl, rfl⟩ ?_ ?_
  · rintro k v W' f' m' mm l2 h2 tk2 I oI hv ⟨⟨u, v1, rfl⟩, rfl, rfl, rfl⟩ R2 ha hl hI F2 N2
    simp only [refs, List.getElem?_map] at hv
    obtain ⟨j, hj, rfl⟩ := Option.map_eq_some_iff.mp hv
    have hjk := List.mem_of_getElem? hj
    have hj1 := (hW.hk j hjk).1
    have hj2 := (hW.hk j hjk).2
    (repeat' ((fail_if_success (with_reducible show wpAny _ _ (exec (Stmt.While _ _ _ _) _) _ _ _)); (fail_if_success (with_reducible show wpAny _ _ (exec (Stmt.For _ _ _ _ _) _) _ _ _)); (fail_if_success (with_reducible show wpAny _ _ (pyIter (Value.ref _)) _ _ _)); (fail_if_success (with_reducible show wpAny _ _ (call (Value.ref _) _) _ _ _)); (fail_if_success (with_reducible show wpAny _ _ (eval (Expr.ListComp _ _ _ _) _) _ _ _)); (first | (k_unfold; (try dsimp only)) | (k_end; wrow_close) | walk1 | (dsimp only; walk1) | (leave1; walk_say "STEP leave1"; try dsimp only) | fail "no step")))
    · have h3 : W'.mark j = 3 := by assumption
      ((rename Fr _ _ _ _ => lF'); (with_unfolding_all refine' For_invVF lF' ?k1 ?k2 ?_; (case k1 => exact rfl); (case k2 => exact rfl); k_whole))
      (repeat' ((fail_if_success (with_reducible show wpAny _ _ (exec (Stmt.While _ _ _ _) _) _ _ _)); (fail_if_success (with_reducible show wpAny _ _ (exec (Stmt.For _ _ _ _ _) _) _ _ _)); (fail_if_success (with_reducible show wpAny _ _ (pyIter (Value.ref _)) _ _ _)); (fail_if_success (with_reducible show wpAny _ _ (call (Value.ref _) _) _ _ _)); (fail_if_success (with_reducible show wpAny _ _ (eval (Expr.ListComp _ _ _ _) _) _ _ _)); (first | (k_unfold; (try dsimp only)) | (k_end; wrow_close) | walk1 | (dsimp only; walk1) | (leave1; walk_say "STEP leave1"; try dsimp only) | fail "no step")))
      (refine' Ctr.use ?k1 ?k2 ?k3 ?k4 ?k5 ?k6 (children_c R2 hj1 hj2 (fun c hc => hW.he j c hc) (Nat.le_trans (hW.hel j) (by omega)) (Nat.le_trans hW.hn (by omega))) ?k7 ?k8 ?_; (case k1 => k_asm); (case k2 => k_asm); (case k3 => k_asm); (case k4 => k_asm); (case k5 => k_asm); (case k6 => first | exact rfl | assumption); (case k7 => ktr_room); (case k8 => ktr_units))
      rintro r9 l9 h9 tk9 F9 N9 ⟨a1, ep1, rfl, R3, U3, K3⟩
      (try dsimp only); (try k_fold)
      refine iter_rep (vs := refs f' (W'.edges j)) (m₀ := ?M2) ((I, oI) :: (_, PySem.W.listOf (refs f' W'.kept).toArray ep) :: (_, PySem.W.listOf #[] 0) :: locsOf W'.n f' m' l) (fun k W2 f2 m2 mm => (∃ u, mm = fun z => if z = Str.ofString "child" then u else ?M2 z) ∧ W2 = W' ∧ f2 = f' ∧ m2 = m') (by rfl) (by k_asm) (by k_asm) R3 U3 (locs_on K3.keep (locs_cons hI (locs_cons ha hl))) ⟨⟨_, upd_self _ _⟩, rfl, rfl, rfl⟩ ?_ ?_
      · rintro k v W2 f2 m2 mm l3 h3 tk3 I2 oI2 hv2 ⟨⟨u, rfl⟩, rfl, rfl, rfl⟩ R4 ha4 hl4 hI4 F4 N4
        simp only [refs, List.getElem?_map] at hv2
        obtain ⟨c, hc, rfl⟩ := Option.map_eq_some_iff.mp hv2
        have hce := List.mem_of_getElem? hc
        (repeat' ((fail_if_success (with_reducible show wpAny _ _ (exec (Stmt.While _ _ _ _) _) _ _ _)); (fail_if_success (with_reducible show wpAny _ _ (exec (Stmt.For _ _ _ _ _) _) _ _ _)); (fail_if_success (with_reducible show wpAny _ _ (pyIter (Value.ref _)) _ _ _)); (fail_if_success (with_reducible show wpAny _ _ (call (Value.ref _) _) _ _ _)); (fail_if_success (with_reducible show wpAny _ _ (eval (Expr.ListComp _ _ _ _) _) _ _ _)); (first | (k_unfold; (try dsimp only)) | (k_end; wrow_close) | walk1 | (dsimp only; walk1) | (leave1; walk_say "STEP leave1"; try dsimp only) | fail "no step")))
        (refine' Ctr.use ?k1 ?k2 ?k3 ?k4 ?k5 ?k6 (is_white_c R4 (hW.he j c hce).1 (hW.he j c hce).2) ?k7 ?k8 ?_; (case k1 => k_asm); (case k2 => k_asm); (case k3 => k_asm); (case k4 => k_asm); (case k5 => k_asm); (case k6 => first | exact rfl | assumption); (case k7 => ktr_room); (case k8 => ktr_units))
        rintro r9 l9 h9 tk9 F9 N9 ⟨⟨b, rfl, hb⟩, rfl⟩
        (try dsimp only); (try k_fold)
        cases b
        · (repeat' ((fail_if_success (with_reducible show wpAny _ _ (exec (Stmt.While _ _ _ _) _) _ _ _)); (fail_if_success (with_reducible show wpAny _ _ (exec (Stmt.For _ _ _ _ _) _) _ _ _)); (fail_if_success (with_reducible show wpAny _ _ (pyIter (Value.ref _)) _ _ _)); (fail_if_success (with_reducible show wpAny _ _ (call (Value.ref _) _) _ _ _)); (fail_if_success (with_reducible show wpAny _ _ (eval (Expr.ListComp _ _ _ _) _) _ _ _)); (first | (k_unfold; (try dsimp only)) | (k_end; wrow_close) | walk1 | (dsimp only; walk1) | (leave1; walk_say "STEP leave1"; try dsimp only) | fail "no step")))
          exact ForPost.next (by k_asm) (by k_asm) R4 (locs_cons hI4 (locs_cons ha4 hl4)) ⟨⟨_, upd_upd _ _ _ _⟩, rfl, rfl, rfl⟩
        · exact absurd (hb.mp rfl) (h j hjk (by assumption) c hce)
      · rintro W2 f2 m2 mm l3 h3 tk3 ⟨⟨u, rfl⟩, rfl, rfl, rfl⟩ R4 ha4 hl4 F4 N4
        (repeat' ((fail_if_success (with_reducible show wpAny _ _ (exec (Stmt.While _ _ _ _) _) _ _ _)); (fail_if_success (with_reducible show wpAny _ _ (exec (Stmt.For _ _ _ _ _) _) _ _ _)); (fail_if_success (with_reducible show wpAny _ _ (pyIter (Value.ref _)) _ _ _)); (fail_if_success (with_reducible show wpAny _ _ (call (Value.ref _) _) _ _ _)); (fail_if_success (with_reducible show wpAny _ _ (eval (Expr.ListComp _ _ _ _) _) _ _ _)); (first | (k_unfold; (try dsimp only)) | (k_end; wrow_close) | walk1 | (dsimp only; walk1) | (leave1; walk_say "STEP leave1"; try dsimp only) | fail "no step")))
        exact ForPost.next (by k_asm) (by k_asm) R4 hl4 ⟨⟨_, _, upd_in _ _ _ _ _ (by decide)⟩, rfl, rfl, rfl⟩
    · (repeat' ((fail_if_success (with_reducible show wpAny _ _ (exec (Stmt.While _ _ _ _) _) _ _ _)); (fail_if_success (with_reducible show wpAny _ _ (exec (Stmt.For _ _ _ _ _) _) _ _ _)); (fail_if_success (with_reducible show wpAny _ _ (pyIter (Value.ref _)) _ _ _)); (fail_if_success (with_reducible show wpAny _ _ (call (Value.ref _) _) _ _ _)); (fail_if_success (with_reducible show wpAny _ _ (eval (Expr.ListComp _ _ _ _) _) _ _ _)); (first | (k_unfold; (try dsimp only)) | (k_end; wrow_close) | walk1 | (dsimp only; walk1) | (leave1; walk_say "STEP leave1"; try dsimp only) | fail "no step")))
      exact ForPost.next (by k_asm) (by k_asm) R2 (locs_cons hI (locs_cons ha hl)) ⟨⟨_, _, upd_2 _ _ _ _ _ _⟩, rfl, rfl, rfl⟩
  · rintro W' f' m' mm l2 h2' tk2 ⟨⟨u, v, rfl⟩, rfl, rfl, rfl⟩ R2 ha hl F2 N2
    (repeat' ((fail_if_success (with_reducible show wpAny _ _ (exec (Stmt.While _ _ _ _) _) _ _ _)); (fail_if_success (with_reducible show wpAny _ _ (exec (Stmt.For _ _ _ _ _) _) _ _ _)); (fail_if_success (with_reducible show wpAny _ _ (pyIter (Value.ref _)) _ _ _)); (fail_if_success (with_reducible show wpAny _ _ (call (Value.ref _) _) _ _ _)); (fail_if_success (with_reducible show wpAny _ _ (eval (Expr.ListComp _ _ _ _) _) _ _ _)); (first | (k_unfold; (try dsimp only)) | (k_end; wrow_close) | walk1 | (dsimp only; walk1) | (leave1; walk_say "STEP leave1"; try dsimp only) | fail "no step")))
    refine hret _ _ _ _ (by k_asm) (by k_asm) ⟨_, rfl, R2, hl _ (.head _), locsOf_keep fun q hq => hl q (.tail _ hq)⟩
end
end
section
section
variable {w : World} {p : Program} {loose : List Str} {mean : ExcName → Option Value} {mg mb : Str → Option Value} {W : St} {f : Fix} {m : Mut} {l : Led} {i : Nat}
theorem roots_c (R : Rep w W f m l) : Ctr w p loose mean mg mb 217 [.ref f.cy] l 2 (fun r l' => r = .ref m.rl ∧ l' = l) := by
  unfold Ctr; k_fill; intro dp un gd cn cs a ccd cl outer A₀ base h₀ L mF s Q E B F X N T hk hdp hun hret; k_dflt ktr_enter
  (repeat' ((fail_if_success (with_reducible show wpAny _ _ (exec (Stmt.While _ _ _ _) _) _ _ _)); (fail_if_success (with_reducible show wpAny _ _ (exec (Stmt.For _ _ _ _ _) _) _ _ _)); (fail_if_success (with_reducible show wpAny _ _ (pyIter (Value.ref _)) _ _ _)); (fail_if_success (with_reducible show wpAny _ _ (call (Value.ref _) _) _ _ _)); (fail_if_success (with_reducible show wpAny _ _ (eval (Expr.ListComp _ _ _ _) _) _ _ _)); (first | (k_unfold; (try dsimp only)) | (k_end; wrow_close) | walk1 | (dsimp only; walk1) | (leave1; walk_say "STEP leave1"; try dsimp only) | fail "no step")))
  refine hret _ _ _ _ (by k_asm) (by k_asm) ⟨rfl, rfl⟩
theorem late_roots_c (R : Rep w W f m l) {v : Value} : Ctr w p loose mean mg mb 224 [.ref f.cy, v] l 4 (fun r l' => r = .ref m.rl ∧ l' = l) := by
  unfold Ctr; k_fill; intro dp un gd cn cs a ccd cl outer A₀ base h₀ L mF s Q E B F X N T hk hdp hun hret; k_dflt ktr_enter
  (repeat' ((fail_if_success (with_reducible show wpAny _ _ (exec (Stmt.While _ _ _ _) _) _ _ _)); (fail_if_success (with_reducible show wpAny _ _ (exec (Stmt.For _ _ _ _ _) _) _ _ _)); (fail_if_success (with_reducible show wpAny _ _ (pyIter (Value.ref _)) _ _ _)); (fail_if_success (with_reducible show wpAny _ _ (call (Value.ref _) _) _ _ _)); (fail_if_success (with_reducible show wpAny _ _ (eval (Expr.ListComp _ _ _ _) _) _ _ _)); (first | (k_unfold; (try dsimp only)) | (k_end; wrow_close) | walk1 | (dsimp only; walk1) | (leave1; walk_say "STEP leave1"; try dsimp only) | fail "no step")))
  (refine' Ctr.use ?k1 ?k2 ?k3 ?k4 ?k5 ?k6 (roots_c R) ?k7 ?k8 ?_; (case k1 => k_asm); (case k2 => k_asm); (case k3 => k_asm); (case k4 => k_asm); (case k5 => k_asm); (case k6 => first | exact rfl | assumption); (case k7 => ktr_room); (case k8 => ktr_units))
  rintro r9 l9 h9 tk9 F9 N9 ⟨rfl, rfl⟩
  (try dsimp only); (try k_fold)
  (repeat' ((fail_if_success (with_reducible show wpAny _ _ (exec (Stmt.While _ _ _ _) _) _ _ _)); (fail_if_success (with_reducible show wpAny _ _ (exec (Stmt.For _ _ _ _ _) _) _ _ _)); (fail_if_success (with_reducible show wpAny _ _ (pyIter (Value.ref _)) _ _ _)); (fail_if_success (with_reducible show wpAny _ _ (call (Value.ref _) _) _ _ _)); (fail_if_success (with_reducible show wpAny _ _ (eval (Expr.ListComp _ _ _ _) _) _ _ _)); (first | (k_unfold; (try dsimp only)) | (k_end; wrow_close) | walk1 | (dsimp only; walk1) | (leave1; walk_say "STEP leave1"; try dsimp only) | fail "no step")))
  refine hret _ _ _ _ (by k_asm) (by k_asm) ⟨rfl, rfl⟩
theorem at_end_c (R : Rep w W f m l) : Ctr w p loose mean mg mb 238 [.ref f.cy] l 2 (fun r l' => (∃ t, r = .int 0 t) ∧ l' = l) := by
  unfold Ctr; k_fill; intro dp un gd cn cs a ccd cl outer A₀ base h₀ L mF s Q E B F X N T hk hdp hun hret; k_dflt ktr_enter
  (repeat' ((fail_if_success (with_reducible show wpAny _ _ (exec (Stmt.While _ _ _ _) _) _ _ _)); (fail_if_success (with_reducible show wpAny _ _ (exec (Stmt.For _ _ _ _ _) _) _ _ _)); (fail_if_success (with_reducible show wpAny _ _ (pyIter (Value.ref _)) _ _ _)); (fail_if_success (with_reducible show wpAny _ _ (call (Value.ref _) _) _ _ _)); (fail_if_success (with_reducible show wpAny _ _ (eval (Expr.ListComp _ _ _ _) _) _ _ _)); (first | (k_unfold; (try dsimp only)) | (k_end; wrow_close) | walk1 | (dsimp only; walk1) | (leave1; walk_say "STEP leave1"; try dsimp only) | fail "no step")))
  refine hret _ _ _ _ (by k_asm) (by k_asm) ⟨⟨_, rfl⟩, rfl⟩
theorem is_kept_c (R : Rep w W f m l) (h1 : 1 ≤ i) (h2 : i ≤ W.n) : Ctr w p loose mean mg mb 210 [.ref f.cy, .ref (f.x i)] l 2 (fun r l' => (∃ b, r = .bool b ∧ (b = true ↔ i ∈ W.kept)) ∧ l' = l) := by
  unfold Ctr; k_fill; intro dp un gd cn cs a ccd cl outer A₀ base h₀ L mF s Q E B F X N T hk hdp hun hret; k_dflt ktr_enter
  (repeat' ((fail_if_success (with_reducible show wpAny _ _ (exec (Stmt.While _ _ _ _) _) _ _ _)); (fail_if_success (with_reducible show wpAny _ _ (exec (Stmt.For _ _ _ _ _) _) _ _ _)); (fail_if_success (with_reducible show wpAny _ _ (pyIter (Value.ref _)) _ _ _)); (fail_if_success (with_reducible show wpAny _ _ (call (Value.ref _) _) _ _ _)); (fail_if_success (with_reducible show wpAny _ _ (eval (Expr.ListComp _ _ _ _) _) _ _ _)); (first | (k_unfold; (try dsimp only)) | (k_end; wrow_close) | walk1 | (dsimp only; walk1) | (leave1; walk_say "STEP leave1"; try dsimp only) | fail "no step")))
  refine hret _ _ _ _ (by k_asm) (by k_asm) ⟨⟨_, rfl, by assumption⟩, rfl⟩
theorem finalize_c (R : Rep w W f m l) {v : Value} : Ctr w p loose mean mg mb 266 [.ref f.cy, v] l 2 (fun r l' => (∃ k t, r = .int k t) ∧ ∃ W', W' = ((W.setPhase 0).setDebt 0).setCyc (W.cyc + 1) ∧ Rep w W' f m l' ∧ Keep W.n f m l W'.n f m l') := by
  unfold Ctr; k_fill; intro dp un gd cn cs a ccd cl outer A₀ base h₀ L mF s Q E B F X N T hk hdp hun hret; k_dflt ktr_enter
  (repeat' ((fail_if_success (with_reducible show wpAny _ _ (exec (Stmt.While _ _ _ _) _) _ _ _)); (fail_if_success (with_reducible show wpAny _ _ (exec (Stmt.For _ _ _ _ _) _) _ _ _)); (fail_if_success (with_reducible show wpAny _ _ (pyIter (Value.ref _)) _ _ _)); (fail_if_success (with_reducible show wpAny _ _ (call (Value.ref _) _) _ _ _)); (fail_if_success (with_reducible show wpAny _ _ (eval (Expr.ListComp _ _ _ _) _) _ _ _)); (first | (k_unfold; (try dsimp only)) | (k_end; wrow_close) | walk1 | (dsimp only; walk1) | (leave1; walk_say "STEP leave1"; try dsimp only) | fail "no step")))
  refine hret _ _ _ _ (by k_asm) (by k_asm) ⟨⟨_, _, rfl⟩, _, rfl, by assumption, by walk_at "mine keep"⟩
theorem mark_roots_c (R : Rep w W f m l) (hW : WF W) : Ctr w p loose mean mg mb 231 [.ref f.cy] l 14 (fun r l' => r = .none ∧ ∃ W' m', W' = (beginL (W.setGrey []) W.rlist).setPhase 1 ∧ Rep w W' f m' l' ∧ Keep W.n f m l W'.n f m' l' ∧ m'.rl = m.rl ∧ m'.ts = m.ts) := by
  unfold Ctr; k_fill; intro dp un gd cn cs a ccd cl outer A₀ base h₀ L mF s Q E B F X N T hk hdp hun hret; k_dflt ktr_enter
  (repeat' ((fail_if_success (with_reducible show wpAny _ _ (exec (Stmt.While _ _ _ _) _) _ _ _)); (fail_if_success (with_reducible show wpAny _ _ (exec (Stmt.For _ _ _ _ _) _) _ _ _)); (fail_if_success (with_reducible show wpAny _ _ (pyIter (Value.ref _)) _ _ _)); (fail_if_success (with_reducible show wpAny _ _ (call (Value.ref _) _) _ _ _)); (fail_if_success (with_reducible show wpAny _ _ (eval (Expr.ListComp _ _ _ _) _) _ _ _)); (first | (k_unfold; (try dsimp only)) | (k_end; wrow_close) | walk1 | (dsimp only; walk1) | (leave1; walk_say "STEP leave1"; try dsimp only) | fail "no step")))
  (refine' Ctr.use ?k1 ?k2 ?k3 ?k4 ?k5 ?k6 (roots_c R) ?k7 ?k8 ?_; (case k1 => k_asm); (case k2 => k_asm); (case k3 => k_asm); (case k4 => k_asm); (case k5 => k_asm); (case k6 => first | exact rfl | assumption); (case k7 => ktr_room); (case k8 => ktr_units))
  rintro r9 l9 h9 tk9 F9 N9 ⟨rfl, rfl⟩
  (try dsimp only); (try k_fold)
  (repeat' ((fail_if_success (with_reducible show wpAny _ _ (exec (Stmt.While _ _ _ _) _) _ _ _)); (fail_if_success (with_reducible show wpAny _ _ (exec (Stmt.For _ _ _ _ _) _) _ _ _)); (fail_if_success (with_reducible show wpAny _ _ (pyIter (Value.ref _)) _ _ _)); (fail_if_success (with_reducible show wpAny _ _ (call (Value.ref _) _) _ _ _)); (fail_if_success (with_reducible show wpAny _ _ (eval (Expr.ListComp _ _ _ _) _) _ _ _)); (first | (k_unfold; (try dsimp only)) | (k_end; wrow_close) | walk1 | (dsimp only; walk1) | (leave1; walk_say "STEP leave1"; try dsimp only) | fail "no step")))
  (refine' Ctr.use ?k1 ?k2 ?k3 ?k4 ?k5 ?k6 (begin_c R hW) ?k7 ?k8 ?_; (case k1 => k_asm); (case k2 => k_asm); (case k3 => k_asm); (case k4 => k_asm); (case k5 => k_asm); (case k6 => first | exact rfl | assumption); (case k7 => ktr_room); (case k8 => ktr_units))
  rintro r9 l9 h9 tk9 F9 N9 ⟨rfl, m1, R1, K1, e1, e2⟩
  (try dsimp only); (try k_fold)
  (repeat' ((fail_if_success (with_reducible show wpAny _ _ (exec (Stmt.While _ _ _ _) _) _ _ _)); (fail_if_success (with_reducible show wpAny _ _ (exec (Stmt.For _ _ _ _ _) _) _ _ _)); (fail_if_success (with_reducible show wpAny _ _ (pyIter (Value.ref _)) _ _ _)); (fail_if_success (with_reducible show wpAny _ _ (call (Value.ref _) _) _ _ _)); (fail_if_success (with_reducible show wpAny _ _ (eval (Expr.ListComp _ _ _ _) _) _ _ _)); (first | (k_unfold; (try dsimp only)) | (k_end; wrow_close) | walk1 | (dsimp only; walk1) | (leave1; walk_say "STEP leave1"; try dsimp only) | fail "no step")))
  refine hret _ _ _ _ (by k_asm) (by k_asm) ⟨rfl, _, _, rfl, by assumption, by walk_at "mine keep", by exact e1, by exact e2⟩
theorem next_thr_c {a : Int} {t u : Tok} : Ctr w p loose mean mg mb 168 [.int a t, .int 200 u] l 2 (fun r l' => (∃ k t, r = .int k t) ∧ l' = l) := by
  unfold Ctr; k_fill; intro dp un gd cn cs a ccd cl outer A₀ base h₀ L mF s Q E B F X N T hk hdp hun hret; k_dflt ktr_enter
  (repeat' ((fail_if_success (with_reducible show wpAny _ _ (exec (Stmt.While _ _ _ _) _) _ _ _)); (fail_if_success (with_reducible show wpAny _ _ (exec (Stmt.For _ _ _ _ _) _) _ _ _)); (fail_if_success (with_reducible show wpAny _ _ (pyIter (Value.ref _)) _ _ _)); (fail_if_success (with_reducible show wpAny _ _ (call (Value.ref _) _) _ _ _)); (fail_if_success (with_reducible show wpAny _ _ (eval (Expr.ListComp _ _ _ _) _) _ _ _)); (first | (k_unfold; (try dsimp only)) | (k_end; wrow_close) | walk1 | (dsimp only; walk1) | (leave1; walk_say "STEP leave1"; try dsimp only) | fail "no step")))
  refine hret _ _ _ _ (by k_asm) (by k_asm) ⟨⟨_, _, rfl⟩, rfl⟩
theorem set_thr_c (R : Rep w W f m l) : Ctr w p loose mean mg mb 280 [.ref f.cy] l 4 (fun r l' => r = .none ∧ ∃ v, Rep w (W.setThr v) f m l' ∧ Keep W.n f m l (W.setThr v).n f m l') := by
  unfold Ctr; k_fill; intro dp un gd cn cs a ccd cl outer A₀ base h₀ L mF s Q E B F X N T hk hdp hun hret; k_dflt ktr_enter
  (repeat' ((fail_if_success (with_reducible show wpAny _ _ (exec (Stmt.While _ _ _ _) _) _ _ _)); (fail_if_success (with_reducible show wpAny _ _ (exec (Stmt.For _ _ _ _ _) _) _ _ _)); (fail_if_success (with_reducible show wpAny _ _ (pyIter (Value.ref _)) _ _ _)); (fail_if_success (with_reducible show wpAny _ _ (call (Value.ref _) _) _ _ _)); (fail_if_success (with_reducible show wpAny _ _ (eval (Expr.ListComp _ _ _ _) _) _ _ _)); (first | (k_unfold; (try dsimp only)) | (k_end; wrow_close) | walk1 | (dsimp only; walk1) | (leave1; walk_say "STEP leave1"; try dsimp only) | fail "no step")))
  (refine' Ctr.use ?k1 ?k2 ?k3 ?k4 ?k5 ?k6 (next_thr_c) ?k7 ?k8 ?_; (case k1 => k_asm); (case k2 => k_asm); (case k3 => k_asm); (case k4 => k_asm); (case k5 => k_asm); (case k6 => first | exact rfl | assumption); (case k7 => ktr_room); (case k8 => ktr_units))
  rintro r9 l9 h9 tk9 F9 N9 ⟨⟨k, t, rfl⟩, rfl⟩
  (try dsimp only); (try k_fold)
  (repeat' ((fail_if_success (with_reducible show wpAny _ _ (exec (Stmt.While _ _ _ _) _) _ _ _)); (fail_if_success (with_reducible show wpAny _ _ (exec (Stmt.For _ _ _ _ _) _) _ _ _)); (fail_if_success (with_reducible show wpAny _ _ (pyIter (Value.ref _)) _ _ _)); (fail_if_success (with_reducible show wpAny _ _ (call (Value.ref _) _) _ _ _)); (fail_if_success (with_reducible show wpAny _ _ (eval (Expr.ListComp _ _ _ _) _) _ _ _)); (first | (k_unfold; (try dsimp only)) | (k_end; wrow_close) | walk1 | (dsimp only; walk1) | (leave1; walk_say "STEP leave1"; try dsimp only) | fail "no step")))
  refine hret _ _ _ _ (by k_asm) (by k_asm) ⟨rfl, _, by assumption, by walk_at "mine keep"⟩
theorem free_c (R : Rep w W f m l) (hW : WF W) (hi : i ∈ W.kept) : Ctr w p loose mean mg mb 252 [.ref f.cy, .ref (f.x i)] l 2 (fun r l' => r = .none ∧ ∃ W', W' = ((W.setKept (W.kept.filter (fun j => j ≠ i))).setTotal (W.total - W.size i)).setMark i 4 ∧ Rep w W' f m l' ∧ Keep W.n f m l W'.n f m l') := by
  have h1 := (hW.hk i hi).1
  have h2 := (hW.hk i hi).2
  have hkl := hW.kl
  unfold Ctr; k_fill; intro dp un gd cn cs a ccd cl outer A₀ base h₀ L mF s Q E B F X N T hk hdp hun hret; k_dflt ktr_enter
  (repeat' ((fail_if_success (with_reducible show wpAny _ _ (exec (Stmt.While _ _ _ _) _) _ _ _)); (fail_if_success (with_reducible show wpAny _ _ (exec (Stmt.For _ _ _ _ _) _) _ _ _)); (fail_if_success (with_reducible show wpAny _ _ (pyIter (Value.ref _)) _ _ _)); (fail_if_success (with_reducible show wpAny _ _ (call (Value.ref _) _) _ _ _)); (fail_if_success (with_reducible show wpAny _ _ (eval (Expr.ListComp _ _ _ _) _) _ _ _)); (first | (k_unfold; (try dsimp only)) | (k_end; wrow_close) | walk1 | (dsimp only; walk1) | (leave1; walk_say "STEP leave1"; try dsimp only) | fail "no step")))
  refine hret _ _ _ _ (by k_asm) (by k_asm) ⟨rfl, _, rfl, by assumption, by walk_at "mine keep"⟩
end
end
section
section
variable {w : World} {p : Program} {loose : List Str} {mean : ExcName → Option Value} {mg mb : Str → Option Value} {W : St} {f : Fix} {m : Mut} {l : Led} {i : Nat}
theorem sweep_some_c (R : Rep w W f m l) (hW : WF W) (hg : W.grey = []) {q1 q2 q3 : Addr} {t1 : Tok} (h1 : Loc W.n f m l q1 (methodObj (.ref 49) (.ref f.mi))) (h2 : Loc W.n f m l q2 (methodObj (.ref 252) (.ref f.cy))) (h3 : Loc W.n f m l q3 (methodObj (.ref 56) (.ref f.mi))) :
   Ctr w p loose mean mg mb 147 [.ref m.ts, .ref f.od, .int 16 t1, .ref q1, .ref q2, .ref q3] l 8 (fun r l' => (∃ k t, r = .int k t) ∧ ∃ k W', Swp k W W' ∧ (W'.sweep = [] ∨ 16 ≤ k) ∧ Rep w W' f m l' ∧ Keep W.n f m l W'.n f m l') := by
  unfold Ctr; k_fill; intro dp un gd cn cs a ccd cl outer A₀ base h₀ L mF s Q E B F X N T hk hdp hun hret; k_dflt ktr_enter
  (repeat' ((fail_if_success (with_reducible show wpAny _ _ (exec (Stmt.While _ _ _ _) _) _ _ _)); (fail_if_success (with_reducible show wpAny _ _ (exec (Stmt.For _ _ _ _ _) _) _ _ _)); (fail_if_success (with_reducible show wpAny _ _ (pyIter (Value.ref _)) _ _ _)); (fail_if_success (with_reducible show wpAny _ _ (call (Value.ref _) _) _ _ _)); (fail_if_success (with_reducible show wpAny _ _ (eval (Expr.ListComp _ _ _ _) _) _ _ _)); (first | (k_unfold; (try dsimp only)) | (k_end; wrow_close) | walk1 | (dsimp only; walk1) | (leave1; walk_say "STEP leave1"; try dsimp only) | fail "no step")))
  refine while_rep (m₀ := ?M) (n₀ := W.sweep.length) (locsOf W.n f m l) (fun n W' f' m' mm => (∃ k t u, mm = (fun z => if z = Str.ofString "many" then some (.int ((k : Nat) : Int) t) else if z = Str.ofString "obj" then u else ?M z) ∧ Swp k W W') ∧ n = W'.sweep.length ∧ f' = f ∧ m' = m) (by k_asm) (by k_asm) R locsOf_start ⟨⟨0, _, _, upd_self2 ?M (x := Str.ofString "many") (y := Str.ofString "obj") (by decide), .refl⟩, rfl, rfl, rfl⟩ ?_
  rintro n W' f' m' mm l2 h2' tk2 ⟨⟨k, t, u, rfl, hp⟩, rfl, rfl, rfl⟩ R2 hl F2 N2
  obtain ⟨hW2, hg2, hn2, hr2, hs2⟩ := hp.facts hW hg
  have hsl := hW2.hs
  have hK := locsOf_keep hl
  have hq1 := hK _ _ h1
  have hq2 := hK _ _ h2
  have hq3 := hK _ _ h3
  (repeat' ((fail_if_success (with_reducible show wpAny _ _ (exec (Stmt.While _ _ _ _) _) _ _ _)); (fail_if_success (with_reducible show wpAny _ _ (exec (Stmt.For _ _ _ _ _) _) _ _ _)); (fail_if_success (with_reducible show wpAny _ _ (pyIter (Value.ref _)) _ _ _)); (fail_if_success (with_reducible show wpAny _ _ (call (Value.ref _) _) _ _ _)); (fail_if_success (with_reducible show wpAny _ _ (eval (Expr.ListComp _ _ _ _) _) _ _ _)); (first | (k_unfold; (try dsimp only)) | (k_end; wrow_close) | walk1 | (dsimp only; walk1) | (leave1; walk_say "STEP leave1"; try dsimp only) | fail "no step")))
  · rcases List.eq_nil_or_concat W'.sweep with e | ⟨ns, i, e⟩
    · have : (0 : Int) < W'.sweep.length := by assumption
      rw [e] at this; exact absurd this (by simp)
    · rw [List.concat_eq_append] at e
      have hnl : ns.length + 1 = W'.sweep.length := by rw [e]; simp
      (repeat' ((fail_if_success (with_reducible show wpAny _ _ (exec (Stmt.While _ _ _ _) _) _ _ _)); (fail_if_success (with_reducible show wpAny _ _ (exec (Stmt.For _ _ _ _ _) _) _ _ _)); (fail_if_success (with_reducible show wpAny _ _ (pyIter (Value.ref _)) _ _ _)); (fail_if_success (with_reducible show wpAny _ _ (call (Value.ref _) _) _ _ _)); (fail_if_success (with_reducible show wpAny _ _ (eval (Expr.ListComp _ _ _ _) _) _ _ _)); (first | (k_unfold; (try dsimp only)) | (k_end; wrow_close) | walk1 | (dsimp only; walk1) | (leave1; walk_say "STEP leave1"; try dsimp only) | fail "no step")))
      · have hk : i ∈ W'.kept := by assumption
        have hi1 := (hW2.hk i hk).1
        have hi2 := (hW2.hk i hk).2
        have hW3 : WF (W'.setSweep ns) := hW2.setSweep (by omega)
        (refine' Ctr.useM ?k1 ?k2 ?k3 ?k4 ?k5 ?k6 ?kq (is_dead_c (W := W'.setSweep ns) (by assumption) hi1 hi2) ?k7 ?k8 ?_; (case k1 => k_asm); (case k2 => k_asm); (case k3 => k_asm); (case k4 => k_asm); (case k5 => k_asm); (case k6 => first | exact rfl | assumption); (case kq => k_mem); (case k7 => ktr_room); (case k8 => ktr_units))
        rintro r9 l9 h9 tk9 F9 N9 ⟨⟨b, rfl, hb⟩, rfl⟩
        (try dsimp only); (try k_fold)
        cases b
        · have hd : ¬ Dead (W'.setSweep ns) i := fun q => by simpa using hb.mpr q
          (repeat' ((fail_if_success (with_reducible show wpAny _ _ (exec (Stmt.While _ _ _ _) _) _ _ _)); (fail_if_success (with_reducible show wpAny _ _ (exec (Stmt.For _ _ _ _ _) _) _ _ _)); (fail_if_success (with_reducible show wpAny _ _ (pyIter (Value.ref _)) _ _ _)); (fail_if_success (with_reducible show wpAny _ _ (call (Value.ref _) _) _ _ _)); (fail_if_success (with_reducible show wpAny _ _ (eval (Expr.ListComp _ _ _ _) _) _ _ _)); (first | (k_unfold; (try dsimp only)) | (k_end; wrow_close) | walk1 | (dsimp only; walk1) | (leave1; walk_say "STEP leave1"; try dsimp only) | fail "no step")))
          (refine' Ctr.useM ?k1 ?k2 ?k3 ?k4 ?k5 ?k6 ?kq (make_white_c (W := W'.setSweep ns) (by assumption) hi1 hi2) ?k7 ?k8 ?_; (case k1 => k_asm); (case k2 => k_asm); (case k3 => k_asm); (case k4 => k_asm); (case k5 => k_asm); (case k6 => first | exact rfl | assumption); (case kq => k_mem); (case k7 => ktr_room); (case k8 => ktr_units))
          rintro r9 l9 h9 tk9 F9 N9 ⟨rfl, R3, K3⟩
          (try dsimp only); (try k_fold)
          (repeat' ((fail_if_success (with_reducible show wpAny _ _ (exec (Stmt.While _ _ _ _) _) _ _ _)); (fail_if_success (with_reducible show wpAny _ _ (exec (Stmt.For _ _ _ _ _) _) _ _ _)); (fail_if_success (with_reducible show wpAny _ _ (pyIter (Value.ref _)) _ _ _)); (fail_if_success (with_reducible show wpAny _ _ (call (Value.ref _) _) _ _ _)); (fail_if_success (with_reducible show wpAny _ _ (eval (Expr.ListComp _ _ _ _) _) _ _ _)); (first | (k_unfold; (try dsimp only)) | (k_end; wrow_close) | walk1 | (dsimp only; walk1) | (leave1; walk_say "STEP leave1"; try dsimp only) | fail "no step")))
          have e3 : sweep1 (W'.setSweep ns) i = (W'.setSweep ns).setMark i (W'.setSweep ns).white := by rw [sweep1, if_pos (show i ∈ (W'.setSweep ns).kept from hk), if_neg hd]
          rw [← e3] at R3 K3
          exact ForPost.next (by k_asm) (by k_asm) R3 (locs_on (by walk_at "mine keep") hl) ⟨ns.length, by omega, ⟨k + 1, _, _, upd_xy _ _ _ _ _ _ _, hp.step e⟩, by rw [sweep1_sweep]; rfl, rfl, rfl⟩
        · have hd : Dead (W'.setSweep ns) i := hb.mp rfl
          (repeat' ((fail_if_success (with_reducible show wpAny _ _ (exec (Stmt.While _ _ _ _) _) _ _ _)); (fail_if_success (with_reducible show wpAny _ _ (exec (Stmt.For _ _ _ _ _) _) _ _ _)); (fail_if_success (with_reducible show wpAny _ _ (pyIter (Value.ref _)) _ _ _)); (fail_if_success (with_reducible show wpAny _ _ (call (Value.ref _) _) _ _ _)); (fail_if_success (with_reducible show wpAny _ _ (eval (Expr.ListComp _ _ _ _) _) _ _ _)); (first | (k_unfold; (try dsimp only)) | (k_end; wrow_close) | walk1 | (dsimp only; walk1) | (leave1; walk_say "STEP leave1"; try dsimp only) | fail "no step")))
          (refine' Ctr.useM ?k1 ?k2 ?k3 ?k4 ?k5 ?k6 ?kq (free_c (W := W'.setSweep ns) (by assumption) hW3 hk) ?k7 ?k8 ?_; (case k1 => k_asm); (case k2 => k_asm); (case k3 => k_asm); (case k4 => k_asm); (case k5 => k_asm); (case k6 => first | exact rfl | assumption); (case kq => k_mem); (case k7 => ktr_room); (case k8 => ktr_units))
          rintro r9 l9 h9 tk9 F9 N9 ⟨rfl, W9, e9, R3, K3⟩
          (try dsimp only); (try k_fold)
          (repeat' ((fail_if_success (with_reducible show wpAny _ _ (exec (Stmt.While _ _ _ _) _) _ _ _)); (fail_if_success (with_reducible show wpAny _ _ (exec (Stmt.For _ _ _ _ _) _) _ _ _)); (fail_if_success (with_reducible show wpAny _ _ (pyIter (Value.ref _)) _ _ _)); (fail_if_success (with_reducible show wpAny _ _ (call (Value.ref _) _) _ _ _)); (fail_if_success (with_reducible show wpAny _ _ (eval (Expr.ListComp _ _ _ _) _) _ _ _)); (first | (k_unfold; (try dsimp only)) | (k_end; wrow_close) | walk1 | (dsimp only; walk1) | (leave1; walk_say "STEP leave1"; try dsimp only) | fail "no step")))
          have e3 : sweep1 (W'.setSweep ns) i = W9 := by rw [sweep1, if_pos (show i ∈ (W'.setSweep ns).kept from hk), if_pos hd, e9]; rfl
          rw [← e3] at R3 K3
          exact ForPost.next (by k_asm) (by k_asm) R3 (locs_on (by walk_at "mine keep") hl) ⟨ns.length, by omega, ⟨k + 1, _, _, upd_xy _ _ _ _ _ _ _, hp.step e⟩, by rw [sweep1_sweep]; rfl, rfl, rfl⟩
      · have hk : i ∉ W'.kept := by assumption
        have e3 : sweep1 (W'.setSweep ns) i = W'.setSweep ns := by rw [sweep1, if_neg (show i ∉ (W'.setSweep ns).kept from hk)]
        exact ForPost.next (W := sweep1 (W'.setSweep ns) i) (by k_asm) (by k_asm) (by rw [e3]; assumption) (by rw [e3]; exact locs_on (by walk_at "mine keep") hl) ⟨ns.length, by omega, ⟨k + 1, _, _, upd_xy _ _ _ _ _ _ _, hp.step e⟩, by rw [sweep1_sweep]; rfl, rfl, rfl⟩
  · have e : W'.sweep = [] := by
      have : ¬ (0 : Int) < W'.sweep.length := by assumption
      exact List.eq_nil_of_length_eq_zero (by omega)
    refine hret _ _ _ _ (by k_asm) (by k_asm) ⟨⟨_, _, rfl⟩, k, _, hp, .inl e, R2, hK⟩
  · have e : ¬ (k : Int) < 16 := by assumption
    refine hret _ _ _ _ (by k_asm) (by k_asm) ⟨⟨_, _, rfl⟩, k, _, hp, .inr (by omega), R2, hK⟩
end
end
section
section
variable {w : World} {p : Program} {loose : List Str} {mean : ExcName → Option Value} {mg mb : Str → Option Value} {W : St} {f : Fix} {m : Mut} {l : Led} {i : Nat}
theorem sweep_c (R : Rep w W f m l) (hW : WF W) (hg : W.grey = []) (hs : W.sweep.length ≤ 16) :
   Ctr w p loose mean mg mb 259 [.ref f.cy] l 14 (fun r l' => (∃ k t, r = .int k t) ∧ ∃ k W' v, Swp k W W' ∧ W'.sweep = [] ∧ Rep w ((W'.setPhase 3).setEst v) f m l' ∧ Keep W.n f m l W'.n f m l') := by
  unfold Ctr; k_fill; intro dp un gd cn cs a ccd cl outer A₀ base h₀ L mF s Q E B F X N T hk hdp hun hret; k_dflt ktr_enter
  (repeat' ((fail_if_success (with_reducible show wpAny _ _ (exec (Stmt.While _ _ _ _) _) _ _ _)); (fail_if_success (with_reducible show wpAny _ _ (exec (Stmt.For _ _ _ _ _) _) _ _ _)); (fail_if_success (with_reducible show wpAny _ _ (pyIter (Value.ref _)) _ _ _)); (fail_if_success (with_reducible show wpAny _ _ (call (Value.ref _) _) _ _ _)); (fail_if_success (with_reducible show wpAny _ _ (eval (Expr.ListComp _ _ _ _) _) _ _ _)); (first | (k_unfold; (try dsimp only)) | (k_end; wrow_close) | walk1 | (dsimp only; walk1) | (leave1; walk_say "STEP leave1"; try dsimp only) | fail "no step")))
  (refine' Ctr.use ?k1 ?k2 ?k3 ?k4 ?k5 ?k6 (sweep_some_c (W := W) (by assumption) hW hg (by walk_at "mine loc") (by walk_at "mine loc") (by walk_at "mine loc")) ?k7 ?k8 ?_; (case k1 => k_asm); (case k2 => k_asm); (case k3 => k_asm); (case k4 => k_asm); (case k5 => k_asm); (case k6 => first | exact rfl | assumption); (case k7 => ktr_room); (case k8 => ktr_units))
  rintro r9 l9 h9 tk9 F9 N9 ⟨⟨k1, t1, rfl⟩, k, W1, p1, e1, R1, K1⟩
  (try dsimp only); (try k_fold)
  have hf := p1.facts hW hg
  have e2 : W1.sweep = [] := by
    rcases e1 with e1 | e1
    · exact e1
    · exact List.eq_nil_of_length_eq_zero (by omega)
  have hsl : W1.sweep.length = 0 := by rw [e2]; rfl
  (repeat' ((fail_if_success (with_reducible show wpAny _ _ (exec (Stmt.While _ _ _ _) _) _ _ _)); (fail_if_success (with_reducible show wpAny _ _ (exec (Stmt.For _ _ _ _ _) _) _ _ _)); (fail_if_success (with_reducible show wpAny _ _ (pyIter (Value.ref _)) _ _ _)); (fail_if_success (with_reducible show wpAny _ _ (call (Value.ref _) _) _ _ _)); (fail_if_success (with_reducible show wpAny _ _ (eval (Expr.ListComp _ _ _ _) _) _ _ _)); (first | (k_unfold; (try dsimp only)) | (k_end; wrow_close) | walk1 | (dsimp only; walk1) | (leave1; walk_say "STEP leave1"; try dsimp only) | fail "no step")))
  · refine hret _ _ _ _ (by k_asm) (by k_asm) ⟨⟨_, _, rfl⟩, k, W1, _, p1, e2, by assumption, by walk_at "mine keep"⟩
  · exfalso
    have : (W1.sweep.length : Int) ≠ 0 := by assumption
    omega
theorem atomic_c (R : Rep w W f m l) (hW : WF W) {v : Value} :
   Ctr w p loose mean mg mb 245 [.ref f.cy, v] l 26 (fun r l' => r = .none ∧ ∃ W1 W2 m' v, Props W W1 ∧ W1.grey = [] ∧ Props (beginL W1 W1.rlist) W2 ∧ W2.grey = [] ∧
     Rep w ((((W2.setWhite (1 - W2.white)).setSweep W2.kept).setPhase 2).setEst v) f m' l' ∧ Keep W.n f m l W2.n f m' l' ∧ m'.rl = m.rl) := by
  unfold Ctr; k_fill; intro dp un gd cn cs a ccd cl outer A₀ base h₀ L mF s Q E B F X N T hk hdp hun hret; k_dflt ktr_enter
  (repeat' ((fail_if_success (with_reducible show wpAny _ _ (exec (Stmt.While _ _ _ _) _) _ _ _)); (fail_if_success (with_reducible show wpAny _ _ (exec (Stmt.For _ _ _ _ _) _) _ _ _)); (fail_if_success (with_reducible show wpAny _ _ (pyIter (Value.ref _)) _ _ _)); (fail_if_success (with_reducible show wpAny _ _ (call (Value.ref _) _) _ _ _)); (fail_if_success (with_reducible show wpAny _ _ (eval (Expr.ListComp _ _ _ _) _) _ _ _)); (first | (k_unfold; (try dsimp only)) | (k_end; wrow_close) | walk1 | (dsimp only; walk1) | (leave1; walk_say "STEP leave1"; try dsimp only) | fail "no step")))
  (refine' Ctr.use ?k1 ?k2 ?k3 ?k4 ?k5 ?k6 (late_roots_c R) ?k7 ?k8 ?_; (case k1 => k_asm); (case k2 => k_asm); (case k3 => k_asm); (case k4 => k_asm); (case k5 => k_asm); (case k6 => first | exact rfl | assumption); (case k7 => ktr_room); (case k8 => ktr_units))
  rintro r9 l9 h9 tk9 F9 N9 ⟨rfl, rfl⟩
  (try dsimp only); (try k_fold)
  (repeat' ((fail_if_success (with_reducible show wpAny _ _ (exec (Stmt.While _ _ _ _) _) _ _ _)); (fail_if_success (with_reducible show wpAny _ _ (exec (Stmt.For _ _ _ _ _) _) _ _ _)); (fail_if_success (with_reducible show wpAny _ _ (pyIter (Value.ref _)) _ _ _)); (fail_if_success (with_reducible show wpAny _ _ (call (Value.ref _) _) _ _ _)); (fail_if_success (with_reducible show wpAny _ _ (eval (Expr.ListComp _ _ _ _) _) _ _ _)); (first | (k_unfold; (try dsimp only)) | (k_end; wrow_close) | walk1 | (dsimp only; walk1) | (leave1; walk_say "STEP leave1"; try dsimp only) | fail "no step")))
  (refine' Ctr.use ?k1 ?k2 ?k3 ?k4 ?k5 ?k6 (finish_c R hW) ?k7 ?k8 ?_; (case k1 => k_asm); (case k2 => k_asm); (case k3 => k_asm); (case k4 => k_asm); (case k5 => k_asm); (case k6 => first | exact rfl | assumption); (case k7 => ktr_room); (case k8 => ktr_units))
  rintro r9 l9 h9 tk9 F9 N9 ⟨rfl, W1, W2, m1, p1, g1, p2, g2, R1, K1, e1, e2⟩
  (try dsimp only); (try k_fold)
  have hW1 := hW.props p1
  have hW2 := (hW1.begin hW1.hr).props p2
  have hkl := hW2.kl
  (repeat' ((fail_if_success (with_reducible show wpAny _ _ (exec (Stmt.While _ _ _ _) _) _ _ _)); (fail_if_success (with_reducible show wpAny _ _ (exec (Stmt.For _ _ _ _ _) _) _ _ _)); (fail_if_success (with_reducible show wpAny _ _ (pyIter (Value.ref _)) _ _ _)); (fail_if_success (with_reducible show wpAny _ _ (call (Value.ref _) _) _ _ _)); (fail_if_success (with_reducible show wpAny _ _ (eval (Expr.ListComp _ _ _ _) _) _ _ _)); (first | (k_unfold; (try dsimp only)) | (k_end; wrow_close) | walk1 | (dsimp only; walk1) | (leave1; walk_say "STEP leave1"; try dsimp only) | fail "no step")))
  (refine' Ctr.use ?k1 ?k2 ?k3 ?k4 ?k5 ?k6 (at_end_c (by assumption)) ?k7 ?k8 ?_; (case k1 => k_asm); (case k2 => k_asm); (case k3 => k_asm); (case k4 => k_asm); (case k5 => k_asm); (case k6 => first | exact rfl | assumption); (case k7 => ktr_room); (case k8 => ktr_units))
  rintro r9 l9 h9 tk9 F9 N9 ⟨⟨t1, rfl⟩, rfl⟩
  (try dsimp only); (try k_fold)
  (repeat' ((fail_if_success (with_reducible show wpAny _ _ (exec (Stmt.While _ _ _ _) _) _ _ _)); (fail_if_success (with_reducible show wpAny _ _ (exec (Stmt.For _ _ _ _ _) _) _ _ _)); (fail_if_success (with_reducible show wpAny _ _ (pyIter (Value.ref _)) _ _ _)); (fail_if_success (with_reducible show wpAny _ _ (call (Value.ref _) _) _ _ _)); (fail_if_success (with_reducible show wpAny _ _ (eval (Expr.ListComp _ _ _ _) _) _ _ _)); (first | (k_unfold; (try dsimp only)) | (k_end; wrow_close) | walk1 | (dsimp only; walk1) | (leave1; walk_say "STEP leave1"; try dsimp only) | fail "no step")))
  (refine' Ctr.use ?k1 ?k2 ?k3 ?k4 ?k5 ?k6 (flip_c (W := W2) (by assumption)) ?k7 ?k8 ?_; (case k1 => k_asm); (case k2 => k_asm); (case k3 => k_asm); (case k4 => k_asm); (case k5 => k_asm); (case k6 => first | exact rfl | assumption); (case k7 => ktr_room); (case k8 => ktr_units))
  rintro r9 l9 h9 tk9 F9 N9 ⟨rfl, R2, K2⟩
  (try dsimp only); (try k_fold)
  (repeat' ((fail_if_success (with_reducible show wpAny _ _ (exec (Stmt.While _ _ _ _) _) _ _ _)); (fail_if_success (with_reducible show wpAny _ _ (exec (Stmt.For _ _ _ _ _) _) _ _ _)); (fail_if_success (with_reducible show wpAny _ _ (pyIter (Value.ref _)) _ _ _)); (fail_if_success (with_reducible show wpAny _ _ (call (Value.ref _) _) _ _ _)); (fail_if_success (with_reducible show wpAny _ _ (eval (Expr.ListComp _ _ _ _) _) _ _ _)); (first | (k_unfold; (try dsimp only)) | (k_end; wrow_close) | walk1 | (dsimp only; walk1) | (leave1; walk_say "STEP leave1"; try dsimp only) | fail "no step")))
  refine hret _ _ _ _ (by k_asm) (by k_asm) ⟨rfl, W1, W2, _, _, p1, g1, p2, g2, by assumption, by walk_at "mine keep", by exact e1⟩
end
end
section
section
variable {w : World} {p : Program} {loose : List Str} {mean : ExcName → Option Value} {mg mb : Str → Option Value} {W : St} {f : Fix} {m : Mut} {l : Led} {i : Nat}
theorem single_c (R : Rep w W f m l) (h : Inv W) {v : Value} :
   Ctr w p loose mean mg mb 273 [.ref f.cy, v] l 30 (fun r l' => (∃ k t, r = .int k t) ∧ ∃ W' m', Step W W' ∧ Rep w W' f m' l' ∧ Keep W.n f m l W'.n f m' l' ∧ m'.rl = m.rl) := by
  have hgl := h.wf.gl
  unfold Ctr; k_fill; intro dp un gd cn cs a ccd cl outer A₀ base h₀ L mF s Q E B F X N T hk hdp hun hret; k_dflt ktr_enter
  (repeat' ((fail_if_success (with_reducible show wpAny _ _ (exec (Stmt.While _ _ _ _) _) _ _ _)); (fail_if_success (with_reducible show wpAny _ _ (exec (Stmt.For _ _ _ _ _) _) _ _ _)); (fail_if_success (with_reducible show wpAny _ _ (pyIter (Value.ref _)) _ _ _)); (fail_if_success (with_reducible show wpAny _ _ (call (Value.ref _) _) _ _ _)); (fail_if_success (with_reducible show wpAny _ _ (eval (Expr.ListComp _ _ _ _) _) _ _ _)); (first | (k_unfold; (try dsimp only)) | (k_end; wrow_close) | walk1 | (dsimp only; walk1) | (leave1; walk_say "STEP leave1"; try dsimp only) | fail "no step")))
  · have e : W.phase = 0 := by assumption
    (refine' Ctr.use ?k1 ?k2 ?k3 ?k4 ?k5 ?k6 (mark_roots_c R h.wf) ?k7 ?k8 ?_; (case k1 => k_asm); (case k2 => k_asm); (case k3 => k_asm); (case k4 => k_asm); (case k5 => k_asm); (case k6 => first | exact rfl | assumption); (case k7 => ktr_room); (case k8 => ktr_units))
    rintro r9 l9 h9 tk9 F9 N9 ⟨rfl, _, m1, rfl, R1, K1, er, et⟩
    (try dsimp only); (try k_fold)
    (repeat' ((fail_if_success (with_reducible show wpAny _ _ (exec (Stmt.While _ _ _ _) _) _ _ _)); (fail_if_success (with_reducible show wpAny _ _ (exec (Stmt.For _ _ _ _ _) _) _ _ _)); (fail_if_success (with_reducible show wpAny _ _ (pyIter (Value.ref _)) _ _ _)); (fail_if_success (with_reducible show wpAny _ _ (call (Value.ref _) _) _ _ _)); (fail_if_success (with_reducible show wpAny _ _ (eval (Expr.ListComp _ _ _ _) _) _ _ _)); (first | (k_unfold; (try dsimp only)) | (k_end; wrow_close) | walk1 | (dsimp only; walk1) | (leave1; walk_say "STEP leave1"; try dsimp only) | fail "no step")))
    refine hret _ _ _ _ (by k_asm) (by k_asm) ⟨⟨_, _, rfl⟩, _, _, .start e, R1, K1, er⟩
  · have e : W.phase = 1 := by assumption
    rcases List.eq_nil_or_concat W.grey with g | ⟨ns, i, g⟩
    · exfalso
      have : (0 : Int) < W.grey.length := by assumption
      rw [g] at this; exact absurd this (by simp)
    · rw [List.concat_eq_append] at g
      (refine' Ctr.use ?k1 ?k2 ?k3 ?k4 ?k5 ?k6 (propagate_c R h.wf g) ?k7 ?k8 ?_; (case k1 => k_asm); (case k2 => k_asm); (case k3 => k_asm); (case k4 => k_asm); (case k5 => k_asm); (case k6 => first | exact rfl | assumption); (case k7 => ktr_room); (case k8 => ktr_units))
      rintro r9 l9 h9 tk9 F9 N9 ⟨⟨k, t, rfl⟩, R1, K1⟩
      (try dsimp only); (try k_fold)
      (repeat' ((fail_if_success (with_reducible show wpAny _ _ (exec (Stmt.While _ _ _ _) _) _ _ _)); (fail_if_success (with_reducible show wpAny _ _ (exec (Stmt.For _ _ _ _ _) _) _ _ _)); (fail_if_success (with_reducible show wpAny _ _ (pyIter (Value.ref _)) _ _ _)); (fail_if_success (with_reducible show wpAny _ _ (call (Value.ref _) _) _ _ _)); (fail_if_success (with_reducible show wpAny _ _ (eval (Expr.ListComp _ _ _ _) _) _ _ _)); (first | (k_unfold; (try dsimp only)) | (k_end; wrow_close) | walk1 | (dsimp only; walk1) | (leave1; walk_say "STEP leave1"; try dsimp only) | fail "no step")))
      refine hret _ _ _ _ (by k_asm) (by k_asm) ⟨⟨_, _, rfl⟩, _, _, .prop e g, R1, K1, rfl⟩
  · have e : W.phase = 1 := by assumption
    have g : W.grey = [] := by
      have : ¬ (0 : Int) < W.grey.length := by assumption
      exact List.eq_nil_of_length_eq_zero (by omega)
    (refine' Ctr.use ?k1 ?k2 ?k3 ?k4 ?k5 ?k6 (atomic_c R h.wf) ?k7 ?k8 ?_; (case k1 => k_asm); (case k2 => k_asm); (case k3 => k_asm); (case k4 => k_asm); (case k5 => k_asm); (case k6 => first | exact rfl | assumption); (case k7 => ktr_room); (case k8 => ktr_units))
    rintro r9 l9 h9 tk9 F9 N9 ⟨rfl, W1, W2, m1, v1, p1, g1, p2, g2, R1, K1, er⟩
    (try dsimp only); (try k_fold)
    (repeat' ((fail_if_success (with_reducible show wpAny _ _ (exec (Stmt.While _ _ _ _) _) _ _ _)); (fail_if_success (with_reducible show wpAny _ _ (exec (Stmt.For _ _ _ _ _) _) _ _ _)); (fail_if_success (with_reducible show wpAny _ _ (pyIter (Value.ref _)) _ _ _)); (fail_if_success (with_reducible show wpAny _ _ (call (Value.ref _) _) _ _ _)); (fail_if_success (with_reducible show wpAny _ _ (eval (Expr.ListComp _ _ _ _) _) _ _ _)); (first | (k_unfold; (try dsimp only)) | (k_end; wrow_close) | walk1 | (dsimp only; walk1) | (leave1; walk_say "STEP leave1"; try dsimp only) | fail "no step")))
    refine hret _ _ _ _ (by k_asm) (by k_asm) ⟨⟨_, _, rfl⟩, _, _, .atomic e g p1 p2 g2, R1, K1, er⟩
  · have e : W.phase = 2 := by assumption
    have q := h.p2 e
    (refine' Ctr.use ?k1 ?k2 ?k3 ?k4 ?k5 ?k6 (sweep_c R h.wf q.g q.l) ?k7 ?k8 ?_; (case k1 => k_asm); (case k2 => k_asm); (case k3 => k_asm); (case k4 => k_asm); (case k5 => k_asm); (case k6 => first | exact rfl | assumption); (case k7 => ktr_room); (case k8 => ktr_units))
    rintro r9 l9 h9 tk9 F9 N9 ⟨⟨k, t, rfl⟩, k1, W1, v1, p1, e1, R1, K1⟩
    (try dsimp only); (try k_fold)
    (repeat' ((fail_if_success (with_reducible show wpAny _ _ (exec (Stmt.While _ _ _ _) _) _ _ _)); (fail_if_success (with_reducible show wpAny _ _ (exec (Stmt.For _ _ _ _ _) _) _ _ _)); (fail_if_success (with_reducible show wpAny _ _ (pyIter (Value.ref _)) _ _ _)); (fail_if_success (with_reducible show wpAny _ _ (call (Value.ref _) _) _ _ _)); (fail_if_success (with_reducible show wpAny _ _ (eval (Expr.ListComp _ _ _ _) _) _ _ _)); (first | (k_unfold; (try dsimp only)) | (k_end; wrow_close) | walk1 | (dsimp only; walk1) | (leave1; walk_say "STEP leave1"; try dsimp only) | fail "no step")))
    refine hret _ _ _ _ (by k_asm) (by k_asm) ⟨⟨_, _, rfl⟩, _, _, .sweep e p1 e1, R1, K1, rfl⟩
  · have e : W.phase = 3 := by
      have e0 : W.phase ≠ 0 := by assumption
      have e1 : W.phase ≠ 1 := by assumption
      have e2 : W.phase ≠ 2 := by assumption
      rcases h.ph with q | q | q | q
      · exact absurd q e0
      · exact absurd q e1
      · exact absurd q e2
      · exact q
    (refine' Ctr.use ?k1 ?k2 ?k3 ?k4 ?k5 ?k6 (finalize_c R) ?k7 ?k8 ?_; (case k1 => k_asm); (case k2 => k_asm); (case k3 => k_asm); (case k4 => k_asm); (case k5 => k_asm); (case k6 => first | exact rfl | assumption); (case k7 => ktr_room); (case k8 => ktr_units))
    rintro r9 l9 h9 tk9 F9 N9 ⟨⟨k, t, rfl⟩, _, rfl, R1, K1⟩
    (try dsimp only); (try k_fold)
    (repeat' ((fail_if_success (with_reducible show wpAny _ _ (exec (Stmt.While _ _ _ _) _) _ _ _)); (fail_if_success (with_reducible show wpAny _ _ (exec (Stmt.For _ _ _ _ _) _) _ _ _)); (fail_if_success (with_reducible show wpAny _ _ (pyIter (Value.ref _)) _ _ _)); (fail_if_success (with_reducible show wpAny _ _ (call (Value.ref _) _) _ _ _)); (fail_if_success (with_reducible show wpAny _ _ (eval (Expr.ListComp _ _ _ _) _) _ _ _)); (first | (k_unfold; (try dsimp only)) | (k_end; wrow_close) | walk1 | (dsimp only; walk1) | (leave1; walk_say "STEP leave1"; try dsimp only) | fail "no step")))
    refine hret _ _ _ _ (by k_asm) (by k_asm) ⟨⟨_, _, rfl⟩, _, _, .fin e, R1, K1, rfl⟩
theorem cycle_wrong_c (R : Rep w W f m l) (h : Inv W) :
   Ctr w p loose mean mg mb 343 [.ref f.cy] l 14 (fun r l' => ∃ b, r = .ref b ∧ Rep w W f m l' ∧ Loc W.n f m l' b (PySem.W.listOf #[] 0) ∧ Keep W.n f m l W.n f m l') := by
  have hkl := h.wf.kl
  unfold Ctr; k_fill; intro dp un gd cn cs a ccd cl outer A₀ base h₀ L mF s Q E B F X N T hk hdp hun hret; k_dflt ktr_enter
  (repeat' ((fail_if_success (with_reducible show wpAny _ _ (exec (Stmt.While _ _ _ _) _) _ _ _)); (fail_if_success (with_reducible show wpAny _ _ (exec (Stmt.For _ _ _ _ _) _) _ _ _)); (fail_if_success (with_reducible show wpAny _ _ (pyIter (Value.ref _)) _ _ _)); (fail_if_success (with_reducible show wpAny _ _ (call (Value.ref _) _) _ _ _)); (fail_if_success (with_reducible show wpAny _ _ (eval (Expr.ListComp _ _ _ _) _) _ _ _)); (first | (k_unfold; (try dsimp only)) | (k_end; wrow_close) | walk1 | (dsimp only; walk1) | (leave1; walk_say "STEP leave1"; try dsimp only) | fail "no step")))
  · rename Loc W.n f m _ _ (PySem.W.listOf #[] 0) => U9
    refine hret _ _ _ _ (by k_asm) (by k_asm) ⟨_, rfl, by assumption, U9, by walk_at "mine keep"⟩
  · have e : W.phase = 1 := by first | assumption | exact Decidable.of_not_not (by assumption)
    (refine' Ctr.use ?k1 ?k2 ?k3 ?k4 ?k5 ?k6 (marks_wrong_c (W := W) (by assumption) h.wf (h.p1 e).t (by walk_at "mine loc")) ?k7 ?k8 ?_; (case k1 => k_asm); (case k2 => k_asm); (case k3 => k_asm); (case k4 => k_asm); (case k5 => k_asm); (case k6 => first | exact rfl | assumption); (case k7 => ktr_room); (case k8 => ktr_units))
    rintro r9 l9 h9 tk9 F9 N9 ⟨b, rfl, R1, U1, K1⟩
    (try dsimp only); (try k_fold)
    (repeat' ((fail_if_success (with_reducible show wpAny _ _ (exec (Stmt.While _ _ _ _) _) _ _ _)); (fail_if_success (with_reducible show wpAny _ _ (exec (Stmt.For _ _ _ _ _) _) _ _ _)); (fail_if_success (with_reducible show wpAny _ _ (pyIter (Value.ref _)) _ _ _)); (fail_if_success (with_reducible show wpAny _ _ (call (Value.ref _) _) _ _ _)); (fail_if_success (with_reducible show wpAny _ _ (eval (Expr.ListComp _ _ _ _) _) _ _ _)); (first | (k_unfold; (try dsimp only)) | (k_end; wrow_close) | walk1 | (dsimp only; walk1) | (leave1; walk_say "STEP leave1"; try dsimp only) | fail "no step")))
    refine hret _ _ _ _ (by k_asm) (by k_asm) ⟨_, rfl, R1, U1, by walk_at "mine keep"⟩
end
end
section
section
variable {w : World} {p : Program} {loose : List Str} {mean : ExcName → Option Value} {mg mb : Str → Option Value} {W : St} {f : Fix} {m : Mut} {l : Led} {i : Nat}
theorem full_c (R : Rep w W f m l) (h : Inv W) (e0 : W.phase = 0) {v : Value} :
   Ctr w p loose mean mg mb 308 [.ref f.cy, v] l 36 (fun r l' => r = .none ∧ ∃ W' m', Inv W' ∧ Still W W' ∧ (∀ i ∈ W'.kept, Reach W' i) ∧ Rep w W' f m' l' ∧ Keep W.n f m l W'.n f m' l' ∧ m'.rl = m.rl) := by
  have hkl := h.wf.kl
  unfold Ctr; k_fill; intro dp un gd cn cs a ccd cl outer A₀ base h₀ L mF s Q E B F X N T hk hdp hun hret; k_dflt ktr_enter
  (repeat' ((fail_if_success (with_reducible show wpAny _ _ (exec (Stmt.While _ _ _ _) _) _ _ _)); (fail_if_success (with_reducible show wpAny _ _ (exec (Stmt.For _ _ _ _ _) _) _ _ _)); (fail_if_success (with_reducible show wpAny _ _ (pyIter (Value.ref _)) _ _ _)); (fail_if_success (with_reducible show wpAny _ _ (call (Value.ref _) _) _ _ _)); (fail_if_success (with_reducible show wpAny _ _ (eval (Expr.ListComp _ _ _ _) _) _ _ _)); (first | (k_unfold; (try dsimp only)) | (k_end; wrow_close) | walk1 | (dsimp only; walk1) | (leave1; walk_say "STEP leave1"; try dsimp only) | fail "no step")))
  · (refine' Ctr.use ?k1 ?k2 ?k3 ?k4 ?k5 ?k6 (forget_c R) ?k7 ?k8 ?_; (case k1 => k_asm); (case k2 => k_asm); (case k3 => k_asm); (case k4 => k_asm); (case k5 => k_asm); (case k6 => first | exact rfl | assumption); (case k7 => ktr_room); (case k8 => ktr_units))
    rintro r9 l9 h9 tk9 F9 N9 ⟨rfl, m1, R1, K1, er, et⟩
    (try dsimp only); (try k_fold)
    (repeat' ((fail_if_success (with_reducible show wpAny _ _ (exec (Stmt.While _ _ _ _) _) _ _ _)); (fail_if_success (with_reducible show wpAny _ _ (exec (Stmt.For _ _ _ _ _) _) _ _ _)); (fail_if_success (with_reducible show wpAny _ _ (pyIter (Value.ref _)) _ _ _)); (fail_if_success (with_reducible show wpAny _ _ (call (Value.ref _) _) _ _ _)); (fail_if_success (with_reducible show wpAny _ _ (eval (Expr.ListComp _ _ _ _) _) _ _ _)); (first | (k_unfold; (try dsimp only)) | (k_end; wrow_close) | walk1 | (dsimp only; walk1) | (leave1; walk_say "STEP leave1"; try dsimp only) | fail "no step")))
    have h1 := h.sweepAll e0
    refine while_rep (m₀ := ?M) (n₀ := sig (((W.setGrey []).setSweep W.kept).setPhase 2)) (locsOf W.n f m l) (fun n W' f' m' mm => mm = ?M ∧ n = sig W' ∧ Inv W' ∧ Still W W' ∧ (W'.phase = 2 ∨ W'.phase = 3) ∧ f' = f ∧ m'.rl = m.rl) (by k_asm) (by k_asm) (by assumption) (locsOf_from (by walk_at "mine keep")) ⟨rfl, rfl, h1, ⟨rfl, rfl, rfl⟩, .inl rfl, by exact rfl, by exact er⟩ ?_
    rintro n W' f' m' mm l2 h2' tk2 ⟨rfl, rfl, hI, hS, hP, rfl, er2⟩ R2 hl F2 N2
    (repeat' ((fail_if_success (with_reducible show wpAny _ _ (exec (Stmt.While _ _ _ _) _) _ _ _)); (fail_if_success (with_reducible show wpAny _ _ (exec (Stmt.For _ _ _ _ _) _) _ _ _)); (fail_if_success (with_reducible show wpAny _ _ (pyIter (Value.ref _)) _ _ _)); (fail_if_success (with_reducible show wpAny _ _ (call (Value.ref _) _) _ _ _)); (fail_if_success (with_reducible show wpAny _ _ (eval (Expr.ListComp _ _ _ _) _) _ _ _)); (first | (k_unfold; (try dsimp only)) | (k_end; wrow_close) | walk1 | (dsimp only; walk1) | (leave1; walk_say "STEP leave1"; try dsimp only) | fail "no step")))
    · have e2 : W'.phase = 2 := by
        rcases hP with q | q
        · exact q
        · exact absurd q (by assumption)
      (refine' Ctr.use ?k1 ?k2 ?k3 ?k4 ?k5 ?k6 (single_c R2 hI) ?k7 ?k8 ?_; (case k1 => k_asm); (case k2 => k_asm); (case k3 => k_asm); (case k4 => k_asm); (case k5 => k_asm); (case k6 => first | exact rfl | assumption); (case k7 => ktr_room); (case k8 => ktr_units))
      rintro r9 l9 h9 tk9 F9 N9 ⟨⟨k, t, rfl⟩, W3, m3, s3, R3, K3, er3⟩
      (try dsimp only); (try k_fold)
      (repeat' ((fail_if_success (with_reducible show wpAny _ _ (exec (Stmt.While _ _ _ _) _) _ _ _)); (fail_if_success (with_reducible show wpAny _ _ (exec (Stmt.For _ _ _ _ _) _) _ _ _)); (fail_if_success (with_reducible show wpAny _ _ (pyIter (Value.ref _)) _ _ _)); (fail_if_success (with_reducible show wpAny _ _ (call (Value.ref _) _) _ _ _)); (fail_if_success (with_reducible show wpAny _ _ (eval (Expr.ListComp _ _ _ _) _) _ _ _)); (first | (k_unfold; (try dsimp only)) | (k_end; wrow_close) | walk1 | (dsimp only; walk1) | (leave1; walk_say "STEP leave1"; try dsimp only) | fail "no step")))
      have e3 := step2 e2 s3
      exact ForPost.next (by k_asm) (by k_asm) R3 (locs_on K3 hl) ⟨sig W3, by unfold sig; rw [e2, e3]; simp, rfl, rfl, hI.step s3, hS.trans (s3.still hI), .inr e3, rfl, er3.trans er2⟩
    · have e3 : W'.phase = 3 := by first | assumption | exact Decidable.of_not_not (by assumption)
      (refine' Ctr.use ?k1 ?k2 ?k3 ?k4 ?k5 ?k6 (mark_roots_c R2 hI.wf) ?k7 ?k8 ?_; (case k1 => k_asm); (case k2 => k_asm); (case k3 => k_asm); (case k4 => k_asm); (case k5 => k_asm); (case k6 => first | exact rfl | assumption); (case k7 => ktr_room); (case k8 => ktr_units))
      rintro r9 l9 h9 tk9 F9 N9 ⟨rfl, W4, m4, e4, R4, K4, er4, et4⟩
      (try dsimp only); (try k_fold)
      (repeat' ((fail_if_success (with_reducible show wpAny _ _ (exec (Stmt.While _ _ _ _) _) _ _ _)); (fail_if_success (with_reducible show wpAny _ _ (exec (Stmt.For _ _ _ _ _) _) _ _ _)); (fail_if_success (with_reducible show wpAny _ _ (pyIter (Value.ref _)) _ _ _)); (fail_if_success (with_reducible show wpAny _ _ (call (Value.ref _) _) _ _ _)); (fail_if_success (with_reducible show wpAny _ _ (eval (Expr.ListComp _ _ _ _) _) _ _ _)); (first | (k_unfold; (try dsimp only)) | (k_end; wrow_close) | walk1 | (dsimp only; walk1) | (leave1; walk_say "STEP leave1"; try dsimp only) | fail "no step")))
      have hp := hI.pause e3
      have s4 := restart e3
      rw [← e4] at s4
      have hI4 := hp.step s4
      have hF4 : Fresh W4 := ((fresh0 (W := W'.setPhase 0) rfl).step hp s4).1 (by rw [e4]; show (1 : Int) ≠ 0; decide)
      have hS4 : Still W W4 := hS.trans (Still.trans (W' := W'.setPhase 0) ⟨rfl, rfl, rfl⟩ (s4.still hp))
      have K0 := locsOf_keep hl
      refine while_rep (m₀ := ?M2) (n₀ := sigP W4) (locsOf W.n f' m l) (fun n W5 f5 m5 mm => mm = ?M2 ∧ n = sigP W5 ∧ Inv W5 ∧ Still W W5 ∧ (W5.phase ≠ 0 → Fresh W5) ∧ (W5.phase = 0 → ∀ i ∈ W5.kept, Reach W5 i) ∧ f5 = f' ∧ m5.rl = m.rl) (by k_asm) (by k_asm) R4 (locsOf_from (by walk_at "mine keep")) ⟨rfl, rfl, hI4, hS4, fun _ => hF4, fun q => absurd q (by rw [e4]; show ¬ (1 : Int) = 0; decide), by exact rfl, by exact er4.trans er2⟩ ?_
      rintro n W5 f5 m5 mm l5 h5' tk5 ⟨rfl, rfl, hI5, hS5, hF5, hR5, rfl, er5⟩ R5 hl5 F5 N5
      (repeat' ((fail_if_success (with_reducible show wpAny _ _ (exec (Stmt.While _ _ _ _) _) _ _ _)); (fail_if_success (with_reducible show wpAny _ _ (exec (Stmt.For _ _ _ _ _) _) _ _ _)); (fail_if_success (with_reducible show wpAny _ _ (pyIter (Value.ref _)) _ _ _)); (fail_if_success (with_reducible show wpAny _ _ (call (Value.ref _) _) _ _ _)); (fail_if_success (with_reducible show wpAny _ _ (eval (Expr.ListComp _ _ _ _) _) _ _ _)); (first | (k_unfold; (try dsimp only)) | (k_end; wrow_close) | walk1 | (dsimp only; walk1) | (leave1; walk_say "STEP leave1"; try dsimp only) | fail "no step")))
      · have e5 : W5.phase ≠ 0 := by assumption
        (refine' Ctr.use ?k1 ?k2 ?k3 ?k4 ?k5 ?k6 (single_c R5 hI5) ?k7 ?k8 ?_; (case k1 => k_asm); (case k2 => k_asm); (case k3 => k_asm); (case k4 => k_asm); (case k5 => k_asm); (case k6 => first | exact rfl | assumption); (case k7 => ktr_room); (case k8 => ktr_units))
        rintro r9 l9 h9 tk9 F9 N9 ⟨⟨k, t, rfl⟩, W6, m6, s6, R6, K6, er6⟩
        (try dsimp only); (try k_fold)
        (repeat' ((fail_if_success (with_reducible show wpAny _ _ (exec (Stmt.While _ _ _ _) _) _ _ _)); (fail_if_success (with_reducible show wpAny _ _ (exec (Stmt.For _ _ _ _ _) _) _ _ _)); (fail_if_success (with_reducible show wpAny _ _ (pyIter (Value.ref _)) _ _ _)); (fail_if_success (with_reducible show wpAny _ _ (call (Value.ref _) _) _ _ _)); (fail_if_success (with_reducible show wpAny _ _ (eval (Expr.ListComp _ _ _ _) _) _ _ _)); (first | (k_unfold; (try dsimp only)) | (k_end; wrow_close) | walk1 | (dsimp only; walk1) | (leave1; walk_say "STEP leave1"; try dsimp only) | fail "no step")))
        have q6 := (hF5 e5).step hI5 s6
        exact ForPost.next (by k_asm) (by k_asm) R6 (locs_on K6 hl5) ⟨sigP W6, s6.sigP hI5 e5, rfl, rfl, hI5.step s6, hS5.trans (s6.still hI5), q6.1, q6.2, rfl, er6.trans er5⟩
      · have e5 : W5.phase = 0 := by first | assumption | exact Decidable.of_not_not (by assumption)
        (refine' Ctr.use ?k1 ?k2 ?k3 ?k4 ?k5 ?k6 (set_thr_c R5) ?k7 ?k8 ?_; (case k1 => k_asm); (case k2 => k_asm); (case k3 => k_asm); (case k4 => k_asm); (case k5 => k_asm); (case k6 => first | exact rfl | assumption); (case k7 => ktr_room); (case k8 => ktr_units))
        rintro r9 l9 h9 tk9 F9 N9 ⟨rfl, v6, R6, K6⟩
        (try dsimp only); (try k_fold)
        (repeat' ((fail_if_success (with_reducible show wpAny _ _ (exec (Stmt.While _ _ _ _) _) _ _ _)); (fail_if_success (with_reducible show wpAny _ _ (exec (Stmt.For _ _ _ _ _) _) _ _ _)); (fail_if_success (with_reducible show wpAny _ _ (pyIter (Value.ref _)) _ _ _)); (fail_if_success (with_reducible show wpAny _ _ (call (Value.ref _) _) _ _ _)); (fail_if_success (with_reducible show wpAny _ _ (eval (Expr.ListComp _ _ _ _) _) _ _ _)); (first | (k_unfold; (try dsimp only)) | (k_end; wrow_close) | walk1 | (dsimp only; walk1) | (leave1; walk_say "STEP leave1"; try dsimp only) | fail "no step")))
        have K5 := locsOf_keep hl5
        refine hret _ _ _ _ (by k_asm) (by k_asm) ⟨rfl, _, _, hI5.thr v6, ⟨hS5.n, hS5.edges, hS5.roots⟩, fun i hi => reach_thr.mpr (hR5 e5 i hi), R6, by walk_at "mine keep", er5⟩
end
end
section
theorem Ctr.useI {w : World} {p : Program} {loose : List Str} {mean : ExcName → Option Value} {mg mb : Str → Option Value} {C fI : Addr} {vs : List Value} {l : Led} {nd : Nat} {Out : Addr → Addr → Value → Led → Prop}
    {dp un : Nat} {gd : Option (List Code)} {cn : Str} {cs : Scope} {a : Addr} {ccd : Value} {cl : List (Str × Addr)} {outer : List Env} {A₀ : Around} {base h₀ : Heap} {L : Addr} {m : Str → Option Value} {s : Shared}
    {Q E : Value → Shared → Prop} (B : Below A₀ base outer h₀) (F : Fr h₀ L s.heap m) (X : (Mine.k0.heap_1 w.params).In h₀) (N : News h₀ L s.heap l) (T : Top p loose mean mg mb h₀) (hk : cs.kind = .function)
    (hm : makesIn (Mine.k0.heap_1 w.params) C = true) (hi : findIn (Mine.k0.heap_1 w.params) (.ref C) "__init__" = some (some (.ref fI))) (hf : isFn (Mine.k0.heap_1 w.params) (.ref fI) = true)
    (hC : ∀ x d, (∀ p ∈ l, p.1 < d) → d < x → Ctr w p loose mean mg mb fI (.ref x :: vs) ((x, instObj C d) :: (d, dictOf [] 0) :: l) nd (fun r l' => r = .none ∧ Out x d r l')) (hd : dp + (nd + 1) < recursionLimit) (hu : un + 8 * (nd + 1) < cLine)
    (ret : ∀ x d r l' h' tk', Fr h₀ L h' m → News h₀ L h' l' → (∀ p ∈ l, p.1 < d) → d < x → Out x d r l' → Q (.ref x) { s with heap := h', toks := tk' }) :
    wpAny (model PySem.Challenge.rw_pq0678_01.row.prog w) (ktrTop dp un gd cn cs L a ccd cl outer) (call (.ref C) vs) Q E s := by
  refine call_cls F X N hm hi hf fun x d h' F' N' h1 h2 => ?_
  refine codeAny_mono (hC x d h1 h2 (dp + 1) (un + 1) _ cn cs a ccd cl outer A₀ base h₀ L m _ (fun v s' => v = .none ∧ Q (.ref x) s') E B F' X N' T hk (by omega) (by omega) ?_) (fun r s' hr => ?_)
  · rintro r l' h'' tk' F'' N'' ⟨rfl, o⟩
    exact ⟨rfl, ret x d _ l' h'' tk' F'' N'' h1 h2 o⟩
  · cases r with
    | ok fl => cases fl <;> exact hr
    | error e => exact hr
section
local macro_rules | `(tactic| k_mem) => `(tactic| first
  | assumption
  | with_reducible exact mem_put_self
  | (with_reducible refine mem_put_ne ?h1 ?h2; (case h2 => k_mem); (case h1 => walk_at "mine ne"))
  | exact List.Mem.head _
  | (refine' List.Mem.tail _ ?_; k_mem))
local macro_rules | `(tactic| walk_at "setAttr ref") => `(tactic| (k_here; k_dflt (
  refine' set_put ?k1 ?k2 ?k3 ?k4 ?k5 ?k6 ?k7 ?k8 ?k9 ?k10 ?k11 ?k12 ?_; (case k1 => k_asm); (case k2 => k_asm); (case k3 => k_asm); (case k4 => k_mem); (case k5 => k_mem); (case k6 => k_is); (case k7 => k_is); (case k8 => k_is); (case k9 => k_is); (case k10 => k_get); (case k11 => k_put); (case k12 => exact Nat.le_of_ble_eq_true rfl); k_whole; intro h' F' N')))
variable {w : World} {p : Program} {loose : List Str} {mean : ExcName → Option Value} {mg mb : Str → Option Value} {W : St} {f : Fix} {m : Mut} {l : Led} {i : Nat}
theorem init_c {x d : Addr} {a b : Int} {ta tb : Tok} (hx : (x, instObj 367 d) ∈ l) (hd : (d, dictOf [] 0) ∈ l) (hne : x ≠ d) :
   Ctr w p loose mean mg mb 364 [.ref x, .int a ta, .int b tb] l 2 (fun r l' => r = .none ∧ ∃ t, (d, obD w.params t a 0 b) ∈ l' ∧ ∀ c o, c ≠ d → (c, o) ∈ l → (c, o) ∈ l') := by
  unfold Ctr; k_fill; intro dp un gd cn cs a ccd cl outer A₀ base h₀ L mF s Q E B F X N T hk hdp hun hret; k_dflt ktr_enter
  (repeat' ((fail_if_success (with_reducible show wpAny _ _ (exec (Stmt.While _ _ _ _) _) _ _ _)); (fail_if_success (with_reducible show wpAny _ _ (exec (Stmt.For _ _ _ _ _) _) _ _ _)); (fail_if_success (with_reducible show wpAny _ _ (pyIter (Value.ref _)) _ _ _)); (fail_if_success (with_reducible show wpAny _ _ (call (Value.ref _) _) _ _ _)); (fail_if_success (with_reducible show wpAny _ _ (eval (Expr.ListComp _ _ _ _) _) _ _ _)); (first | (k_unfold; (try dsimp only)) | (k_end; wrow_close) | walk1 | (dsimp only; walk1) | (leave1; walk_say "STEP leave1"; try dsimp only) | fail "no step")))
  refine hret _ _ _ _ (by k_asm) (by k_asm) ⟨rfl, fun j => [_, _, _, _, _, _].getD j 0, mem_put_self, fun c o hc hm => mem_put_ne hc (mem_put_ne hc (mem_put_ne hc hm))⟩
end
section
variable {w : World} {p : Program} {loose : List Str} {mean : ExcName → Option Value} {mg mb : Str → Option Value} {W : St} {f : Fix} {m : Mut} {l : Led} {i : Nat}
theorem take_in_c (R : Rep w W f m l) (hW : WF W) {x d e : Addr} {t0 : Nat → Tok} {ep : Nat} {sz : Int} {tk ts : Tok} (hxal : f.xal = [x]) (hxed : f.xed = [((W.n : Int) + 1, e)])
    (hx : Loc W.n f m l x (instObj 367 d)) (hd : Loc W.n f m l d (obD w.params t0 0 0 0)) (he : Loc W.n f m l e (PySem.W.listOf #[] ep)) (nxd : x ≠ d) (nxe : x ≠ e) (nde : d ≠ e) (rx : x ≠ m.rl) (rd : d ≠ m.rl) (re : e ≠ m.rl) :
   Ctr w p loose mean mg mb 189 [.ref f.cy, .ref x, .int ((W.n : Int) + 1) tk, .int sz ts] l 4 (fun r l' => r = .none ∧ Rep w ((newW W sz).setTotal (W.total + sz)) (newF f (W.n + 1) x d e) m l' ∧
     ∀ b ob, b ≠ x → b ≠ d → b ≠ e → Loc W.n f m l b ob → Loc (W.n + 1) (newF f (W.n + 1) x d e) m l' b ob) := by
  unfold Ctr; k_fill; intro dp un gd cn cs a ccd cl outer A₀ base h₀ L mF s Q E B F X N T hk hdp hun hret; k_dflt ktr_enter
  (repeat' ((fail_if_success (with_reducible show wpAny _ _ (exec (Stmt.While _ _ _ _) _) _ _ _)); (fail_if_success (with_reducible show wpAny _ _ (exec (Stmt.For _ _ _ _ _) _) _ _ _)); (fail_if_success (with_reducible show wpAny _ _ (pyIter (Value.ref _)) _ _ _)); (fail_if_success (with_reducible show wpAny _ _ (call (Value.ref _) _) _ _ _)); (fail_if_success (with_reducible show wpAny _ _ (eval (Expr.ListComp _ _ _ _) _) _ _ _)); (first | (k_unfold; (try dsimp only)) | (k_end; wrow_close) | walk1 | (dsimp only; walk1) | (leave1; walk_say "STEP leave1"; try dsimp only) | fail "no step")))
  (refine' w_loc_number ?F ?X ?N ?R ?hx ?hd ?hr ?ne ?_; (case F => k_asm); (case X => k_asm); (case N => k_asm); (case R => assumption); (case hx => assumption); (case hd => assumption); (case hr => exact rd); (case ne => exact nxd))
  intro h1' l1 t1 F1 N1 R1 hx1 hd1 K1
  have he1 := K1 _ _ (Ne.symm nde) he
  (repeat' ((fail_if_success (with_reducible show wpAny _ _ (exec (Stmt.While _ _ _ _) _) _ _ _)); (fail_if_success (with_reducible show wpAny _ _ (exec (Stmt.For _ _ _ _ _) _) _ _ _)); (fail_if_success (with_reducible show wpAny _ _ (pyIter (Value.ref _)) _ _ _)); (fail_if_success (with_reducible show wpAny _ _ (call (Value.ref _) _) _ _ _)); (fail_if_success (with_reducible show wpAny _ _ (eval (Expr.ListComp _ _ _ _) _) _ _ _)); (first | (k_unfold; (try dsimp only)) | (k_end; wrow_close) | walk1 | (dsimp only; walk1) | (leave1; walk_say "STEP leave1"; try dsimp only) | fail "no step")))
  (refine' w_loc_mark ?F ?X ?N ?R ?hx ?hd ?hr ?ne ?_; (case F => k_asm); (case X => k_asm); (case N => k_asm); (case R => assumption); (case hx => assumption); (case hd => assumption); (case hr => exact rd); (case ne => exact nxd))
  intro h2' l2 t2 F2 N2 R2 hx2 hd2 K2
  have he2 := K2 _ _ (Ne.symm nde) he1
  (repeat' ((fail_if_success (with_reducible show wpAny _ _ (exec (Stmt.While _ _ _ _) _) _ _ _)); (fail_if_success (with_reducible show wpAny _ _ (exec (Stmt.For _ _ _ _ _) _) _ _ _)); (fail_if_success (with_reducible show wpAny _ _ (pyIter (Value.ref _)) _ _ _)); (fail_if_success (with_reducible show wpAny _ _ (call (Value.ref _) _) _ _ _)); (fail_if_success (with_reducible show wpAny _ _ (eval (Expr.ListComp _ _ _ _) _) _ _ _)); (first | (k_unfold; (try dsimp only)) | (k_end; wrow_close) | walk1 | (dsimp only; walk1) | (leave1; walk_say "STEP leave1"; try dsimp only) | fail "no step")))
  (refine' w_loc_size ?F ?X ?N ?R ?hx ?hd ?hr ?ne ?_; (case F => k_asm); (case X => k_asm); (case N => k_asm); (case R => assumption); (case hx => assumption); (case hd => assumption); (case hr => exact rd); (case ne => exact nxd))
  intro h3' l3 t3 F3 N3 R3 hx3 hd3 K3
  have he3 := K3 _ _ (Ne.symm nde) he2
  (repeat' ((fail_if_success (with_reducible show wpAny _ _ (exec (Stmt.While _ _ _ _) _) _ _ _)); (fail_if_success (with_reducible show wpAny _ _ (exec (Stmt.For _ _ _ _ _) _) _ _ _)); (fail_if_success (with_reducible show wpAny _ _ (pyIter (Value.ref _)) _ _ _)); (fail_if_success (with_reducible show wpAny _ _ (call (Value.ref _) _) _ _ _)); (fail_if_success (with_reducible show wpAny _ _ (eval (Expr.ListComp _ _ _ _) _) _ _ _)); (first | (k_unfold; (try dsimp only)) | (k_end; wrow_close) | walk1 | (dsimp only; walk1) | (leave1; walk_say "STEP leave1"; try dsimp only) | fail "no step")))
  refine w_od_adopt F3 N3 R3 hW rfl hxal hxed hx3 hd3 he3 nxd nxe nde rx rd re ?_
  intro h4' l4 F4 N4 R4 K4
  rw [show f.cy = (newF f (W.n + 1) x d e).cy from rfl] at F4
  (repeat' ((fail_if_success (with_reducible show wpAny _ _ (exec (Stmt.While _ _ _ _) _) _ _ _)); (fail_if_success (with_reducible show wpAny _ _ (exec (Stmt.For _ _ _ _ _) _) _ _ _)); (fail_if_success (with_reducible show wpAny _ _ (pyIter (Value.ref _)) _ _ _)); (fail_if_success (with_reducible show wpAny _ _ (call (Value.ref _) _) _ _ _)); (fail_if_success (with_reducible show wpAny _ _ (eval (Expr.ListComp _ _ _ _) _) _ _ _)); (first | (k_unfold; (try dsimp only)) | (k_end; wrow_close) | walk1 | (dsimp only; walk1) | (leave1; walk_say "STEP leave1"; try dsimp only) | fail "no step")))
  rename Keep _ _ _ _ _ _ _ _ => K5
  rename Rep _ _ _ _ _ => R5
  refine hret _ _ _ _ (by k_asm) (by k_asm) ⟨rfl, R5, fun b ob b1 b2 b3 hb => K5 _ _ (K4 b ob b1 b2 b3 (K3 b ob b2 (K2 b ob b2 (K1 b ob b2 hb))))⟩
end
end
section
section
variable {w : World} {p : Program} {loose : List Str} {mean : ExcName → Option Value} {mg mb : Str → Option Value} {W : St} {f : Fix} {m : Mut} {l : Led} {i : Nat}
theorem law_new_c (R : Rep w W f m l) (hW : WF W) (hxal : f.xal = []) (hxed : f.xed = []) {sz : Int} {ts : Tok} :
   Ctr w p loose mean mg mb 385 [.ref f.wd, .int sz ts] l 10 (fun r l' => (∃ t, r = .int ((W.n + 1 : Nat) : Int) t) ∧ ∃ x d e, Rep w ((newW W sz).setTotal (W.total + sz)) (newF f (W.n + 1) x d e) m l' ∧ Keep W.n f m l (W.n + 1) (newF f (W.n + 1) x d e) m l') := by
  have hn := hW.hn
  unfold Ctr; k_fill; intro dp un gd cn cs a ccd cl outer A₀ base h₀ L mF s Q E B F X N T hk hdp hun hret; k_dflt ktr_enter
  (repeat' ((fail_if_success (with_reducible show wpAny _ _ (exec (Stmt.While _ _ _ _) _) _ _ _)); (fail_if_success (with_reducible show wpAny _ _ (exec (Stmt.For _ _ _ _ _) _) _ _ _)); (fail_if_success (with_reducible show wpAny _ _ (pyIter (Value.ref _)) _ _ _)); (fail_if_success (with_reducible show wpAny _ _ (call (Value.ref _) _) _ _ _)); (fail_if_success (with_reducible show wpAny _ _ (eval (Expr.ListComp _ _ _ _) _) _ _ _)); (first | (k_unfold; (try dsimp only)) | (k_end; wrow_close) | walk1 | (dsimp only; walk1) | (leave1; walk_say "STEP leave1"; try dsimp only) | fail "no step")))
  (refine' Ctr.useI ?k1 ?k2 ?k3 ?k4 ?k5 ?k6 ?m1 ?m2 ?m3 (fun x d h1 h2 => init_c (.head _) (.tail _ (.head _)) (Nat.ne_of_gt h2)) ?k7 ?k8 ?_; (case k1 => k_asm); (case k2 => k_asm); (case k3 => k_asm); (case k4 => k_asm); (case k5 => k_asm); (case k6 => first | exact rfl | assumption); (case m1 => k_is); (case m2 => k_is); (case m3 => k_is); (case k7 => ktr_room); (case k8 => ktr_units))
  rintro x9 d9 r9 l9 h9 tk9 F9 N9 lt9 xd9 ⟨t1, hd1, hk1⟩
  (try dsimp only); (try k_fold)
  have ex : ∀ q ∈ l, q.1 ≠ x9 := fun q hq => Nat.ne_of_lt (Nat.lt_trans (lt9 q hq) xd9)
  have ed : ∀ q ∈ l, q.1 ≠ d9 := fun q hq => Nat.ne_of_lt (lt9 q hq)
  have sub : ∀ q ∈ l, q ∈ l9 := fun q hq => hk1 q.1 q.2 (ed q hq) (.tail _ (.tail _ hq))
  have R1 : Rep w W f m l9 := R.mono sub
  have hx1 : Loc W.n f m l9 x9 (instObj 367 d9) := ⟨hk1 _ _ (Nat.ne_of_gt xd9) (.head _), R.off ex⟩
  have hd1 : Loc W.n f m l9 d9 (obD w.params t1 0 0 0) := ⟨hd1, R.off ed⟩
  have rx : x9 ≠ m.rl := fun q => ex _ R.hrl q.symm
  have rd : d9 ≠ m.rl := fun q => ed _ R.hrl q.symm
  have nxd : x9 ≠ d9 := Nat.ne_of_gt xd9
  (repeat' ((fail_if_success (with_reducible show wpAny _ _ (exec (Stmt.While _ _ _ _) _) _ _ _)); (fail_if_success (with_reducible show wpAny _ _ (exec (Stmt.For _ _ _ _ _) _) _ _ _)); (fail_if_success (with_reducible show wpAny _ _ (pyIter (Value.ref _)) _ _ _)); (fail_if_success (with_reducible show wpAny _ _ (call (Value.ref _) _) _ _ _)); (fail_if_success (with_reducible show wpAny _ _ (eval (Expr.ListComp _ _ _ _) _) _ _ _)); (first | (k_unfold; (try dsimp only)) | (k_end; wrow_close) | walk1 | (dsimp only; walk1) | (leave1; walk_say "STEP leave1"; try dsimp only) | fail "no step")))
  refine w_append_al (by k_asm) (by k_asm) R1 hxal (by omega) ?_
  intro h2' l2 F2 N2 R2 K2
  rw [show f.wd = (addAl f x9).wd from rfl] at F2
  have hx2 := K2 _ _ hx1
  have hd2 := K2 _ _ hd1
  (repeat' ((fail_if_success (with_reducible show wpAny _ _ (exec (Stmt.While _ _ _ _) _) _ _ _)); (fail_if_success (with_reducible show wpAny _ _ (exec (Stmt.For _ _ _ _ _) _) _ _ _)); (fail_if_success (with_reducible show wpAny _ _ (pyIter (Value.ref _)) _ _ _)); (fail_if_success (with_reducible show wpAny _ _ (call (Value.ref _) _) _ _ _)); (fail_if_success (with_reducible show wpAny _ _ (eval (Expr.ListComp _ _ _ _) _) _ _ _)); (first | (k_unfold; (try dsimp only)) | (k_end; wrow_close) | walk1 | (dsimp only; walk1) | (leave1; walk_say "STEP leave1"; try dsimp only) | fail "no step")))
  rename Loc _ _ _ _ _ (PySem.W.listOf #[] 0) => he3
  rename KeepNew _ _ _ _ _ _ _ _ _ => K3
  rename Rep _ _ _ _ _ => R3
  rename _ ≠ m.rl => re
  refine w_ed_set (by k_asm) (by k_asm) R3 hxed (by omega) rfl ?_
  intro h4' l4 F4 N4 R4 K4
  have hx4 := K4 _ _ (K3.keep _ _ hx2)
  have hd4 := K4 _ _ (K3.keep _ _ hd2)
  have he4 := K4 _ _ he3
  have nxe := (K3 _ _ hx2).1
  have nde := (K3 _ _ hd2).1
  rw [show (addAl f x9).wd = (addEd (addAl f x9) _ _).wd from rfl] at F4
  (repeat' ((fail_if_success (with_reducible show wpAny _ _ (exec (Stmt.While _ _ _ _) _) _ _ _)); (fail_if_success (with_reducible show wpAny _ _ (exec (Stmt.For _ _ _ _ _) _) _ _ _)); (fail_if_success (with_reducible show wpAny _ _ (pyIter (Value.ref _)) _ _ _)); (fail_if_success (with_reducible show wpAny _ _ (call (Value.ref _) _) _ _ _)); (fail_if_success (with_reducible show wpAny _ _ (eval (Expr.ListComp _ _ _ _) _) _ _ _)); (first | (k_unfold; (try dsimp only)) | (k_end; wrow_close) | walk1 | (dsimp only; walk1) | (leave1; walk_say "STEP leave1"; try dsimp only) | fail "no step")))
  (refine' Ctr.use ?k1 ?k2 ?k3 ?k4 ?k5 ?k6 (take_in_c R4 hW (by exact rfl) (by exact rfl) hx4 hd4 he4 nxd nxe nde rx rd re) ?k7 ?k8 ?_; (case k1 => k_asm); (case k2 => k_asm); (case k3 => k_asm); (case k4 => k_asm); (case k5 => k_asm); (case k6 => first | exact rfl | assumption); (case k7 => ktr_room); (case k8 => ktr_units))
  rintro r9 l9 h9 tk9 F9 N9 ⟨rfl, R5, K5⟩
  (try dsimp only); (try k_fold)
  (repeat' ((fail_if_success (with_reducible show wpAny _ _ (exec (Stmt.While _ _ _ _) _) _ _ _)); (fail_if_success (with_reducible show wpAny _ _ (exec (Stmt.For _ _ _ _ _) _) _ _ _)); (fail_if_success (with_reducible show wpAny _ _ (pyIter (Value.ref _)) _ _ _)); (fail_if_success (with_reducible show wpAny _ _ (call (Value.ref _) _) _ _ _)); (fail_if_success (with_reducible show wpAny _ _ (eval (Expr.ListComp _ _ _ _) _) _ _ _)); (first | (k_unfold; (try dsimp only)) | (k_end; wrow_close) | walk1 | (dsimp only; walk1) | (leave1; walk_say "STEP leave1"; try dsimp only) | fail "no step")))
  refine hret _ _ _ _ (by k_asm) (by k_asm) ⟨⟨_, rfl⟩, x9, d9, _, R5, fun b o hb => K5 b o (ex (b, o) hb.1) (ed (b, o) hb.1) (K3 _ _ (K2 _ _ ⟨sub _ hb.1, hb.2⟩)).1 (K4 _ _ (K3.keep _ _ (K2 _ _ ⟨sub _ hb.1, hb.2⟩)))⟩
end
end
section
section
variable {w : World} {p : Program} {loose : List Str} {mean : ExcName → Option Value} {mg mb : Str → Option Value} {W : St} {f : Fix} {m : Mut} {l : Led} {i : Nat}
theorem law_edge_c (R : Rep w W f m l) (hW : WF W) {j : Nat} (h1 : 1 ≤ i) (h2 : i ≤ W.n) (h3 : 1 ≤ j) (h4 : j ≤ W.n) (hl : (W.edges i).length < 100) {ti tj : Tok} :
   Ctr w p loose mean mg mb 392 [.ref f.wd, .int (i : Int) ti, .int (j : Int) tj] l 14 (fun r l' => r = .none ∧ Rep w (edgeW W i j) f m l' ∧ Keep W.n f m l (edgeW W i j).n f m l') := by
  have hn := hW.hn
  have hW2 := hW.addEdge (i := i) h3 h4 hl
  unfold Ctr; k_fill; intro dp un gd cn cs a ccd cl outer A₀ base h₀ L mF s Q E B F X N T hk hdp hun hret; k_dflt ktr_enter
  (repeat' ((fail_if_success (with_reducible show wpAny _ _ (exec (Stmt.While _ _ _ _) _) _ _ _)); (fail_if_success (with_reducible show wpAny _ _ (exec (Stmt.For _ _ _ _ _) _) _ _ _)); (fail_if_success (with_reducible show wpAny _ _ (pyIter (Value.ref _)) _ _ _)); (fail_if_success (with_reducible show wpAny _ _ (call (Value.ref _) _) _ _ _)); (fail_if_success (with_reducible show wpAny _ _ (eval (Expr.ListComp _ _ _ _) _) _ _ _)); (first | (k_unfold; (try dsimp only)) | (k_end; wrow_close) | walk1 | (dsimp only; walk1) | (leave1; walk_say "STEP leave1"; try dsimp only) | fail "no step")))
  (refine' Ctr.use ?k1 ?k2 ?k3 ?k4 ?k5 ?k6 (barrier_c (W := W.setEdges i (W.edges i ++ [j])) (by assumption) hW2 h1 h2 h3 h4) ?k7 ?k8 ?_; (case k1 => k_asm); (case k2 => k_asm); (case k3 => k_asm); (case k4 => k_asm); (case k5 => k_asm); (case k6 => first | exact rfl | assumption); (case k7 => ktr_room); (case k8 => ktr_units))
  rintro r9 l9 h9 tk9 F9 N9 ⟨rfl, R3, K3⟩
  (try dsimp only); (try k_fold)
  (repeat' ((fail_if_success (with_reducible show wpAny _ _ (exec (Stmt.While _ _ _ _) _) _ _ _)); (fail_if_success (with_reducible show wpAny _ _ (exec (Stmt.For _ _ _ _ _) _) _ _ _)); (fail_if_success (with_reducible show wpAny _ _ (pyIter (Value.ref _)) _ _ _)); (fail_if_success (with_reducible show wpAny _ _ (call (Value.ref _) _) _ _ _)); (fail_if_success (with_reducible show wpAny _ _ (eval (Expr.ListComp _ _ _ _) _) _ _ _)); (first | (k_unfold; (try dsimp only)) | (k_end; wrow_close) | walk1 | (dsimp only; walk1) | (leave1; walk_say "STEP leave1"; try dsimp only) | fail "no step")))
  refine hret _ _ _ _ (by k_asm) (by k_asm) ⟨rfl, R3, by walk_at "mine keep"⟩
end
end
section
section
variable {w : World} {p : Program} {loose : List Str} {mean : ExcName → Option Value} {mg mb : Str → Option Value} {W : St} {f : Fix} {m : Mut} {l : Led} {i : Nat}
/-- half way through the search -/
structure Srch (W : St) (ms ws : List Nat) : Prop where
  nd : ms.Nodup
  rm : ∀ i ∈ ms, Reach W i
  rw : ∀ i ∈ ws, Reach W i
  cl : ∀ i ∈ ms, ∀ c ∈ W.edges i, c ∈ ms ∨ c ∈ ws
  ro : ∀ r ∈ W.roots, r ∈ ms ∨ r ∈ ws
  le : ws.length ≤ 100 + 100 * ms.length
theorem Srch.start {W : St} (h : WF W) : Srch W [] W.roots where
  nd := .nil
  rm := nofun
  rw := fun _ h => .root h
  cl := nofun
  ro := fun _ h => .inr h
  le := by have := h.hol; simp only [List.length_nil]; omega
theorem Srch.ml {W : St} (h : Inv W) {ms ws : List Nat} (s : Srch W ms ws) : ms.length ≤ W.n := nodup_le W.n ms s.nd fun i hi => h.wf.hk i (h.rk i (s.rm i hi))
theorem Srch.old {W : St} {ms ns : List Nat} {i : Nat} (s : Srch W ms (ns ++ [i])) (hi : i ∈ ms) : Srch W ms ns := by
  have k : ∀ c, c ∈ ms ∨ c ∈ ns ++ [i] → c ∈ ms ∨ c ∈ ns := fun c hc => by
    rcases hc with q | q
    · exact .inl q
    · rcases List.mem_append.mp q with q | q
      · exact .inr q
      · exact .inl (List.mem_singleton.mp q ▸ hi)
  exact ⟨s.nd, s.rm, fun j hj => s.rw j (List.mem_append_left _ hj), fun j hj c hc => k c (s.cl j hj c hc), fun r hr => k r (s.ro r hr), by have := s.le; simp at this; omega⟩
theorem Srch.new {W : St} (h : WF W) {ms ns : List Nat} {i : Nat} (s : Srch W ms (ns ++ [i])) (hi : i ∉ ms) : Srch W (ms ++ [i]) (ns ++ W.edges i) := by
  have ri : Reach W i := s.rw i (by simp)
  have k : ∀ c, c ∈ ms ∨ c ∈ ns ++ [i] → c ∈ ms ++ [i] ∨ c ∈ ns ++ W.edges i := fun c hc => by
    rcases hc with q | q
    · exact .inl (List.mem_append_left _ q)
    · rcases List.mem_append.mp q with q | q
      · exact .inr (List.mem_append_left _ q)
      · exact .inl (List.mem_append_right _ q)
  refine ⟨List.nodup_append.mpr ⟨s.nd, by simp, fun a ha b hb e => hi (by rw [← List.mem_singleton.mp hb, ← e]; exact ha)⟩, fun j hj => ?_, fun j hj => ?_, fun j hj c hc => ?_, fun r hr => k r (s.ro r hr), ?_⟩
  · rcases List.mem_append.mp hj with q | q
    · exact s.rm j q
    · exact List.mem_singleton.mp q ▸ ri
  · rcases List.mem_append.mp hj with q | q
    · exact s.rw j (List.mem_append_left _ q)
    · exact .edge ri q
  · rcases List.mem_append.mp hj with q | q
    · exact k c (s.cl j q c hc)
    · exact .inr (List.mem_append_right _ (List.mem_singleton.mp q ▸ hc))
  · have := s.le
    have := h.hel i
    simp at *; omega
theorem Srch.done {W : St} {ms : List Nat} (s : Srch W ms []) (i : Nat) : i ∈ ms ↔ Reach W i := by
  refine ⟨s.rm i, fun r => ?_⟩
  induction r with
  | root h => exact (s.ro _ h).resolve_right nofun
  | edge _ h ih => exact (s.cl _ ih _ h).resolve_right nofun
theorem sorted_lt {ms : List Nat} (h : ms.Pairwise (· ≤ ·)) (nd : ms.Nodup) : ms.Pairwise (· < ·) :=
  (h.and nd).imp fun q => Nat.lt_of_le_of_ne q.1 q.2
theorem law_reached_c (R : Rep w W f m l) (h : Inv W) (hn : W.n ≤ 40) :
   Ctr w p loose mean mg mb 378 [.ref f.wd] l 14 (fun r l' => ∃ b ms t ep, r = .ref b ∧ Rep w W f m l' ∧ Loc W.n f m l' b (IL ms t ep) ∧ Keep W.n f m l W.n f m l' ∧ (∀ i, i ∈ ms ↔ Reach W i) ∧ ms.Pairwise (· < ·)) := by
  have hol := h.wf.hol
  unfold Ctr; k_fill; intro dp un gd cn cs a ccd cl outer A₀ base h₀ L mF s Q E B F X N T hk hdp hun hret; k_dflt ktr_enter
  (repeat' ((fail_if_success (with_reducible show wpAny _ _ (exec (Stmt.While _ _ _ _) _) _ _ _)); (fail_if_success (with_reducible show wpAny _ _ (exec (Stmt.For _ _ _ _ _) _) _ _ _)); (fail_if_success (with_reducible show wpAny _ _ (pyIter (Value.ref _)) _ _ _)); (fail_if_success (with_reducible show wpAny _ _ (call (Value.ref _) _) _ _ _)); (fail_if_success (with_reducible show wpAny _ _ (eval (Expr.ListComp _ _ _ _) _) _ _ _)); (first | (k_unfold; (try dsimp only)) | (k_end; wrow_close) | walk1 | (dsimp only; walk1) | (leave1; walk_say "STEP leave1"; try dsimp only) | fail "no step")))
  rename Loc W.n f m _ _ (PySem.W.listOf #[] 0) => UA
  rename Loc W.n f m _ _ (IL W.roots _ _) => UB
  have nab := keep_ne UA (by assumption)
  rename KeepNew _ W.n f m l W.n f m _ => K1
  rename KeepNew _ W.n f m _ W.n f m _ => K3
  revert K3
  rename KeepNew _ W.n f m _ W.n f m _ => K2
  intro K3
  rename Rep w W f m _ => R3
  have hl0 : ∀ q ∈ locsOf W.n f m l, Loc W.n f m _ q.1 q.2 ∧ q.1 ≠ _ ∧ q.1 ≠ _ := fun q hq => ⟨(K3 _ _ (K2 _ _ (K1 _ _ (locsOf_start q hq)).2).2).2, (K1 _ _ (locsOf_start q hq)).1, (K2 _ _ (K1 _ _ (locsOf_start q hq)).2).1⟩
  refine while_two (m₀ := ?M) (ms₀ := []) (t₀ := fun _ => 0) (e₀ := 0) (locsOf W.n f m l) (fun n ms ws mm => (∃ u, mm = fun z => if z = Str.ofString "number" then u else ?M z) ∧ Srch W ms ws ∧ n = (W.n - ms.length) * 101 + ws.length) (by k_asm) (by k_asm) R3 (K3.loc (K2.loc UA)) (K3.loc UB) hl0 ⟨⟨_, upd_self _ _⟩, Srch.start h.wf, rfl⟩ ?_
  rintro n ms ws t e u e' mm l2 h2 tk2 ⟨⟨x, rfl⟩, hs, rfl⟩ R4 ha hb hl F4 N4
  have hml := hs.ml h
  have hle := hs.le
  (repeat' ((fail_if_success (with_reducible show wpAny _ _ (exec (Stmt.While _ _ _ _) _) _ _ _)); (fail_if_success (with_reducible show wpAny _ _ (exec (Stmt.For _ _ _ _ _) _) _ _ _)); (fail_if_success (with_reducible show wpAny _ _ (pyIter (Value.ref _)) _ _ _)); (fail_if_success (with_reducible show wpAny _ _ (call (Value.ref _) _) _ _ _)); (fail_if_success (with_reducible show wpAny _ _ (eval (Expr.ListComp _ _ _ _) _) _ _ _)); (first | (k_unfold; (try dsimp only)) | (k_end; wrow_close) | walk1 | (dsimp only; walk1) | (leave1; walk_say "STEP leave1"; try dsimp only) | fail "no step")))
  · rename KeepNew _ W.n f m l2 W.n f m _ => K5
    rename Rep w W f m _ => R5
    rcases List.eq_nil_or_concat ws with q | ⟨ns, i, q⟩
    · exact absurd q (by assumption)
    rw [List.concat_eq_append] at q
    subst q
    refine w_loc_pop (by k_asm) (by k_asm) R5 (K5.loc hb) (by assumption) (by simp at hle; omega) ?_
    intro h6 l6 t6 F6 N6 R6 U6 K6
    have hi := hs.rw i (by simp)
    (repeat' ((fail_if_success (with_reducible show wpAny _ _ (exec (Stmt.While _ _ _ _) _) _ _ _)); (fail_if_success (with_reducible show wpAny _ _ (exec (Stmt.For _ _ _ _ _) _) _ _ _)); (fail_if_success (with_reducible show wpAny _ _ (pyIter (Value.ref _)) _ _ _)); (fail_if_success (with_reducible show wpAny _ _ (call (Value.ref _) _) _ _ _)); (fail_if_success (with_reducible show wpAny _ _ (eval (Expr.ListComp _ _ _ _) _) _ _ _)); (first | (k_unfold; (try dsimp only)) | (k_end; wrow_close) | walk1 | (dsimp only; walk1) | (leave1; walk_say "STEP leave1"; try dsimp only) | fail "no step")))
    have ha6 := K6 _ _ nab (K5 _ _ ha).2
    refine w_notin (by k_asm) (K6 _ _ nab (K5 _ _ ha).2).1 (by ktr_units) ?_
    by_cases him : i ∈ ms
    · rw [decide_eq_true him]
      (repeat' ((fail_if_success (with_reducible show wpAny _ _ (exec (Stmt.While _ _ _ _) _) _ _ _)); (fail_if_success (with_reducible show wpAny _ _ (exec (Stmt.For _ _ _ _ _) _) _ _ _)); (fail_if_success (with_reducible show wpAny _ _ (pyIter (Value.ref _)) _ _ _)); (fail_if_success (with_reducible show wpAny _ _ (call (Value.ref _) _) _ _ _)); (fail_if_success (with_reducible show wpAny _ _ (eval (Expr.ListComp _ _ _ _) _) _ _ _)); (first | (k_unfold; (try dsimp only)) | (k_end; wrow_close) | walk1 | (dsimp only; walk1) | (leave1; walk_say "STEP leave1"; try dsimp only) | fail "no step")))
      refine TwoPost.next (by k_asm) (by k_asm) R6 (K6 _ _ nab (K5 _ _ ha).2) U6 (fun q hq => ⟨K6 _ _ (hl q hq).2.2 (K5 _ _ (hl q hq).1).2, (hl q hq).2⟩) ⟨_, ?_, ⟨_, upd_upd _ _ _ _⟩, hs.old him, rfl⟩
      simp
    · rw [decide_eq_false him]
      (repeat' ((fail_if_success (with_reducible show wpAny _ _ (exec (Stmt.While _ _ _ _) _) _ _ _)); (fail_if_success (with_reducible show wpAny _ _ (exec (Stmt.For _ _ _ _ _) _) _ _ _)); (fail_if_success (with_reducible show wpAny _ _ (pyIter (Value.ref _)) _ _ _)); (fail_if_success (with_reducible show wpAny _ _ (call (Value.ref _) _) _ _ _)); (fail_if_success (with_reducible show wpAny _ _ (eval (Expr.ListComp _ _ _ _) _) _ _ _)); (first | (k_unfold; (try dsimp only)) | (k_end; wrow_close) | walk1 | (dsimp only; walk1) | (leave1; walk_say "STEP leave1"; try dsimp only) | fail "no step")))
      refine w_loc_append (by k_asm) (by k_asm) R6 ha6 (by assumption) (by omega) ?_
      intro h7 l7 t7 F7 N7 R7 U7 K7
      have hb7 := K7 _ _ (Ne.symm nab) U6
      have hi1 := h.wf.hk i (h.rk i hi)
      have hi2 := hi1.2
      have hi3 := hi1.1
      (repeat' ((fail_if_success (with_reducible show wpAny _ _ (exec (Stmt.While _ _ _ _) _) _ _ _)); (fail_if_success (with_reducible show wpAny _ _ (exec (Stmt.For _ _ _ _ _) _) _ _ _)); (fail_if_success (with_reducible show wpAny _ _ (pyIter (Value.ref _)) _ _ _)); (fail_if_success (with_reducible show wpAny _ _ (call (Value.ref _) _) _ _ _)); (fail_if_success (with_reducible show wpAny _ _ (eval (Expr.ListComp _ _ _ _) _) _ _ _)); (first | (k_unfold; (try dsimp only)) | (k_end; wrow_close) | walk1 | (dsimp only; walk1) | (leave1; walk_say "STEP leave1"; try dsimp only) | fail "no step")))
      have hel := h.wf.hel i
      simp only [List.length_append, List.length_singleton] at hle
      refine w_loc_extend (by k_asm) (by k_asm) R7 hb7 (by assumption) (R7.he hi3 hi2) (hb7.2 (.e i) ⟨hi3, hi2⟩ nofun) (by omega) ?_
      intro h8 l8 t8 ep8 F8 N8 R8 U8 K8
      (repeat' ((fail_if_success (with_reducible show wpAny _ _ (exec (Stmt.While _ _ _ _) _) _ _ _)); (fail_if_success (with_reducible show wpAny _ _ (exec (Stmt.For _ _ _ _ _) _) _ _ _)); (fail_if_success (with_reducible show wpAny _ _ (pyIter (Value.ref _)) _ _ _)); (fail_if_success (with_reducible show wpAny _ _ (call (Value.ref _) _) _ _ _)); (fail_if_success (with_reducible show wpAny _ _ (eval (Expr.ListComp _ _ _ _) _) _ _ _)); (first | (k_unfold; (try dsimp only)) | (k_end; wrow_close) | walk1 | (dsimp only; walk1) | (leave1; walk_say "STEP leave1"; try dsimp only) | fail "no step")))
      refine TwoPost.next (by k_asm) (by k_asm) R8 (K8 _ _ nab U7) U8 (fun q hq => ⟨K8 _ _ (hl q hq).2.2 (K7 _ _ (hl q hq).2.1 (K6 _ _ (hl q hq).2.2 (K5 _ _ (hl q hq).1).2)), (hl q hq).2⟩) ⟨_, ?_, ⟨_, upd_upd _ _ _ _⟩, hs.new h.wf him, rfl⟩
      have := (hs.new h.wf him).ml h
      simp only [List.length_append, List.length_singleton] at *
      omega
  · have q : ws = [] := by assumption
    subst q
    rename KeepNew _ W.n f m l2 W.n f m _ => K5
    rename Rep w W f m _ => R5
    refine w_sorted (by k_asm) (by k_asm) R5 (K5.loc ha).1 (by omega) ?_
    intro b h6 l6 ms6 t6 ep6 F6 N6 R6 U6 K6 n6 p6 o6
    (repeat' ((fail_if_success (with_reducible show wpAny _ _ (exec (Stmt.While _ _ _ _) _) _ _ _)); (fail_if_success (with_reducible show wpAny _ _ (exec (Stmt.For _ _ _ _ _) _) _ _ _)); (fail_if_success (with_reducible show wpAny _ _ (pyIter (Value.ref _)) _ _ _)); (fail_if_success (with_reducible show wpAny _ _ (call (Value.ref _) _) _ _ _)); (fail_if_success (with_reducible show wpAny _ _ (eval (Expr.ListComp _ _ _ _) _) _ _ _)); (first | (k_unfold; (try dsimp only)) | (k_end; wrow_close) | walk1 | (dsimp only; walk1) | (leave1; walk_say "STEP leave1"; try dsimp only) | fail "no step")))
    refine hret _ _ _ _ (by k_asm) (by k_asm) ⟨b, ms6, _, _, rfl, R6, U6, locsOf_keep fun q hq => (K6 _ _ (K5 _ _ (hl q hq).1).2).2, fun i => p6.mem_iff.trans (hs.done i), ?_⟩
    exact sorted_lt o6 (p6.nodup_iff.mpr hs.nd)
end
end
section
/-- how large the world may be after k deeds -/
structure Bd (W : St) (k : Nat) : Prop where
  n : W.n ≤ k + 1
  ro : W.roots.length ≤ k + 1
  e : ∀ i, (W.edges i).length ≤ k
theorem fmod_nat (a b : Nat) : (a : Int).fmod b = ((a % b : Nat) : Int) := by
  rw [Int.fmod_eq_emod_of_nonneg _ (by omega)]; rfl
theorem fdiv_nat (a b : Nat) : (a : Int).fdiv b = ((a / b : Nat) : Int) := by
  rw [Int.fdiv_eq_ediv_of_nonneg _ (by omega)]; rfl
theorem Bd.fresh_e {W : St} {k : Nat} (b : Bd W k) (sz : Int) (i : Nat) : ((freshW W sz).edges i).length ≤ k := by
  show (if i = W.n + 1 then [] else W.edges i).length ≤ k
  split
  · exact Nat.zero_le _
  · exact b.e i
theorem Bd.newRoot {W : St} {k : Nat} (b : Bd W k) {sz : Int} : Bd ((freshW W sz).setRoots (W.roots ++ [W.n + 1])) (k + 1) :=
  ⟨Nat.succ_le_succ b.n, by show (W.roots ++ [W.n + 1]).length ≤ _; have := b.ro; simp; omega, fun i => Nat.le_succ_of_le (b.fresh_e sz i)⟩
theorem Bd.edge {W : St} {k : Nat} {i j : Nat} (hn : W.n ≤ k + 2) (hr : W.roots.length ≤ k + 2) (he : ∀ i, (W.edges i).length ≤ k) : Bd (edgeW W i j) (k + 1) := by
  have c := calm_bar (W.setEdges i (W.edges i ++ [j])) i j (W.phase == 1)
  refine ⟨by unfold edgeW; rw [c.n]; exact hn, by unfold edgeW; rw [c.roots]; exact hr, fun q => ?_⟩
  unfold edgeW
  rw [c.edges]
  show (if q = i then W.edges i ++ [j] else W.edges q).length ≤ _
  split
  · have := he i; simp; omega
  · exact Nat.le_succ_of_le (he q)
theorem Bd.newEdge {W : St} {k : Nat} (b : Bd W k) {sz : Int} {i j : Nat} : Bd (edgeW (freshW W sz) i j) (k + 1) := Bd.edge (Nat.succ_le_succ b.n) (Nat.le_succ_of_le b.ro) (b.fresh_e sz)
theorem Bd.oldEdge {W : St} {k : Nat} (b : Bd W k) {i j : Nat} : Bd (edgeW W i j) (k + 1) := Bd.edge (Nat.le_succ_of_le b.n) (Nat.le_succ_of_le b.ro) b.e
theorem Bd.addRoot {W : St} {k : Nat} (b : Bd W k) {i : Nat} : Bd (W.setRoots (W.roots ++ [i])) (k + 1) :=
  ⟨Nat.le_succ_of_le b.n, by show (W.roots ++ [i]).length ≤ _; have := b.ro; simp; omega, fun j => Nat.le_succ_of_le (b.e j)⟩
theorem Bd.up {W : St} {k : Nat} (b : Bd W k) : Bd W (k + 1) := ⟨Nat.le_succ_of_le b.n, Nat.le_succ_of_le b.ro, fun j => Nat.le_succ_of_le (b.e j)⟩
theorem Bd.still {W W' : St} {k : Nat} (b : Bd W k) (s : Still W W') : Bd W' k := ⟨by rw [s.n]; exact b.n, by rw [s.roots]; exact b.ro, by rw [s.edges]; exact b.e⟩
theorem upd_snd (M : Str → Option Value) {x y : Str} (v : Option Value) (h : y ≠ x) : (fun z => if z = y then v else M z) = fun z => if z = x then M x else if z = y then v else M z := by
  funext z
  by_cases h1 : z = x
  · subst h1; simp [Ne.symm h]
  · simp [h1]
theorem upd_fst (M : Str → Option Value) {x y : Str} (v : Option Value) : (fun z => if z = x then v else M z) = fun z => if z = x then v else if z = y then M y else M z := by
  funext z
  by_cases h1 : z = x
  · simp [h1]
  · by_cases h2 : z = y
    · subst h2; simp [h1]
    · simp [h1, h2]
theorem Inv.lessRoots {W : St} (h : Inv W) (k : Nat) : Inv ((W.setRoots (W.roots.eraseIdx k)).setRlist (W.roots.eraseIdx k)) := by
  have e : W.setEdges 0 (W.edges 0) = W := by
    unfold St.setEdges
    have : (fun j => if j = 0 then W.edges 0 else W.edges j) = W.edges := by
      funext j
      by_cases q : j = 0
      · subst q; simp
      · simp [q]
    rw [this]
  have := h.less (i := 0) (es := W.edges 0) (rs := W.roots.eraseIdx k) (fun _ q => q) (Nat.le_refl _) (fun c hc => List.mem_of_mem_eraseIdx hc) (List.length_eraseIdx_le _ _)
  rw [e] at this
  exact this
theorem Inv.lessEdges {W : St} (h : Inv W) (i k : Nat) : Inv ((W.setEdges i ((W.edges i).eraseIdx k)).setRlist W.roots) :=
  h.less (i := i) (es := (W.edges i).eraseIdx k) (rs := W.roots) (fun c hc => List.mem_of_mem_eraseIdx hc) (List.length_eraseIdx_le _ _) (fun _ q => q) (Nat.le_refl _)
theorem Bd.popRoot {W : St} {k j : Nat} (b : Bd W k) : Bd (W.setRoots (W.roots.eraseIdx j)) (k + 1) :=
  ⟨Nat.le_succ_of_le b.n, Nat.le_trans (List.length_eraseIdx_le _ _) (Nat.le_succ_of_le b.ro), fun i => Nat.le_succ_of_le (b.e i)⟩
theorem Bd.popEdge {W : St} {k i j : Nat} (b : Bd W k) : Bd (W.setEdges i ((W.edges i).eraseIdx j)) (k + 1) :=
  ⟨Nat.le_succ_of_le b.n, Nat.le_succ_of_le b.ro, fun q => by
    show (if q = i then (W.edges i).eraseIdx j else W.edges q).length ≤ _
    split
    · exact Nat.le_trans (List.length_eraseIdx_le _ _) (Nat.le_succ_of_le (b.e i))
    · exact Nat.le_succ_of_le (b.e q)⟩
section
variable {w : World} {p : Program} {loose : List Str} {mean : ExcName → Option Value} {mg mb : Str → Option Value} {W : St} {f : Fix} {m : Mut} {l : Led} {i : Nat}
theorem law_deed_c (R : Rep w W f m l) (h : Inv W) {k : Nat} (hk : k ≤ 14) (hb : Bd W k) (hxal : f.xal = []) (hxed : f.xed = []) {z : Nat} {tz : Tok} :
   Ctr w p loose mean mg mb 397 [.ref f.wd, .int (z : Int) tz] l 34 (fun r l' => r = .none ∧ ∃ W' f' m', Inv W' ∧ Bd W' (k + 1) ∧ f'.wd = f.wd ∧ f'.ce = f.ce ∧ f'.xal = [] ∧ f'.xed = [] ∧ Rep w W' f' m' l' ∧ Keep W.n f m l W'.n f' m' l') := by
  unfold Ctr; k_fill; intro dp un gd cn cs a ccd cl outer A₀ base h₀ L mF s Q E B F X N T hk hdp hun hret; k_dflt (refine' code_defC ?k1 ?k2 ?k3 ?k4 ?k5 ?kA ?kF ?kK ?k6 ?k7 ?k8 ?k9 ?kB ?kD ?_ ?c2 ?c3 ?c4; (case kA => exact rfl); (case kF => exact rfl); (case kK => assumption); (case k1 => k_asm); (case k2 => k_asm); (case k3 => k_asm); (case k4 => k_asm); (case k5 => k_asm); (case k6 => k_is); (case k7 => k_is); (case k8 => ktr_room); (case k9 => exact BindsTo.of_eq rfl); (case kB => exact rfl); (case kD => decide +kernel); (case c2 => exact rfl); (case c3 => exact rfl); (case c4 => exact rfl); k_whole; intro gC LC hC tkC cellsC FGC FC NC YC BC XC TC l1; k_cells YC; (try simp only [List.cons_append, List.nil_append] at NC); (try dsimp only); (try k_fold))
  rename Obj => oc
  rename oc.data = _ => d0
  have hdc : oc.data = .cell (some (.ref f.wd)) := d0
  clear d0
  have R1 : Rep w W f m ((LC + 1, oc) :: l) := R.mono fun p hp => .tail _ hp
  have U1 : Loc W.n f m ((LC + 1, oc) :: l) (LC + 1) oc := ⟨.head _, R.off fun p hp q => by have := l1 p hp; rw [q] at this; exact absurd this (by exact Nat.not_lt.mpr (Nat.le_succ LC))⟩
  have K1 : Keep W.n f m l W.n f m ((LC + 1, oc) :: l) := .more fun p hp => .tail _ hp
  have mcd := U1.1
  (repeat' ((fail_if_success (with_reducible show wpAny _ _ (exec (Stmt.While _ _ _ _) _) _ _ _)); (fail_if_success (with_reducible show wpAny _ _ (exec (Stmt.For _ _ _ _ _) _) _ _ _)); (fail_if_success (with_reducible show wpAny _ _ (pyIter (Value.ref _)) _ _ _)); (fail_if_success (with_reducible show wpAny _ _ (call (Value.ref _) _) _ _ _)); (fail_if_success (with_reducible show wpAny _ _ (eval (Expr.ListComp _ _ _ _) _) _ _ _)); (first | (k_unfold; (try dsimp only)) | (k_end; wrow_close) | walk1 | (dsimp only; walk1) | (leave1; walk_say "STEP leave1"; try dsimp only) | fail "no step")))
  (refine' Ctr.use ?k1 ?k2 ?k3 ?k4 ?k5 ?k6 (law_reached_c R1 h (by have := hb.n; omega)) ?k7 ?k8 ?_; (case k1 => k_asm); (case k2 => k_asm); (case k3 => k_asm); (case k4 => k_asm); (case k5 => k_asm); (case k6 => first | exact rfl | assumption); (case k7 => ktr_room); (case k8 => ktr_units))
  rintro r9 l9 h9 tk9 F9 N9 ⟨a, ms, t, ep, rfl, R3, U3, K3, hm, hs⟩
  (try dsimp only); (try k_fold)
  have mcd2 := (K3 _ _ U1).1
  (repeat' ((fail_if_success (with_reducible show wpAny _ _ (exec (Stmt.If _ _ _ _) _) _ _ _)); (fail_if_success (with_reducible show wpAny _ _ (exec (Stmt.While _ _ _ _) _) _ _ _)); (fail_if_success (with_reducible show wpAny _ _ (exec (Stmt.For _ _ _ _ _) _) _ _ _)); (fail_if_success (with_reducible show wpAny _ _ (pyIter (Value.ref _)) _ _ _)); (fail_if_success (with_reducible show wpAny _ _ (call (Value.ref _) _) _ _ _)); (fail_if_success (with_reducible show wpAny _ _ (eval (Expr.ListComp _ _ _ _) _) _ _ _)); (first | (k_unfold; (try dsimp only)) | (k_end; wrow_close) | walk1 | (dsimp only; walk1) | (leave1; walk_say "STEP leave1"; try dsimp only) | fail "no step")))
  have hrn : ∃ rn : Nat, ((z : Int).fdiv 7) = (rn : Int) := ⟨z / 7, by rw [Int.fdiv_eq_ediv_of_nonneg _ (by omega)]; omega⟩
  obtain ⟨rn, ern⟩ := hrn
  rename Fr _ _ _ _ => F5
  rw [ern] at F5
  generalize (z : Int).fmod 7 = fm at F5
  have hml : ms.length ≤ W.n := nodup_le W.n ms (hs.imp fun q => Nat.ne_of_lt q) fun i hi => h.wf.hk i (h.rk i ((hm i).mp hi))
  have hbn := hb.n
  have hbr := hb.ro
  have hmw : ∀ i ∈ ms, 1 ≤ i ∧ i ≤ W.n := fun i hi => h.wf.hk i (h.rk i ((hm i).mp hi))
  have hpos : ms ≠ [] → (ms.length : Int) ≠ 0 := fun q => by
    have := List.length_pos_iff.mpr q
    omega
  refine cut_rep (m₀ := ?M) (by exact F5) (P := fun W' f' m' mm => (∃ u v, mm = fun y => if y = Str.ofString "turn" then u else if y = Str.ofString "some" then v else ?M y) ∧ Inv (W'.setRlist W'.roots) ∧ Bd W' (k + 1) ∧ f'.wd = f.wd ∧ f'.ce = f.ce ∧ f'.xal = [] ∧ f'.xed = []) ((LC + 1, oc) :: locsOf W.n f m l) ?_ ?_
  · have hl0 : ∀ q ∈ (LC + 1, oc) :: locsOf W.n f m l, Loc W.n f m l9 q.1 q.2 := locs_cons (K3 _ _ U1) (locsOf_from (K1.trans K3))
    (repeat' ((fail_if_success (with_reducible show wpAny _ _ (call (Value.builtin "len") _) _ _ _)); (fail_if_success (with_reducible show wpAny _ _ (exec (Stmt.While _ _ _ _) _) _ _ _)); (fail_if_success (with_reducible show wpAny _ _ (exec (Stmt.For _ _ _ _ _) _) _ _ _)); (fail_if_success (with_reducible show wpAny _ _ (pyIter (Value.ref _)) _ _ _)); (fail_if_success (with_reducible show wpAny _ _ (call (Value.ref _) _) _ _ _)); (fail_if_success (with_reducible show wpAny _ _ (eval (Expr.ListComp _ _ _ _) _) _ _ _)); (first | (k_unfold; (try dsimp only)) | (k_end; wrow_close) | walk1 | (dsimp only; walk1) | (leave1; walk_say "STEP leave1"; try dsimp only) | fail "no step")))
    · ((rename Fr _ _ _ _ => lF'); (with_unfolding_all refine' For_invVF lF' ?k1 ?k2 ?_; (case k1 => exact rfl); (case k2 => exact rfl); k_whole))
      (repeat' ((fail_if_success (with_reducible show wpAny _ _ (call (Value.type "range") _) _ _ _)); (fail_if_success (with_reducible show wpAny _ _ (exec (Stmt.While _ _ _ _) _) _ _ _)); (fail_if_success (with_reducible show wpAny _ _ (exec (Stmt.For _ _ _ _ _) _) _ _ _)); (fail_if_success (with_reducible show wpAny _ _ (pyIter (Value.ref _)) _ _ _)); (fail_if_success (with_reducible show wpAny _ _ (call (Value.ref _) _) _ _ _)); (fail_if_success (with_reducible show wpAny _ _ (eval (Expr.ListComp _ _ _ _) _) _ _ _)); (first | (k_unfold; (try dsimp only)) | (k_end; wrow_close) | walk1 | (dsimp only; walk1) | (leave1; walk_say "STEP leave1"; try dsimp only) | fail "no step")))
      have e6 : 1 + (rn : Int).fmod 6 = ((1 + rn % 6 : Nat) : Int) := by
        rw [show ((6 : Int)) = ((6 : Nat) : Int) from rfl, fmod_nat]; omega
      rw [e6]
      have hnn : 1 + rn % 6 ≤ 6 := by omega
      clear e6
      generalize 1 + rn % 6 = nn at hnn ⊢
      rename Rep w W f m _ => R5
      rename Fr _ _ _ _ => F6
      with_unfolding_all refine range1_rows F6 (by k_asm) ?_
      intro r7 h7 t7 u7 v7 hr7 F7 N7
      (repeat' ((fail_if_success (with_reducible show wpAny _ _ (exec (Stmt.While _ _ _ _) _) _ _ _)); (fail_if_success (with_reducible show wpAny _ _ (exec (Stmt.For _ _ _ _ _) _) _ _ _)); (fail_if_success (with_reducible show wpAny _ _ (pyIter (Value.ref _)) _ _ _)); (fail_if_success (with_reducible show wpAny _ _ (call (Value.ref _) _) _ _ _)); (fail_if_success (with_reducible show wpAny _ _ (eval (Expr.ListComp _ _ _ _) _) _ _ _)); (first | (k_unfold; (try dsimp only)) | (k_end; wrow_close) | walk1 | (dsimp only; walk1) | (leave1; walk_say "STEP leave1"; try dsimp only) | fail "no step")))
      refine iter_range (m₀ := ?M2) (n := nn) ((LC + 1, oc) :: locsOf W.n f m l) (fun n W' f' m' mm => (∃ u, mm = fun y => if y = Str.ofString "turn" then u else ?M2 y) ∧ Inv W' ∧ Bd W' k ∧ f' = f) (by rfl) hr7 (small_one (by omega) (by omega) (by omega) (by omega)) (by rw [rangeSize_nat]; omega) (by exact F7) (by k_asm) R5 (locs_on (by walk_at "mine keep") hl0) ⟨⟨_, upd_self _ _⟩, h, hb, rfl⟩ ?_ ?_
      · rintro n0 k0 t0 W8 f8 m8 mm l8 h8 tk8 I oI hlt ⟨⟨u8, rfl⟩, hi8, hb8, rfl⟩ R8 hl8 hI8 F8 N8
        have mcd8 := (hl8 _ (.head _)).1
        (repeat' ((fail_if_success (with_reducible show wpAny _ _ (exec (Stmt.While _ _ _ _) _) _ _ _)); (fail_if_success (with_reducible show wpAny _ _ (exec (Stmt.For _ _ _ _ _) _) _ _ _)); (fail_if_success (with_reducible show wpAny _ _ (pyIter (Value.ref _)) _ _ _)); (fail_if_success (with_reducible show wpAny _ _ (call (Value.ref _) _) _ _ _)); (fail_if_success (with_reducible show wpAny _ _ (eval (Expr.ListComp _ _ _ _) _) _ _ _)); (first | (k_unfold; (try dsimp only)) | (k_end; wrow_close) | walk1 | (dsimp only; walk1) | (leave1; walk_say "STEP leave1"; try dsimp only) | fail "no step")))
        (refine' Ctr.use ?k1 ?k2 ?k3 ?k4 ?k5 ?k6 (single_c R8 hi8) ?k7 ?k8 ?_; (case k1 => k_asm); (case k2 => k_asm); (case k3 => k_asm); (case k4 => k_asm); (case k5 => k_asm); (case k6 => first | exact rfl | assumption); (case k7 => ktr_room); (case k8 => ktr_units))
        rintro r9 l9 h9 tk9 F9 N9 ⟨⟨k9, t9, rfl⟩, W9, m9, hs9, R9, K9, er⟩
        (try dsimp only); (try k_fold)
        have hs9' := hs9.still hi8
        (repeat' ((fail_if_success (with_reducible show wpAny _ _ (exec (Stmt.While _ _ _ _) _) _ _ _)); (fail_if_success (with_reducible show wpAny _ _ (exec (Stmt.For _ _ _ _ _) _) _ _ _)); (fail_if_success (with_reducible show wpAny _ _ (pyIter (Value.ref _)) _ _ _)); (fail_if_success (with_reducible show wpAny _ _ (call (Value.ref _) _) _ _ _)); (fail_if_success (with_reducible show wpAny _ _ (eval (Expr.ListComp _ _ _ _) _) _ _ _)); (first | (k_unfold; (try dsimp only)) | (k_end; wrow_close) | walk1 | (dsimp only; walk1) | (leave1; walk_say "STEP leave1"; try dsimp only) | fail "no step")))
        exact ForPost.next (by k_asm) (by k_asm) R9 (locs_on K9 (locs_cons hI8 hl8)) ⟨⟨_, upd_upd _ _ _ _⟩, hi8.step hs9, hb8.still hs9', rfl⟩
      · rintro W8 f8 m8 mm l8 h8 tk8 ⟨⟨u8, rfl⟩, hi8, hb8, rfl⟩ R8 hl8 F8 N8
        (repeat' ((fail_if_success (with_reducible show wpAny _ _ (exec (Stmt.While _ _ _ _) _) _ _ _)); (fail_if_success (with_reducible show wpAny _ _ (exec (Stmt.For _ _ _ _ _) _) _ _ _)); (fail_if_success (with_reducible show wpAny _ _ (pyIter (Value.ref _)) _ _ _)); (fail_if_success (with_reducible show wpAny _ _ (call (Value.ref _) _) _ _ _)); (fail_if_success (with_reducible show wpAny _ _ (eval (Expr.ListComp _ _ _ _) _) _ _ _)); (first | (k_unfold; (try dsimp only)) | (k_end; wrow_close) | walk1 | (dsimp only; walk1) | (leave1; walk_say "STEP leave1"; try dsimp only) | fail "no step")))
        exact CutPost.next (by k_asm) (by k_asm) R8 hl8 ⟨⟨_, _, upd_fst _ _⟩, hi8.again, hb8.up, rfl, rfl, hxal, hxed⟩
    · rename Rep w W f m _ => R5
      (refine' Ctr.use ?k1 ?k2 ?k3 ?k4 ?k5 ?k6 (law_new_c R5 h.wf hxal hxed) ?k7 ?k8 ?_; (case k1 => k_asm); (case k2 => k_asm); (case k3 => k_asm); (case k4 => k_asm); (case k5 => k_asm); (case k6 => first | exact rfl | assumption); (case k7 => ktr_room); (case k8 => ktr_units))
      rintro r9 l9 h9 tk9 F9 N9 ⟨⟨t9, rfl⟩, x, d, e, R6, K6⟩
      (try dsimp only); (try k_fold)
      obtain ⟨fi, fk, fe, fw, fr⟩ := h.fresh (by omega) (1 + (rn : Int).fmod 9)
      (repeat' ((fail_if_success (with_reducible show wpAny _ _ (call (Value.builtin _) _) _ _ _)); (fail_if_success (with_reducible show wpAny _ _ (exec (Stmt.While _ _ _ _) _) _ _ _)); (fail_if_success (with_reducible show wpAny _ _ (exec (Stmt.For _ _ _ _ _) _) _ _ _)); (fail_if_success (with_reducible show wpAny _ _ (pyIter (Value.ref _)) _ _ _)); (fail_if_success (with_reducible show wpAny _ _ (call (Value.ref _) _) _ _ _)); (fail_if_success (with_reducible show wpAny _ _ (eval (Expr.ListComp _ _ _ _) _) _ _ _)); (first | (k_unfold; (try dsimp only)) | (k_end; wrow_close) | walk1 | (dsimp only; walk1) | (leave1; walk_say "STEP leave1"; try dsimp only) | fail "no step")))
      refine w_append_ro (W := freshW W (1 + (rn : Int).fmod 9)) (f := newF f (W.n + 1) x d e) (by k_asm) (by k_asm) R6 (by show W.roots.length ≤ 1000; omega) fun h7 l7 F7 N7 R7 K7 => ?_
      (repeat' ((fail_if_success (with_reducible show wpAny _ _ (exec (Stmt.While _ _ _ _) _) _ _ _)); (fail_if_success (with_reducible show wpAny _ _ (exec (Stmt.For _ _ _ _ _) _) _ _ _)); (fail_if_success (with_reducible show wpAny _ _ (pyIter (Value.ref _)) _ _ _)); (fail_if_success (with_reducible show wpAny _ _ (call (Value.ref _) _) _ _ _)); (fail_if_success (with_reducible show wpAny _ _ (eval (Expr.ListComp _ _ _ _) _) _ _ _)); (first | (k_unfold; (try dsimp only)) | (k_end; wrow_close) | walk1 | (dsimp only; walk1) | (leave1; walk_say "STEP leave1"; try dsimp only) | fail "no step")))
      exact CutPost.next (by k_asm) (by k_asm) R7 (locs_on (by walk_at "mine keep") hl0) ⟨⟨_, _, upd_self2 _ (by decide)⟩, fi.addRoot fk (.inr ⟨fe, fw⟩) (by show W.roots.length < 100; omega), hb.newRoot, rfl, rfl, rfl, rfl⟩
    · rename Rep w W f m _ => R5
      (refine' Ctr.use ?k1 ?k2 ?k3 ?k4 ?k5 ?k6 (law_new_c R5 h.wf hxal hxed) ?k7 ?k8 ?_; (case k1 => k_asm); (case k2 => k_asm); (case k3 => k_asm); (case k4 => k_asm); (case k5 => k_asm); (case k6 => first | exact rfl | assumption); (case k7 => ktr_room); (case k8 => ktr_units))
      rintro r9 l9 h9 tk9 F9 N9 ⟨⟨t9, rfl⟩, x, d, e, R6, K6⟩
      (try dsimp only); (try k_fold)
      obtain ⟨fi, fk, fe, fw, fr⟩ := h.fresh (by omega) (1 + (rn : Int).fmod 9)
      (repeat' ((fail_if_success (with_reducible show wpAny _ _ (call (Value.builtin _) _) _ _ _)); (fail_if_success (with_reducible show wpAny _ _ (exec (Stmt.While _ _ _ _) _) _ _ _)); (fail_if_success (with_reducible show wpAny _ _ (exec (Stmt.For _ _ _ _ _) _) _ _ _)); (fail_if_success (with_reducible show wpAny _ _ (pyIter (Value.ref _)) _ _ _)); (fail_if_success (with_reducible show wpAny _ _ (call (Value.ref _) _) _ _ _)); (fail_if_success (with_reducible show wpAny _ _ (eval (Expr.ListComp _ _ _ _) _) _ _ _)); (first | (k_unfold; (try dsimp only)) | (k_end; wrow_close) | walk1 | (dsimp only; walk1) | (leave1; walk_say "STEP leave1"; try dsimp only) | fail "no step")))
      refine w_append_ro (W := freshW W (1 + (rn : Int).fmod 9)) (f := newF f (W.n + 1) x d e) (by k_asm) (by k_asm) R6 (by show W.roots.length ≤ 1000; omega) fun h7 l7 F7 N7 R7 K7 => ?_
      (repeat' ((fail_if_success (with_reducible show wpAny _ _ (exec (Stmt.While _ _ _ _) _) _ _ _)); (fail_if_success (with_reducible show wpAny _ _ (exec (Stmt.For _ _ _ _ _) _) _ _ _)); (fail_if_success (with_reducible show wpAny _ _ (pyIter (Value.ref _)) _ _ _)); (fail_if_success (with_reducible show wpAny _ _ (call (Value.ref _) _) _ _ _)); (fail_if_success (with_reducible show wpAny _ _ (eval (Expr.ListComp _ _ _ _) _) _ _ _)); (first | (k_unfold; (try dsimp only)) | (k_end; wrow_close) | walk1 | (dsimp only; walk1) | (leave1; walk_say "STEP leave1"; try dsimp only) | fail "no step")))
      exact CutPost.next (by k_asm) (by k_asm) R7 (locs_on (by walk_at "mine keep") hl0) ⟨⟨_, _, upd_self2 _ (by decide)⟩, fi.addRoot fk (.inr ⟨fe, fw⟩) (by show W.roots.length < 100; omega), hb.newRoot, rfl, rfl, rfl, rfl⟩
    · have z1 := hpos (by assumption)
      have z2 : 0 < ms.length := by omega
      (repeat' ((fail_if_success (with_reducible show wpAny _ _ (subscriptTail _ _ (Value.ref _) (Value.int _ _)) _ _ _)); (fail_if_success (with_reducible show wpAny _ _ (exec (Stmt.While _ _ _ _) _) _ _ _)); (fail_if_success (with_reducible show wpAny _ _ (exec (Stmt.For _ _ _ _ _) _) _ _ _)); (fail_if_success (with_reducible show wpAny _ _ (pyIter (Value.ref _)) _ _ _)); (fail_if_success (with_reducible show wpAny _ _ (call (Value.ref _) _) _ _ _)); (fail_if_success (with_reducible show wpAny _ _ (eval (Expr.ListComp _ _ _ _) _) _ _ _)); (first | (k_unfold; (try dsimp only)) | (k_end; wrow_close) | walk1 | (dsimp only; walk1) | (leave1; walk_say "STEP leave1"; try dsimp only) | fail "no step")))
      rename Rep w W f m _ => R5
      refine w_at (k := rn % ms.length) (by k_asm) (Loc.mem (by walk_at "mine loc")) (fmod_nat _ _) (Nat.mod_lt _ z2) (by omega) (by exact rfl) fun i ti hi => ?_
      obtain ⟨hi1, hi2⟩ := hmw i hi
      have hri := (hm i).mp hi
      (repeat' ((fail_if_success (with_reducible show wpAny _ _ (exec (Stmt.While _ _ _ _) _) _ _ _)); (fail_if_success (with_reducible show wpAny _ _ (exec (Stmt.For _ _ _ _ _) _) _ _ _)); (fail_if_success (with_reducible show wpAny _ _ (pyIter (Value.ref _)) _ _ _)); (fail_if_success (with_reducible show wpAny _ _ (call (Value.ref _) _) _ _ _)); (fail_if_success (with_reducible show wpAny _ _ (eval (Expr.ListComp _ _ _ _) _) _ _ _)); (first | (k_unfold; (try dsimp only)) | (k_end; wrow_close) | walk1 | (dsimp only; walk1) | (leave1; walk_say "STEP leave1"; try dsimp only) | fail "no step")))
      (refine' Ctr.use ?k1 ?k2 ?k3 ?k4 ?k5 ?k6 (law_new_c R5 h.wf hxal hxed) ?k7 ?k8 ?_; (case k1 => k_asm); (case k2 => k_asm); (case k3 => k_asm); (case k4 => k_asm); (case k5 => k_asm); (case k6 => first | exact rfl | assumption); (case k7 => ktr_room); (case k8 => ktr_units))
      rintro r9 l9 h9 tk9 F9 N9 ⟨⟨t9, rfl⟩, x, d, e, R6, K6⟩
      (try dsimp only); (try k_fold)
      obtain ⟨fi, fk, fe, fw, fr⟩ := h.fresh (by omega) (1 + (rn : Int).fmod 9)
      (repeat' ((fail_if_success (with_reducible show wpAny _ _ (exec (Stmt.While _ _ _ _) _) _ _ _)); (fail_if_success (with_reducible show wpAny _ _ (exec (Stmt.For _ _ _ _ _) _) _ _ _)); (fail_if_success (with_reducible show wpAny _ _ (pyIter (Value.ref _)) _ _ _)); (fail_if_success (with_reducible show wpAny _ _ (call (Value.ref _) _) _ _ _)); (fail_if_success (with_reducible show wpAny _ _ (eval (Expr.ListComp _ _ _ _) _) _ _ _)); (first | (k_unfold; (try dsimp only)) | (k_end; wrow_close) | walk1 | (dsimp only; walk1) | (leave1; walk_say "STEP leave1"; try dsimp only) | fail "no step")))
      (refine' Ctr.use ?k1 ?k2 ?k3 ?k4 ?k5 ?k6 (law_edge_c (W := freshW W (1 + (rn : Int).fmod 9)) R6 fi.wf hi1 (Nat.le_succ_of_le hi2) (Nat.succ_pos _) (Nat.le_refl _) (by have := hb.fresh_e (1 + (rn : Int).fmod 9) i; omega)) ?k7 ?k8 ?_; (case k1 => k_asm); (case k2 => k_asm); (case k3 => k_asm); (case k4 => k_asm); (case k5 => k_asm); (case k6 => first | exact rfl | assumption); (case k7 => ktr_room); (case k8 => ktr_units))
      rintro r9 l9 h9 tk9 F9 N9 ⟨rfl, R7, K7⟩
      (try dsimp only); (try k_fold)
      (repeat' ((fail_if_success (with_reducible show wpAny _ _ (exec (Stmt.While _ _ _ _) _) _ _ _)); (fail_if_success (with_reducible show wpAny _ _ (exec (Stmt.For _ _ _ _ _) _) _ _ _)); (fail_if_success (with_reducible show wpAny _ _ (pyIter (Value.ref _)) _ _ _)); (fail_if_success (with_reducible show wpAny _ _ (call (Value.ref _) _) _ _ _)); (fail_if_success (with_reducible show wpAny _ _ (eval (Expr.ListComp _ _ _ _) _) _ _ _)); (first | (k_unfold; (try dsimp only)) | (k_end; wrow_close) | walk1 | (dsimp only; walk1) | (leave1; walk_say "STEP leave1"; try dsimp only) | fail "no step")))
      exact CutPost.next (by k_asm) (by k_asm) R7 (locs_on (by walk_at "mine keep") hl0) ⟨⟨_, _, upd_self2 _ (by decide)⟩, Inv.again (fi.addEdge (fr i hri) fk (.inr ⟨fe, fw, by omega⟩) (by have := hb.fresh_e (1 + (rn : Int).fmod 9) i; omega)), hb.newEdge, rfl, rfl, rfl, rfl⟩
    · have z1 := hpos (by assumption)
      have z2 : 0 < ms.length := by omega
      (repeat' ((fail_if_success (with_reducible show wpAny _ _ (subscriptTail _ _ (Value.ref _) (Value.int _ _)) _ _ _)); (fail_if_success (with_reducible show wpAny _ _ (exec (Stmt.While _ _ _ _) _) _ _ _)); (fail_if_success (with_reducible show wpAny _ _ (exec (Stmt.For _ _ _ _ _) _) _ _ _)); (fail_if_success (with_reducible show wpAny _ _ (pyIter (Value.ref _)) _ _ _)); (fail_if_success (with_reducible show wpAny _ _ (call (Value.ref _) _) _ _ _)); (fail_if_success (with_reducible show wpAny _ _ (eval (Expr.ListComp _ _ _ _) _) _ _ _)); (first | (k_unfold; (try dsimp only)) | (k_end; wrow_close) | walk1 | (dsimp only; walk1) | (leave1; walk_say "STEP leave1"; try dsimp only) | fail "no step")))
      rename Rep w W f m _ => R5
      refine w_at (k := rn % ms.length) (by k_asm) (Loc.mem (by walk_at "mine loc")) (fmod_nat _ _) (Nat.mod_lt _ z2) (by omega) (by exact rfl) fun i ti hi => ?_
      have hri := (hm i).mp hi
      (repeat' ((fail_if_success (with_reducible show wpAny _ _ (call (Value.builtin _) _) _ _ _)); (fail_if_success (with_reducible show wpAny _ _ (exec (Stmt.While _ _ _ _) _) _ _ _)); (fail_if_success (with_reducible show wpAny _ _ (exec (Stmt.For _ _ _ _ _) _) _ _ _)); (fail_if_success (with_reducible show wpAny _ _ (pyIter (Value.ref _)) _ _ _)); (fail_if_success (with_reducible show wpAny _ _ (call (Value.ref _) _) _ _ _)); (fail_if_success (with_reducible show wpAny _ _ (eval (Expr.ListComp _ _ _ _) _) _ _ _)); (first | (k_unfold; (try dsimp only)) | (k_end; wrow_close) | walk1 | (dsimp only; walk1) | (leave1; walk_say "STEP leave1"; try dsimp only) | fail "no step")))
      refine w_append_ro (by k_asm) (by k_asm) R5 (by omega) fun h7 l7 F7 N7 R7 K7 => ?_
      (repeat' ((fail_if_success (with_reducible show wpAny _ _ (exec (Stmt.While _ _ _ _) _) _ _ _)); (fail_if_success (with_reducible show wpAny _ _ (exec (Stmt.For _ _ _ _ _) _) _ _ _)); (fail_if_success (with_reducible show wpAny _ _ (pyIter (Value.ref _)) _ _ _)); (fail_if_success (with_reducible show wpAny _ _ (call (Value.ref _) _) _ _ _)); (fail_if_success (with_reducible show wpAny _ _ (eval (Expr.ListComp _ _ _ _) _) _ _ _)); (first | (k_unfold; (try dsimp only)) | (k_end; wrow_close) | walk1 | (dsimp only; walk1) | (leave1; walk_say "STEP leave1"; try dsimp only) | fail "no step")))
      exact CutPost.next (by k_asm) (by k_asm) R7 (locs_on (by walk_at "mine keep") hl0) ⟨⟨_, _, upd_self2 _ (by decide)⟩, h.addRoot (h.rk i hri) (.inl hri) (by omega), hb.addRoot, rfl, rfl, hxal, hxed⟩
    · have z1 := hpos (by assumption)
      have z2 : W.roots.length ≠ 0 := fun q => by
        have z3 : ms ≠ [] := by assumption
        obtain ⟨i, hi⟩ := List.exists_mem_of_ne_nil _ z3
        have r := (hm i).mp hi
        have : ∀ i, Reach W i → False := fun i r => by
          induction r with
          | root h => rw [List.eq_nil_of_length_eq_zero q] at h; exact nomatch h
          | edge _ _ ih => exact ih
        exact this i r
      have z4 : (W.roots.length : Int) ≠ 0 := by omega
      (repeat' ((fail_if_success (with_reducible show wpAny _ _ (call (Value.builtin "list.pop") _) _ _ _)); (fail_if_success (with_reducible show wpAny _ _ (exec (Stmt.While _ _ _ _) _) _ _ _)); (fail_if_success (with_reducible show wpAny _ _ (exec (Stmt.For _ _ _ _ _) _) _ _ _)); (fail_if_success (with_reducible show wpAny _ _ (pyIter (Value.ref _)) _ _ _)); (fail_if_success (with_reducible show wpAny _ _ (call (Value.ref _) _) _ _ _)); (fail_if_success (with_reducible show wpAny _ _ (eval (Expr.ListComp _ _ _ _) _) _ _ _)); (first | (k_unfold; (try dsimp only)) | (k_end; wrow_close) | walk1 | (dsimp only; walk1) | (leave1; walk_say "STEP leave1"; try dsimp only) | fail "no step")))
      rename Rep w W f m _ => R5
      refine w_ro_pop (k := rn % W.roots.length) (fmod_nat _ _) (by k_asm) (by k_asm) R5 (Nat.mod_lt _ (by omega)) (by omega) fun y7 h7 l7 F7 N7 R7 K7 => ?_
      (repeat' ((fail_if_success (with_reducible show wpAny _ _ (exec (Stmt.While _ _ _ _) _) _ _ _)); (fail_if_success (with_reducible show wpAny _ _ (exec (Stmt.For _ _ _ _ _) _) _ _ _)); (fail_if_success (with_reducible show wpAny _ _ (pyIter (Value.ref _)) _ _ _)); (fail_if_success (with_reducible show wpAny _ _ (call (Value.ref _) _) _ _ _)); (fail_if_success (with_reducible show wpAny _ _ (eval (Expr.ListComp _ _ _ _) _) _ _ _)); (first | (k_unfold; (try dsimp only)) | (k_end; wrow_close) | walk1 | (dsimp only; walk1) | (leave1; walk_say "STEP leave1"; try dsimp only) | fail "no step")))
      exact CutPost.next (by k_asm) (by k_asm) R7 (locs_on (by walk_at "mine keep") hl0) ⟨⟨_, _, upd_self2 _ (by decide)⟩, h.lessRoots _, hb.popRoot, rfl, rfl, hxal, hxed⟩
    · have z1 := hpos (by assumption)
      have z2 : 0 < ms.length := by omega
      (repeat' ((fail_if_success (with_reducible show wpAny _ _ (subscriptTail _ _ (Value.ref _) (Value.int _ _)) _ _ _)); (fail_if_success (with_reducible show wpAny _ _ (exec (Stmt.While _ _ _ _) _) _ _ _)); (fail_if_success (with_reducible show wpAny _ _ (exec (Stmt.For _ _ _ _ _) _) _ _ _)); (fail_if_success (with_reducible show wpAny _ _ (pyIter (Value.ref _)) _ _ _)); (fail_if_success (with_reducible show wpAny _ _ (call (Value.ref _) _) _ _ _)); (fail_if_success (with_reducible show wpAny _ _ (eval (Expr.ListComp _ _ _ _) _) _ _ _)); (first | (k_unfold; (try dsimp only)) | (k_end; wrow_close) | walk1 | (dsimp only; walk1) | (leave1; walk_say "STEP leave1"; try dsimp only) | fail "no step")))
      rename Rep w W f m _ => R5
      refine w_at (k := rn % ms.length) (by k_asm) (Loc.mem (by walk_at "mine loc")) (fmod_nat _ _) (Nat.mod_lt _ z2) (by omega) (by exact rfl) fun i ti hi => ?_
      obtain ⟨hi1, hi2⟩ := hmw i hi
      have hri := (hm i).mp hi
      (repeat' ((fail_if_success (with_reducible show wpAny _ _ (call (Value.builtin "len") _) _ _ _)); (fail_if_success (with_reducible show wpAny _ _ (exec (Stmt.While _ _ _ _) _) _ _ _)); (fail_if_success (with_reducible show wpAny _ _ (exec (Stmt.For _ _ _ _ _) _) _ _ _)); (fail_if_success (with_reducible show wpAny _ _ (pyIter (Value.ref _)) _ _ _)); (fail_if_success (with_reducible show wpAny _ _ (call (Value.ref _) _) _ _ _)); (fail_if_success (with_reducible show wpAny _ _ (eval (Expr.ListComp _ _ _ _) _) _ _ _)); (first | (k_unfold; (try dsimp only)) | (k_end; wrow_close) | walk1 | (dsimp only; walk1) | (leave1; walk_say "STEP leave1"; try dsimp only) | fail "no step")))
      · have z3 : W.edges i ≠ [] := by assumption
        have z4 := List.length_pos_iff.mpr z3
        have z5 : ((W.edges i).length : Int) ≠ 0 := by omega
        have hbe := hb.e i
        (repeat' ((fail_if_success (with_reducible show wpAny _ _ (call (Value.builtin "list.pop") _) _ _ _)); (fail_if_success (with_reducible show wpAny _ _ (exec (Stmt.While _ _ _ _) _) _ _ _)); (fail_if_success (with_reducible show wpAny _ _ (exec (Stmt.For _ _ _ _ _) _) _ _ _)); (fail_if_success (with_reducible show wpAny _ _ (pyIter (Value.ref _)) _ _ _)); (fail_if_success (with_reducible show wpAny _ _ (call (Value.ref _) _) _ _ _)); (fail_if_success (with_reducible show wpAny _ _ (eval (Expr.ListComp _ _ _ _) _) _ _ _)); (first | (k_unfold; (try dsimp only)) | (k_end; wrow_close) | walk1 | (dsimp only; walk1) | (leave1; walk_say "STEP leave1"; try dsimp only) | fail "no step")))
        rename Rep w W f m _ => R5
        refine w_e_pop (k := rn / ms.length % (W.edges i).length) (by rw [fdiv_nat, fmod_nat]) (by k_asm) (by k_asm) R5 hi1 hi2 (Nat.mod_lt _ z4) (by omega) fun y7 h7 l7 F7 N7 R7 K7 => ?_
        (repeat' ((fail_if_success (with_reducible show wpAny _ _ (exec (Stmt.While _ _ _ _) _) _ _ _)); (fail_if_success (with_reducible show wpAny _ _ (exec (Stmt.For _ _ _ _ _) _) _ _ _)); (fail_if_success (with_reducible show wpAny _ _ (pyIter (Value.ref _)) _ _ _)); (fail_if_success (with_reducible show wpAny _ _ (call (Value.ref _) _) _ _ _)); (fail_if_success (with_reducible show wpAny _ _ (eval (Expr.ListComp _ _ _ _) _) _ _ _)); (first | (k_unfold; (try dsimp only)) | (k_end; wrow_close) | walk1 | (dsimp only; walk1) | (leave1; walk_say "STEP leave1"; try dsimp only) | fail "no step")))
        exact CutPost.next (by k_asm) (by k_asm) R7 (locs_on (by walk_at "mine keep") hl0) ⟨⟨_, _, upd_snd _ _ (by decide)⟩, h.lessEdges _ _, hb.popEdge, rfl, rfl, hxal, hxed⟩
      · rename Rep w W f m _ => R5
        exact CutPost.next (by k_asm) (by k_asm) R5 (locs_on (by walk_at "mine keep") hl0) ⟨⟨_, _, upd_snd _ _ (by decide)⟩, h.again, hb.up, rfl, rfl, hxal, hxed⟩
    · have z1 := hpos (by assumption)
      have z2 : 0 < ms.length := by omega
      (repeat' ((fail_if_success (with_reducible show wpAny _ _ (subscriptTail _ _ (Value.ref _) (Value.int _ _)) _ _ _)); (fail_if_success (with_reducible show wpAny _ _ (exec (Stmt.While _ _ _ _) _) _ _ _)); (fail_if_success (with_reducible show wpAny _ _ (exec (Stmt.For _ _ _ _ _) _) _ _ _)); (fail_if_success (with_reducible show wpAny _ _ (pyIter (Value.ref _)) _ _ _)); (fail_if_success (with_reducible show wpAny _ _ (call (Value.ref _) _) _ _ _)); (fail_if_success (with_reducible show wpAny _ _ (eval (Expr.ListComp _ _ _ _) _) _ _ _)); (first | (k_unfold; (try dsimp only)) | (k_end; wrow_close) | walk1 | (dsimp only; walk1) | (leave1; walk_say "STEP leave1"; try dsimp only) | fail "no step")))
      rename Rep w W f m _ => R5
      refine w_at (k := rn % ms.length) (by k_asm) (Loc.mem (by walk_at "mine loc")) (fmod_nat _ _) (Nat.mod_lt _ z2) (by omega) (by exact rfl) fun i ti hi => ?_
      obtain ⟨hi1, hi2⟩ := hmw i hi
      have hri := (hm i).mp hi
      (repeat' ((fail_if_success (with_reducible show wpAny _ _ (subscriptTail _ _ (Value.ref _) (Value.int _ _)) _ _ _)); (fail_if_success (with_reducible show wpAny _ _ (exec (Stmt.While _ _ _ _) _) _ _ _)); (fail_if_success (with_reducible show wpAny _ _ (exec (Stmt.For _ _ _ _ _) _) _ _ _)); (fail_if_success (with_reducible show wpAny _ _ (pyIter (Value.ref _)) _ _ _)); (fail_if_success (with_reducible show wpAny _ _ (call (Value.ref _) _) _ _ _)); (fail_if_success (with_reducible show wpAny _ _ (eval (Expr.ListComp _ _ _ _) _) _ _ _)); (first | (k_unfold; (try dsimp only)) | (k_end; wrow_close) | walk1 | (dsimp only; walk1) | (leave1; walk_say "STEP leave1"; try dsimp only) | fail "no step")))
      refine w_at (k := rn / ms.length % ms.length) (by k_asm) (Loc.mem (by walk_at "mine loc")) (by rw [fdiv_nat, fmod_nat]) (Nat.mod_lt _ z2) (by omega) (by exact rfl) fun j tj hj => ?_
      obtain ⟨hj1, hj2⟩ := hmw j hj
      have hrj := (hm j).mp hj
      (repeat' ((fail_if_success (with_reducible show wpAny _ _ (exec (Stmt.While _ _ _ _) _) _ _ _)); (fail_if_success (with_reducible show wpAny _ _ (exec (Stmt.For _ _ _ _ _) _) _ _ _)); (fail_if_success (with_reducible show wpAny _ _ (pyIter (Value.ref _)) _ _ _)); (fail_if_success (with_reducible show wpAny _ _ (call (Value.ref _) _) _ _ _)); (fail_if_success (with_reducible show wpAny _ _ (eval (Expr.ListComp _ _ _ _) _) _ _ _)); (first | (k_unfold; (try dsimp only)) | (k_end; wrow_close) | walk1 | (dsimp only; walk1) | (leave1; walk_say "STEP leave1"; try dsimp only) | fail "no step")))
      (refine' Ctr.use ?k1 ?k2 ?k3 ?k4 ?k5 ?k6 (law_edge_c R5 h.wf hi1 hi2 hj1 hj2 (by have := hb.e i; omega)) ?k7 ?k8 ?_; (case k1 => k_asm); (case k2 => k_asm); (case k3 => k_asm); (case k4 => k_asm); (case k5 => k_asm); (case k6 => first | exact rfl | assumption); (case k7 => ktr_room); (case k8 => ktr_units))
      rintro r9 l9 h9 tk9 F9 N9 ⟨rfl, R7, K7⟩
      (try dsimp only); (try k_fold)
      (repeat' ((fail_if_success (with_reducible show wpAny _ _ (exec (Stmt.While _ _ _ _) _) _ _ _)); (fail_if_success (with_reducible show wpAny _ _ (exec (Stmt.For _ _ _ _ _) _) _ _ _)); (fail_if_success (with_reducible show wpAny _ _ (pyIter (Value.ref _)) _ _ _)); (fail_if_success (with_reducible show wpAny _ _ (call (Value.ref _) _) _ _ _)); (fail_if_success (with_reducible show wpAny _ _ (eval (Expr.ListComp _ _ _ _) _) _ _ _)); (first | (k_unfold; (try dsimp only)) | (k_end; wrow_close) | walk1 | (dsimp only; walk1) | (leave1; walk_say "STEP leave1"; try dsimp only) | fail "no step")))
      exact CutPost.next (by k_asm) (by k_asm) R7 (locs_on (by walk_at "mine keep") hl0) ⟨⟨_, _, upd_self2 _ (by decide)⟩, Inv.again (h.addEdge hri (h.rk j hrj) (.inl hrj) (by have := hb.e i; omega)), hb.oldEdge, rfl, rfl, hxal, hxed⟩
  · rintro W5 f5 m5 mm l5 h5 tk5 ⟨⟨u5, v5, rfl⟩, hi5, hb5, hw5, hce5, hx5, hy5⟩ R5 hl5 F5 N5
    have mcd5 := (hl5 _ (.head _)).1
    rw [← hw5] at hdc
    clear mcd mcd2
    (repeat' ((fail_if_success (with_reducible show wpAny _ _ (exec (Stmt.While _ _ _ _) _) _ _ _)); (fail_if_success (with_reducible show wpAny _ _ (exec (Stmt.For _ _ _ _ _) _) _ _ _)); (fail_if_success (with_reducible show wpAny _ _ (pyIter (Value.ref _)) _ _ _)); (fail_if_success (with_reducible show wpAny _ _ (call (Value.ref _) _) _ _ _)); (fail_if_success (with_reducible show wpAny _ _ (eval (Expr.ListComp _ _ _ _) _) _ _ _)); (first | (k_unfold; (try dsimp only)) | (k_end; wrow_close) | walk1 | (dsimp only; walk1) | (leave1; walk_say "STEP leave1"; try dsimp only) | fail "no step")))
    k_dflt (refine LCg.ListComp_U (F₀ := by k_asm) (by with_unfolding_all rfl) (by decide) (by rfl) (by decide) (by rfl) ?_)
    have hbn5 := hb5.n
    have hbr5 := hb5.ro
    (repeat' ((fail_if_success (with_reducible show wpAny _ _ (exec (Stmt.While _ _ _ _) _) _ _ _)); (fail_if_success (with_reducible show wpAny _ _ (exec (Stmt.For _ _ _ _ _) _) _ _ _)); (fail_if_success (with_reducible show wpAny _ _ (pyIter (Value.ref _)) _ _ _)); (fail_if_success (with_reducible show wpAny _ _ (call (Value.ref _) _) _ _ _)); (fail_if_success (with_reducible show wpAny _ _ (eval (Expr.ListComp _ _ _ _) _) _ _ _)); (first | (k_unfold; (try dsimp only)) | (k_end; wrow_close) | walk1 | (dsimp only; walk1) | (leave1; walk_say "STEP leave1"; try dsimp only) | fail "no step")))
    refine src_pure (fun j y => ∃ i', W5.roots[j]? = some i' ∧ y = .ref (f5.x i')) (by rfl) (by k_asm) (by k_asm) R5.hro (sizeLine_ge (by simp; omega)) ?_ ?_
    · intro s j v C oC lx m₂ E' hv hsub hC hNs hx F N
      obtain ⟨i', hi', rfl⟩ := mapIdx_ints hv
      have Rx : Rep w W5 f5 m5 lx := R5.mono hsub
      have mcd6 := hsub _ mcd5
      have hro := hi5.wf.ho i' (List.mem_of_getElem? hi')
      have h1' := hro.1
      have h2' : i' ≤ W5.n := hro.2
      (repeat' ((fail_if_success (with_reducible show wpAny _ _ (exec (Stmt.While _ _ _ _) _) _ _ _)); (fail_if_success (with_reducible show wpAny _ _ (exec (Stmt.For _ _ _ _ _) _) _ _ _)); (fail_if_success (with_reducible show wpAny _ _ (pyIter (Value.ref _)) _ _ _)); (fail_if_success (with_reducible show wpAny _ _ (call (Value.ref _) _) _ _ _)); (fail_if_success (with_reducible show wpAny _ _ (eval (Expr.ListComp _ _ _ _) _) _ _ _)); (first | (k_unfold; (try dsimp only)) | (k_end; wrow_close) | walk1 | (dsimp only; walk1) | (leave1; walk_say "STEP leave1"; try dsimp only) | fail "no step")))
      exact EltEnd.intro (by k_asm) (by k_asm) ⟨_, hi', rfl⟩
    · rintro s' ys hl hy ⟨h', rfl⟩
      obtain rfl := refs_of (by simpa using hl) hy
      intro D h'' tk F N o1
      obtain ⟨R', U', K'⟩ := R5.newN (o := LCg.lst (refs f5 W5.roots)) (off1_ne o1)
      have hl6 := locs_on K'.keep hl5
      have mcd6 := (hl6 _ (.head _)).1
      (repeat' ((fail_if_success (with_reducible show wpAny _ _ (exec (Stmt.While _ _ _ _) _) _ _ _)); (fail_if_success (with_reducible show wpAny _ _ (exec (Stmt.For _ _ _ _ _) _) _ _ _)); (fail_if_success (with_reducible show wpAny _ _ (pyIter (Value.ref _)) _ _ _)); (fail_if_success (with_reducible show wpAny _ _ (call (Value.ref _) _) _ _ _)); (fail_if_success (with_reducible show wpAny _ _ (eval (Expr.ListComp _ _ _ _) _) _ _ _)); (first | (k_unfold; (try dsimp only)) | (k_end; wrow_close) | walk1 | (dsimp only; walk1) | (leave1; walk_say "STEP leave1"; try dsimp only) | fail "no step")))
      rename Keep W5.n f5 m5 l5 (W5.setRlist W5.roots).n f5 _ _ => K7
      rename Rep w (W5.setRlist W5.roots) f5 _ _ => R7
      refine hret _ _ _ _ (by k_asm) (by k_asm) ⟨rfl, _, _, _, hi5, ⟨hb5.n, hb5.ro, hb5.e⟩, hw5, hce5, hx5, hy5, R7, locsOf_keep fun q hq => K7 _ _ (hl5 q (.tail _ hq))⟩
end
end
section
section
variable {w : World} {p : Program} {loose : List Str} {mean : ExcName → Option Value} {mg mb : Str → Option Value} {W : St} {f : Fix} {m : Mut} {l : Led} {i : Nat}
theorem w_store_cell {M : PySem.Model} {A : Around} {E : Value → Shared → Prop} {s : Shared} {h₀ : Heap} {L a : Addr} {mF : Str → Option Value} {cn : Str} {cs : Scope} {ccd : Value} {cl : List (Str × Addr)} {x : Str} {v : Value} {Q : Unit → Shared → Prop} {c : Addr} {o : Obj} {v₀ : Option Value}
    (F : Fr h₀ L s.heap mF) (N : News h₀ L s.heap l) (R : Rep w W f m l) (hc : cl.lookup x = some c) (ha : Loc W.n f m l c o) (hr : c ≠ m.rl) (hd : o.data = .cell v₀)
    (h : ∀ h' l' o', Fr h₀ L h' mF → News h₀ L h' l' → Rep w W f m l' → Loc W.n f m l' c o' → o'.data = .cell (some v) → KeepBut c W.n f m l W.n f m l' → Q () { s with heap := h' })
    (hk : cs.kind = .function := by rfl) (hx : (envX cn cs L a ccd cl).kindOf x = some .cell := by rfl) : wpAny M A (storeName (envX cn cs L a ccd cl) x v) Q E s :=
  storeX_C F (news_front N ha.1) hc updF_put hd (fun h' o' F' N' hd' => let ⟨R', U', K'⟩ := R.aside (o' := o') ha hr; h h' _ o' F' N' R' U' hd' K') hk hx
theorem ints_of {ns : List Nat} {ys : List Value} (hl : ys.length = ns.length) (h : ∀ (j : Nat) (y : Value), ys[j]? = some y → ∃ i t, ns[j]? = some i ∧ y = .int (i : Int) t) : ∃ t : Nat → Tok, ys = ns.mapIdx fun j (i : Nat) => Value.int (i : Int) (t j) := by
  refine ⟨fun j => match ys[j]? with | some (.int _ t) => t | _ => 0, List.ext_getElem? fun j => ?_⟩
  rw [List.getElem?_mapIdx]
  by_cases hj : j < ys.length
  · obtain ⟨i, t, e, q⟩ := h j _ (List.getElem?_eq_getElem hj)
    have e2 : ys[j]? = some (.int (i : Int) t) := by rw [List.getElem?_eq_getElem hj, q]
    rw [e, e2]
    simp [e2]
  · rw [List.getElem?_eq_none (by omega), List.getElem?_eq_none (by omega)]; rfl
theorem ints_kept {g : Nat → Int} : ∀ {ns : List Nat} {ys : List Value}, ys.length = (ns.map fun i : Nat => ((i : Int), Value.ref (f.x i))).length → (∀ (j : Nat) (y : Value), ys[j]? = some y → ∃ i t, ns[j]? = some i ∧ y = .int (g i) t) → IntsAre ys (ns.map g)
  | [], ys, hl, _ => by
    obtain rfl := List.eq_nil_of_length_eq_zero (by simpa using hl)
    exact .nil
  | a :: r, [], hl, _ => by simp at hl
  | a :: r, y :: ys, hl, h => by
    obtain ⟨i, t, e, rfl⟩ := h 0 y rfl
    cases e
    exact .cons _ t (ints_kept (by simpa using hl) fun j y q => by simpa using h (j + 1) y (by simpa using q))
theorem locs_to {W' : St} {f' : Fix} {m' : Mut} {l' : Led} {n : Nat} {locs : Led} (_R : Rep w W' f' m' l') (K : Keep n f m l W'.n f' m' l') (hl : ∀ q ∈ locs, Loc n f m l q.1 q.2) : ∀ q ∈ locs, Loc W'.n f' m' l' q.1 q.2 := locs_on K hl
theorem law_stands_c (R : Rep w W f m l) (h : Inv W) :
   Ctr w p loose mean mg mb 402 [.ref f.wd] l 34 (fun r l' => (∃ b, r = .bool b ∧ b = true) ∧ Rep w W f m l' ∧ Keep W.n f m l W.n f m l') := by
  have hn16 := h.n16
  unfold Ctr; k_fill; intro dp un gd cn cs a ccd cl outer A₀ base h₀ L mF s Q E B F X N T hk hdp hun hret; k_dflt (refine' code_defC ?k1 ?k2 ?k3 ?k4 ?k5 ?kA ?kF ?kK ?k6 ?k7 ?k8 ?k9 ?kB ?kD ?_ ?c2 ?c3 ?c4; (case kA => exact rfl); (case kF => exact rfl); (case kK => assumption); (case k1 => k_asm); (case k2 => k_asm); (case k3 => k_asm); (case k4 => k_asm); (case k5 => k_asm); (case k6 => k_is); (case k7 => k_is); (case k8 => ktr_room); (case k9 => exact BindsTo.of_eq rfl); (case kB => exact rfl); (case kD => decide +kernel); (case c2 => exact rfl); (case c3 => exact rfl); (case c4 => exact rfl); k_whole; intro gC LC hC tkC cellsC FGC FC NC YC BC XC TC l1; k_cells YC; (try simp only [List.cons_append, List.nil_append] at NC); (try dsimp only); (try k_fold))
  rename_i od oc d0 d1
  have hdc : oc.data = .cell (some (.ref f.wd)) := d1
  have hdh : od.data = .cell none := d0
  clear d0 d1
  have R1 : Rep w W f m ((LC + 1 + 1, od) :: (LC + 1, oc) :: l) := R.mono fun p hp => .tail _ (.tail _ hp)
  have U1 : Loc W.n f m ((LC + 1 + 1, od) :: (LC + 1, oc) :: l) (LC + 1) oc := ⟨.tail _ (.head _), R.off fun p hp q => by have := l1 p hp; rw [q] at this; exact absurd this (by exact Nat.not_lt.mpr (Nat.le_succ LC))⟩
  have U2 : Loc W.n f m ((LC + 1 + 1, od) :: (LC + 1, oc) :: l) (LC + 1 + 1) od := ⟨.head _, R.off fun p hp q => by have := l1 p hp; rw [q] at this; exact absurd this (by exact Nat.not_lt.mpr (Nat.le_succ_of_le (Nat.le_succ LC)))⟩
  have n21 : LC + 1 ≠ LC + 1 + 1 := Nat.ne_of_lt (Nat.lt_succ_self _)
  have nrl : LC + 1 + 1 ≠ m.rl := fun q => by have := l1 _ R.hrl; rw [← q] at this; exact absurd this (by exact Nat.not_lt.mpr (Nat.le_succ_of_le (Nat.le_succ LC)))
  have K1 : Keep W.n f m l W.n f m ((LC + 1 + 1, od) :: (LC + 1, oc) :: l) := .more fun p hp => .tail _ (.tail _ hp)
  have K1n : ∀ q ∈ locsOf W.n f m l, Loc W.n f m ((LC + 1 + 1, od) :: (LC + 1, oc) :: l) q.1 q.2 ∧ q.1 ≠ LC + 1 + 1 := fun q hq => ⟨locsOf_from K1 q hq, fun e => by have := l1 _ (locsOf_start q hq).1; rw [e] at this; exact absurd this (by exact Nat.not_lt.mpr (Nat.le_succ_of_le (Nat.le_succ LC)))⟩
  have mcd := U1.1
  (repeat' ((fail_if_success (with_reducible show wpAny _ _ (storeName _ _ _) _ _ _)); (fail_if_success (with_reducible show wpAny _ _ (exec (Stmt.While _ _ _ _) _) _ _ _)); (fail_if_success (with_reducible show wpAny _ _ (exec (Stmt.For _ _ _ _ _) _) _ _ _)); (fail_if_success (with_reducible show wpAny _ _ (pyIter (Value.ref _)) _ _ _)); (fail_if_success (with_reducible show wpAny _ _ (call (Value.ref _) _) _ _ _)); (fail_if_success (with_reducible show wpAny _ _ (eval (Expr.ListComp _ _ _ _) _) _ _ _)); (first | (k_unfold; (try dsimp only)) | (k_end; wrow_close) | walk1 | (dsimp only; walk1) | (leave1; walk_say "STEP leave1"; try dsimp only) | fail "no step")))
  refine w_store_cell (by k_asm) (by k_asm) R1 (by exact rfl) U2 nrl hdh fun h2 l2 oh F2 N2 R2 U3 hdo K2 => ?_
  have hl2 : ∀ q ∈ (LC + 1 + 1, oh) :: (LC + 1, oc) :: locsOf W.n f m l, Loc W.n f m l2 q.1 q.2 := locs_cons U3 (locs_cons (K2 _ _ n21 U1) fun q hq => K2 _ _ (K1n q hq).2 (K1n q hq).1)
  have mh2 := U3.1
  have mc2 := (hl2 _ (.tail _ (.head _))).1
  (repeat' ((fail_if_success (with_reducible show wpAny _ _ (exec (Stmt.While _ _ _ _) _) _ _ _)); (fail_if_success (with_reducible show wpAny _ _ (exec (Stmt.For _ _ _ _ _) _) _ _ _)); (fail_if_success (with_reducible show wpAny _ _ (pyIter (Value.ref _)) _ _ _)); (fail_if_success (with_reducible show wpAny _ _ (call (Value.ref _) _) _ _ _)); (fail_if_success (with_reducible show wpAny _ _ (eval (Expr.ListComp _ _ _ _) _) _ _ _)); (first | (k_unfold; (try dsimp only)) | (k_end; wrow_close) | walk1 | (dsimp only; walk1) | (leave1; walk_say "STEP leave1"; try dsimp only) | fail "no step")))
  k_dflt (refine LCt.ListComp_T (F₀ := by k_asm) (by with_unfolding_all rfl) (by decide) (by rfl) (by decide) (by rfl) ?_)
  (repeat' ((fail_if_success (with_reducible show wpAny _ _ (exec (Stmt.While _ _ _ _) _) _ _ _)); (fail_if_success (with_reducible show wpAny _ _ (exec (Stmt.For _ _ _ _ _) _) _ _ _)); (fail_if_success (with_reducible show wpAny _ _ (pyIter (Value.ref _)) _ _ _)); (fail_if_success (with_reducible show wpAny _ _ (call (Value.ref _) _) _ _ _)); (fail_if_success (with_reducible show wpAny _ _ (eval (Expr.ListComp _ _ _ _) _) _ _ _)); (first | (k_unfold; (try dsimp only)) | (k_end; wrow_close) | walk1 | (dsimp only; walk1) | (leave1; walk_say "STEP leave1"; try dsimp only) | fail "no step")))
  (refine' Ctr.use ?k1 ?k2 ?k3 ?k4 ?k5 ?k6 (law_reached_c R2 h (by omega)) ?k7 ?k8 ?_; (case k1 => k_asm); (case k2 => k_asm); (case k3 => k_asm); (case k4 => k_asm); (case k5 => k_asm); (case k6 => first | exact rfl | assumption); (case k7 => ktr_room); (case k8 => ktr_units))
  rintro r9 l9 h9 tk9 F9 N9 ⟨a, ms, t, ep, rfl, R3, U4, K3, hm, hs⟩
  (try dsimp only); (try k_fold)
  have hml : ms.length ≤ W.n := nodup_le W.n ms (hs.imp fun q => Nat.ne_of_lt q) fun i hi => h.wf.hk i (h.rk i ((hm i).mp hi))
  have hl3 := locs_on K3 hl2
  have mh3 := (hl3 _ (.head _)).1
  have mc3 := (hl3 _ (.tail _ (.head _))).1
  refine src_none (by rfl) (by k_asm) (by k_asm) U4.1 (sizeLine_ge (by simp; omega)) ?_ ?_
  · intro s j v C oC lx m₂ E' hv hsub hC hNs hx F N
    obtain ⟨i', hi', rfl⟩ := mapIdx_ints hv
    have hr' := (hm i').mp (List.mem_of_getElem? hi')
    have hk' := h.rk i' hr'
    obtain ⟨h1', h2'⟩ := h.wf.hk i' hk'
    have Rx : Rep w W f m lx := R3.mono hsub
    have mh4 := hsub _ mh3
    have mc4 := hsub _ mc3
    (repeat' ((fail_if_success (with_reducible show wpAny _ _ (exec (Stmt.While _ _ _ _) _) _ _ _)); (fail_if_success (with_reducible show wpAny _ _ (exec (Stmt.For _ _ _ _ _) _) _ _ _)); (fail_if_success (with_reducible show wpAny _ _ (pyIter (Value.ref _)) _ _ _)); (fail_if_success (with_reducible show wpAny _ _ (call (Value.ref _) _) _ _ _)); (fail_if_success (with_reducible show wpAny _ _ (eval (Expr.ListComp _ _ _ _) _) _ _ _)); (first | (k_unfold; (try dsimp only)) | (k_end; wrow_close) | walk1 | (dsimp only; walk1) | (leave1; walk_say "STEP leave1"; try dsimp only) | fail "no step")))
    (refine' Ctr.use ?k1 ?k2 ?k3 ?k4 ?k5 ?k6 (is_kept_c Rx h1' h2') ?k7 ?k8 ?_; (case k1 => k_asm); (case k2 => k_asm); (case k3 => k_asm); (case k4 => k_asm); (case k5 => k_asm); (case k6 => first | exact rfl | assumption); (case k7 => ktr_room); (case k8 => ktr_units))
    rintro r9 l9 h9 tk9 F9 N9 ⟨⟨b, rfl, hb⟩, rfl⟩
    (try dsimp only); (try k_fold)
    have hb' : b = true := hb.mpr hk'
    subst hb'
    (repeat' ((fail_if_success (with_reducible show wpAny _ _ (exec (Stmt.While _ _ _ _) _) _ _ _)); (fail_if_success (with_reducible show wpAny _ _ (exec (Stmt.For _ _ _ _ _) _) _ _ _)); (fail_if_success (with_reducible show wpAny _ _ (pyIter (Value.ref _)) _ _ _)); (fail_if_success (with_reducible show wpAny _ _ (call (Value.ref _) _) _ _ _)); (fail_if_success (with_reducible show wpAny _ _ (eval (Expr.ListComp _ _ _ _) _) _ _ _)); (first | (k_unfold; (try dsimp only)) | (k_end; wrow_close) | walk1 | (dsimp only; walk1) | (leave1; walk_say "STEP leave1"; try dsimp only) | fail "no step")))
    exact NoEnd.intro (by k_asm) (by k_asm)
  · rintro s' ⟨h', rfl⟩
    intro D h'' tk F N o1
    obtain ⟨R', U', K'⟩ := R3.newN (o := LCg.lst []) (off1_ne o1)
    have hl4 := locs_on K'.keep hl3
    have mh5 := (hl4 _ (.head _)).1
    have mc5 := (hl4 _ (.tail _ (.head _))).1
    (repeat' ((fail_if_success (with_reducible show wpAny _ _ (exec (Stmt.While _ _ _ _) _) _ _ _)); (fail_if_success (with_reducible show wpAny _ _ (exec (Stmt.For _ _ _ _ _) _) _ _ _)); (fail_if_success (with_reducible show wpAny _ _ (pyIter (Value.ref _)) _ _ _)); (fail_if_success (with_reducible show wpAny _ _ (call (Value.ref _) _) _ _ _)); (fail_if_success (with_reducible show wpAny _ _ (eval (Expr.ListComp _ _ _ _) _) _ _ _)); (first | (k_unfold; (try dsimp only)) | (k_end; wrow_close) | walk1 | (dsimp only; walk1) | (leave1; walk_say "STEP leave1"; try dsimp only) | fail "no step")))
    rename Rep w W f m _ => R5
    have hl5 := locs_to R5 (by walk_at "mine keep") hl4
    have mh5 := (hl5 _ (.head _)).1
    have mc5 := (hl5 _ (.tail _ (.head _))).1
    k_dflt (refine LCg.ListComp_U (F₀ := by k_asm) (by with_unfolding_all rfl) (by decide) (by rfl) (by decide) (by rfl) ?_)
    (repeat' ((fail_if_success (with_reducible show wpAny _ _ (exec (Stmt.While _ _ _ _) _) _ _ _)); (fail_if_success (with_reducible show wpAny _ _ (exec (Stmt.For _ _ _ _ _) _) _ _ _)); (fail_if_success (with_reducible show wpAny _ _ (pyIter (Value.ref _)) _ _ _)); (fail_if_success (with_reducible show wpAny _ _ (call (Value.ref _) _) _ _ _)); (fail_if_success (with_reducible show wpAny _ _ (eval (Expr.ListComp _ _ _ _) _) _ _ _)); (first | (k_unfold; (try dsimp only)) | (k_end; wrow_close) | walk1 | (dsimp only; walk1) | (leave1; walk_say "STEP leave1"; try dsimp only) | fail "no step")))
    (refine' Ctr.use ?k1 ?k2 ?k3 ?k4 ?k5 ?k6 (late_roots_c R5) ?k7 ?k8 ?_; (case k1 => k_asm); (case k2 => k_asm); (case k3 => k_asm); (case k4 => k_asm); (case k5 => k_asm); (case k6 => first | exact rfl | assumption); (case k7 => ktr_room); (case k8 => ktr_units))
    rintro r9 l9 h9 tk9 F9 N9 ⟨rfl, rfl⟩
    (try dsimp only); (try k_fold)
    refine src_pure (fun j y => ∃ i' t', W.rlist[j]? = some i' ∧ y = .int (i' : Int) t') (by rfl) (by k_asm) (by k_asm) R5.hrl (sizeLine_ge (by have := h.wf.hrl; simp [refs]; omega)) ?_ ?_
    · intro s j v C oC lx m₂ E' hv hsub hC hNs hx F N
      simp only [refs, List.getElem?_map] at hv
      obtain ⟨i', hi', rfl⟩ := Option.map_eq_some_iff.mp hv
      obtain ⟨h1', h2'⟩ := h.wf.hr i' (List.mem_of_getElem? hi')
      have Rx : Rep w W f m lx := R5.mono hsub
      (repeat' ((fail_if_success (with_reducible show wpAny _ _ (exec (Stmt.While _ _ _ _) _) _ _ _)); (fail_if_success (with_reducible show wpAny _ _ (exec (Stmt.For _ _ _ _ _) _) _ _ _)); (fail_if_success (with_reducible show wpAny _ _ (pyIter (Value.ref _)) _ _ _)); (fail_if_success (with_reducible show wpAny _ _ (call (Value.ref _) _) _ _ _)); (fail_if_success (with_reducible show wpAny _ _ (eval (Expr.ListComp _ _ _ _) _) _ _ _)); (first | (k_unfold; (try dsimp only)) | (k_end; wrow_close) | walk1 | (dsimp only; walk1) | (leave1; walk_say "STEP leave1"; try dsimp only) | fail "no step")))
      exact EltEnd.intro (by k_asm) (by k_asm) ⟨_, _, hi', rfl⟩
    · rintro s' ys hl hy ⟨h', rfl⟩
      obtain ⟨t6, rfl⟩ := ints_of (by simpa [refs] using hl) hy
      intro D h'' tk F N o1
      obtain ⟨R6, U6, K6⟩ := R5.newN (o := LCg.lst (W.rlist.mapIdx fun j (i : Nat) => Value.int (i : Int) (t6 j))) (off1_ne o1)
      have hl6 := locs_on K6.keep hl5
      have mh6 := (hl6 _ (.head _)).1
      have mc6 := (hl6 _ (.tail _ (.head _))).1
      (repeat' ((fail_if_success (with_reducible show wpAny _ _ (compareOp _ _ _) _ _ _)); (fail_if_success (with_reducible show wpAny _ _ (exec (Stmt.While _ _ _ _) _) _ _ _)); (fail_if_success (with_reducible show wpAny _ _ (exec (Stmt.For _ _ _ _ _) _) _ _ _)); (fail_if_success (with_reducible show wpAny _ _ (pyIter (Value.ref _)) _ _ _)); (fail_if_success (with_reducible show wpAny _ _ (call (Value.ref _) _) _ _ _)); (fail_if_success (with_reducible show wpAny _ _ (eval (Expr.ListComp _ _ _ _) _) _ _ _)); (first | (k_unfold; (try dsimp only)) | (k_end; wrow_close) | walk1 | (dsimp only; walk1) | (leave1; walk_say "STEP leave1"; try dsimp only) | fail "no step")))
      refine w_ne_lists (ns := W.rlist) (ms := W.roots) (by k_asm) U6.1 R6.hro (by ktr_units) ?_
      rw [decide_eq_true h.rl]
      (repeat' ((fail_if_success (with_reducible show wpAny _ _ (exec (Stmt.While _ _ _ _) _) _ _ _)); (fail_if_success (with_reducible show wpAny _ _ (exec (Stmt.For _ _ _ _ _) _) _ _ _)); (fail_if_success (with_reducible show wpAny _ _ (pyIter (Value.ref _)) _ _ _)); (fail_if_success (with_reducible show wpAny _ _ (call (Value.ref _) _) _ _ _)); (fail_if_success (with_reducible show wpAny _ _ (eval (Expr.ListComp _ _ _ _) _) _ _ _)); (first | (k_unfold; (try dsimp only)) | (k_end; wrow_close) | walk1 | (dsimp only; walk1) | (leave1; walk_say "STEP leave1"; try dsimp only) | fail "no step")))
      rename Rep w W f m _ => R7
      (refine' Ctr.use ?k1 ?k2 ?k3 ?k4 ?k5 ?k6 (cycle_wrong_c R7 h) ?k7 ?k8 ?_; (case k1 => k_asm); (case k2 => k_asm); (case k3 => k_asm); (case k4 => k_asm); (case k5 => k_asm); (case k6 => first | exact rfl | assumption); (case k7 => ktr_room); (case k8 => ktr_units))
      rintro r9 l9 h9 tk9 F9 N9 ⟨b7, rfl, R8, U8, K8⟩
      (try dsimp only); (try k_fold)
      have hl8 := locs_to R8 (by walk_at "mine keep") hl6
      have mh8 := (hl8 _ (.head _)).1
      have mc8 := (hl8 _ (.tail _ (.head _))).1
      (repeat' ((fail_if_success (with_reducible show wpAny _ _ (compareOp _ _ _) _ _ _)); (fail_if_success (with_reducible show wpAny _ _ (exec (Stmt.While _ _ _ _) _) _ _ _)); (fail_if_success (with_reducible show wpAny _ _ (exec (Stmt.For _ _ _ _ _) _) _ _ _)); (fail_if_success (with_reducible show wpAny _ _ (pyIter (Value.ref _)) _ _ _)); (fail_if_success (with_reducible show wpAny _ _ (call (Value.ref _) _) _ _ _)); (fail_if_success (with_reducible show wpAny _ _ (eval (Expr.ListComp _ _ _ _) _) _ _ _)); (first | (k_unfold; (try dsimp only)) | (k_end; wrow_close) | walk1 | (dsimp only; walk1) | (leave1; walk_say "STEP leave1"; try dsimp only) | fail "no step")))
      refine w_ne_nil (ns := []) (t := fun _ => 0) (e1 := 0) (by k_asm) (Loc.mem (by walk_at "mine loc")) (Loc.mem (by walk_at "mine loc")) (by ktr_units) (fun q => absurd rfl q) fun _ => ?_
      (repeat' ((fail_if_success (with_reducible show wpAny _ _ (exec (Stmt.While _ _ _ _) _) _ _ _)); (fail_if_success (with_reducible show wpAny _ _ (exec (Stmt.For _ _ _ _ _) _) _ _ _)); (fail_if_success (with_reducible show wpAny _ _ (pyIter (Value.ref _)) _ _ _)); (fail_if_success (with_reducible show wpAny _ _ (call (Value.ref _) _) _ _ _)); (fail_if_success (with_reducible show wpAny _ _ (eval (Expr.ListComp _ _ _ _) _) _ _ _)); (first | (k_unfold; (try dsimp only)) | (k_end; wrow_close) | walk1 | (dsimp only; walk1) | (leave1; walk_say "STEP leave1"; try dsimp only) | fail "no step")))
      rename Rep w W f m _ => R9
      refine ListComp_V (knd := PySem.intKind _ _) (by k_asm) (by with_unfolding_all rfl) (by decide) (by rfl) (by decide) (by rfl) ?_
      (repeat' ((fail_if_success (with_reducible show wpAny _ _ (call (Value.builtin "dict.values") _) _ _ _)); (fail_if_success (with_reducible show wpAny _ _ (exec (Stmt.While _ _ _ _) _) _ _ _)); (fail_if_success (with_reducible show wpAny _ _ (exec (Stmt.For _ _ _ _ _) _) _ _ _)); (fail_if_success (with_reducible show wpAny _ _ (pyIter (Value.ref _)) _ _ _)); (fail_if_success (with_reducible show wpAny _ _ (call (Value.ref _) _) _ _ _)); (fail_if_success (with_reducible show wpAny _ _ (eval (Expr.ListComp _ _ _ _) _) _ _ _)); (first | (k_unfold; (try dsimp only)) | (k_end; wrow_close) | walk1 | (dsimp only; walk1) | (leave1; walk_say "STEP leave1"; try dsimp only) | fail "no step")))
      refine w_values_od (by k_asm) (by k_asm) R9 fun a9 h9 l9 F9 N9 R10 U10 K10 => ?_
      dsimp only
      refine ⟨a9, f.od, R10.ood, _, l9, rfl, rfl, F9, N9, ⟨_, (N9 _ U10.1).1, rfl, rfl⟩, R10.hod, R10.dod, ?_, ?_⟩
      · exact sizeLine_ge (by have := h.wf.kl; simp; omega)
      · rintro s2 ⟨h2, rfl⟩
        refine rest_vals (fun j y => ∃ i t, W.kept[j]? = some i ∧ y = .int (W.size i) t) R10.hod ?_ ?_ _ 0 [] (by simp) rfl (by simp)
        · intro s j k v C oC lx m₂ E' hv hsub hC hNs hx F N
          rw [List.getElem?_map] at hv
          obtain ⟨i', hi', e'⟩ := Option.map_eq_some_iff.mp hv
          cases e'
          obtain ⟨h1', h2'⟩ := h.wf.hk i' (List.mem_of_getElem? hi')
          have Rx : Rep w W f m lx := R10.mono hsub
          (repeat' ((fail_if_success (with_reducible show wpAny _ _ (exec (Stmt.While _ _ _ _) _) _ _ _)); (fail_if_success (with_reducible show wpAny _ _ (exec (Stmt.For _ _ _ _ _) _) _ _ _)); (fail_if_success (with_reducible show wpAny _ _ (pyIter (Value.ref _)) _ _ _)); (fail_if_success (with_reducible show wpAny _ _ (call (Value.ref _) _) _ _ _)); (fail_if_success (with_reducible show wpAny _ _ (eval (Expr.ListComp _ _ _ _) _) _ _ _)); (first | (k_unfold; (try dsimp only)) | (k_end; wrow_close) | walk1 | (dsimp only; walk1) | (leave1; walk_say "STEP leave1"; try dsimp only) | fail "no step")))
          exact EltEnd.intro (by k_asm) (by k_asm) ⟨_, _, hi', rfl⟩
        · intro ys hl hy D h'' tk F N o1
          have hi := ints_kept hl hy
          obtain ⟨R11, U11, K11⟩ := R10.newN (o := LCg.lst ys) (off1_ne o1)
          (repeat' ((fail_if_success (with_reducible show wpAny _ _ (call (Value.builtin "sum") _) _ _ _)); (fail_if_success (with_reducible show wpAny _ _ (exec (Stmt.While _ _ _ _) _) _ _ _)); (fail_if_success (with_reducible show wpAny _ _ (exec (Stmt.For _ _ _ _ _) _) _ _ _)); (fail_if_success (with_reducible show wpAny _ _ (pyIter (Value.ref _)) _ _ _)); (fail_if_success (with_reducible show wpAny _ _ (call (Value.ref _) _) _ _ _)); (fail_if_success (with_reducible show wpAny _ _ (eval (Expr.ListComp _ _ _ _) _) _ _ _)); (first | (k_unfold; (try dsimp only)) | (k_end; wrow_close) | walk1 | (dsimp only; walk1) | (leave1; walk_say "STEP leave1"; try dsimp only) | fail "no step")))
          (refine' LSm.sum_ints ?F1 ?N1 ?h1 ?l1 ?i1 ?_; (case F1 => k_asm); (case N1 => k_asm); (case h1 => rfl); (case l1 => exact N.isList (.head _)); (case i1 => exact hi))
          intro h12 tk12 t12 F12 N12
          rw [← h.tot]
          (repeat' ((fail_if_success (with_reducible show wpAny _ _ (exec (Stmt.While _ _ _ _) _) _ _ _)); (fail_if_success (with_reducible show wpAny _ _ (exec (Stmt.For _ _ _ _ _) _) _ _ _)); (fail_if_success (with_reducible show wpAny _ _ (pyIter (Value.ref _)) _ _ _)); (fail_if_success (with_reducible show wpAny _ _ (call (Value.ref _) _) _ _ _)); (fail_if_success (with_reducible show wpAny _ _ (eval (Expr.ListComp _ _ _ _) _) _ _ _)); (first | (k_unfold; (try dsimp only)) | (k_end; wrow_close) | walk1 | (dsimp only; walk1) | (leave1; walk_say "STEP leave1"; try dsimp only) | fail "no step")))
          have hl11 := locs_to R11 (by walk_at "mine keep") hl8
          refine hret _ _ _ _ (by k_asm) (by k_asm) ⟨⟨_, rfl, by simp⟩, R11, locsOf_keep fun q hq => hl11 q (.tail _ (.tail _ hq))⟩
end
end
section
def defScope : Stmt → Scope
  | .FunctionDef _ _ _ _ _ _ s _ _ _ => s
  | _ => default
def lawRest : List Stmt := (defBody (stmtOf 40)).drop 2
def lawScope : Scope := defScope (stmtOf 40)
section
variable {w : World} {p : Program} {loose : List Str} {mean : ExcName → Option Value} {mg mb : Str → Option Value} {W : St} {f : Fix} {m : Mut} {l : Led} {i : Nat}
theorem w_newList1 {A : Around} {E : Value → Shared → Prop} {s : Shared} {h₀ : Heap} {L : Addr} {mF : Str → Option Value} {Q : Value → Shared → Prop} (F : Fr h₀ L s.heap mF) (N : News h₀ L s.heap l) (R : Rep w W f m l)
    (h : ∀ a h' l', Fr h₀ L h' mF → News h₀ L h' l' → Rep w W f m l' → Loc W.n f m l' a (PySem.W.listOf (refs f [i]).toArray 0) → KeepNew a W.n f m l W.n f m l' → a ≠ m.rl → Q (.ref a) { s with heap := h' }) :
    wpAny (model PySem.Challenge.rw_pq0678_01.row.prog w) A (newList [.ref (f.x i)]) Q E s :=
  newList_K F N fun a h' F' N' hl => let ⟨a1, a2, a3⟩ := R.new hl; h a h' _ F' N' a1 a2 a3 fun e => Nat.ne_of_lt (hl _ R.hrl) e.symm
theorem int_at : ∀ {vs : List Value} {ns : List Int} {i : Nat} {v : Value}, IntsAre vs ns → vs[i]? = some v → ∃ z t, v = .int z t
  | _, _, 0, _, .cons n t _, h => ⟨n, t, (Option.some.inj h).symm⟩
  | _, _, i + 1, _, .cons _ _ r, h => int_at (i := i) r (by simpa using h)
theorem Rep.cell {c : Addr} (R : Rep w W f m l) (h : f.ce = c) : ∃ oc, (c, oc) ∈ l ∧ oc.data = .cell (some (.ref f.wd)) := by
  obtain ⟨oc, hoc, dce⟩ := R.has .ce trivial
  dsimp only [Sl.at] at hoc
  rw [h] at hoc
  exact ⟨oc, hoc, dce⟩
theorem law_rest {dp un : Nat} {gd : Option (List Code)} {cn : Str} {a sc : Addr} {ccd : Value} {outer : List Env} {A₀ : Around} {base h₀ : Heap} {L : Addr} {M : Str → Option Value} {s : Shared} {Q : Flow → Shared → Prop} {E : Value → Shared → Prop} {vs : List Value} {ns : List Int} {P : Addr} {oT : Obj}
    (B : Below A₀ base outer h₀) (F : Fr h₀ L s.heap (fun z => if z = Str.ofString "script" then some (.ref sc) else M z)) (X : (Mine.k0.heap_1 w.params).In h₀) (N : News h₀ L s.heap l) (T : Top p loose mean mg mb h₀)
    (hsc : h₀.IsList sc vs.toArray) (hi : IntsAre vs ns) (hlen : ns.length ≤ 63) (R : Rep w W0 f m l) (hce : f.ce = L + 1) (hxal : f.xal = []) (hxed : f.xed = []) (hdp : dp + 60 < recursionLimit) (hun : un + 8 * 60 < cLine)
    (hE : PassesOwn (model PySem.Challenge.rw_pq0678_01.row.prog w) (ktrTop dp un gd cn lawScope L a ccd [(Str.ofString "world", L + 1)] outer) (envX cn lawScope L a ccd [(Str.ofString "world", L + 1)]) E)
    (hP : Loc W0.n f m l P oT)
    (hret : ∀ mm h' l' tk', Fr h₀ L h' mm → News h₀ L h' l' → (P, oT) ∈ l' → Q (.ret (.bool true)) { s with heap := h', toks := tk' }) :
    wpAny (model PySem.Challenge.rw_pq0678_01.row.prog w) (ktrTop dp un gd cn lawScope L a ccd [(Str.ofString "world", L + 1)] outer) (execs lawRest (envX cn lawScope L a ccd [(Str.ofString "world", L + 1)])) Q E s := by
  revert X
  k_fill
  intro X
  obtain ⟨oc, hoc, dce⟩ := R.has .ce trivial
  dsimp only [Sl.at] at hoc
  rw [hce] at hoc
  have e1 : lawScope = Scope.mk _ _ _ _ _ := rfl
  rw [e1] at hE ⊢
  rw [show lawRest = _ :: _ :: _ :: _ :: _ :: _ :: _ :: _ :: [] from rfl]
  clear e1
  (repeat' ((fail_if_success (with_reducible show wpAny _ _ (exec (Stmt.While _ _ _ _) _) _ _ _)); (fail_if_success (with_reducible show wpAny _ _ (exec (Stmt.For _ _ _ _ _) _) _ _ _)); (fail_if_success (with_reducible show wpAny _ _ (pyIter (Value.ref _)) _ _ _)); (fail_if_success (with_reducible show wpAny _ _ (call (Value.ref _) _) _ _ _)); (fail_if_success (with_reducible show wpAny _ _ (eval (Expr.ListComp _ _ _ _) _) _ _ _)); (first | (k_unfold; (try dsimp only)) | (k_end; wrow_close) | walk1 | (dsimp only; walk1) | (leave1; walk_say "STEP leave1"; try dsimp only) | fail "no step")))
  (refine' Ctr.use ?k1 ?k2 ?k3 ?k4 ?k5 ?k6 (law_new_c R inv0.wf hxal hxed) ?k7 ?k8 ?_; (case k1 => k_asm); (case k2 => k_asm); (case k3 => k_asm); (case k4 => k_asm); (case k5 => k_asm); (case k6 => first | exact rfl | assumption); (case k7 => ktr_room); (case k8 => ktr_units))
  rintro r9 l9 h9 tk9 F9 N9 ⟨⟨t9, rfl⟩, x, d, e, R6, K6⟩
  (try dsimp only); (try k_fold)
  have P6 := K6 _ _ hP
  obtain ⟨fi, fk, fe, fw, fr⟩ := inv0.fresh (by decide) 3
  (repeat' ((fail_if_success (with_reducible show wpAny _ _ (call (Value.builtin _) _) _ _ _)); (fail_if_success (with_reducible show wpAny _ _ (exec (Stmt.While _ _ _ _) _) _ _ _)); (fail_if_success (with_reducible show wpAny _ _ (exec (Stmt.For _ _ _ _ _) _) _ _ _)); (fail_if_success (with_reducible show wpAny _ _ (pyIter (Value.ref _)) _ _ _)); (fail_if_success (with_reducible show wpAny _ _ (call (Value.ref _) _) _ _ _)); (fail_if_success (with_reducible show wpAny _ _ (eval (Expr.ListComp _ _ _ _) _) _ _ _)); (first | (k_unfold; (try dsimp only)) | (k_end; wrow_close) | walk1 | (dsimp only; walk1) | (leave1; walk_say "STEP leave1"; try dsimp only) | fail "no step")))
  refine w_append_ro (W := freshW W0 3) (f := newF f 1 x d e) (by k_asm) (by k_asm) R6 (by decide) fun h7 l7 F7 N7 R7 K7 => ?_
  have P7 := K7 _ _ P6
  obtain ⟨oc7, hoc7, dce7⟩ := R7.has .ce trivial
  dsimp only [Sl.at] at hoc7
  rw [show (newF f 1 x d e).ce = L + 1 from hce] at hoc7
  (repeat' ((fail_if_success (with_reducible show wpAny _ _ (subscriptTail _ _ (Value.ref _) (Value.int _ _)) _ _ _)); (fail_if_success (with_reducible show wpAny _ _ (exec (Stmt.While _ _ _ _) _) _ _ _)); (fail_if_success (with_reducible show wpAny _ _ (exec (Stmt.For _ _ _ _ _) _) _ _ _)); (fail_if_success (with_reducible show wpAny _ _ (pyIter (Value.ref _)) _ _ _)); (fail_if_success (with_reducible show wpAny _ _ (call (Value.ref _) _) _ _ _)); (fail_if_success (with_reducible show wpAny _ _ (eval (Expr.ListComp _ _ _ _) _) _ _ _)); (first | (k_unfold; (try dsimp only)) | (k_end; wrow_close) | walk1 | (dsimp only; walk1) | (leave1; walk_say "STEP leave1"; try dsimp only) | fail "no step")))
  refine w_al (i := 1) (by k_asm) R7 (by decide) (by decide) (by decide) rfl (by with_unfolding_all rfl) ?_
  (repeat' ((fail_if_success (with_reducible show wpAny _ _ (newList _) _ _ _)); (fail_if_success (with_reducible show wpAny _ _ (exec (Stmt.While _ _ _ _) _) _ _ _)); (fail_if_success (with_reducible show wpAny _ _ (exec (Stmt.For _ _ _ _ _) _) _ _ _)); (fail_if_success (with_reducible show wpAny _ _ (pyIter (Value.ref _)) _ _ _)); (fail_if_success (with_reducible show wpAny _ _ (call (Value.ref _) _) _ _ _)); (fail_if_success (with_reducible show wpAny _ _ (eval (Expr.ListComp _ _ _ _) _) _ _ _)); (first | (k_unfold; (try dsimp only)) | (k_end; wrow_close) | walk1 | (dsimp only; walk1) | (leave1; walk_say "STEP leave1"; try dsimp only) | fail "no step")))
  refine w_newList1 (by k_asm) (by k_asm) R7 fun a8 h8 l8 F8 N8 R8 U8 K8 n8 => ?_
  have P8 := (K8 _ _ P7).2
  obtain ⟨oc8, hoc8, dce8⟩ := R8.has .ce trivial
  dsimp only [Sl.at] at hoc8
  rw [show (newF f 1 x d e).ce = L + 1 from hce] at hoc8
  (repeat' ((fail_if_success (with_reducible show wpAny _ _ (setAttr _ _ _) _ _ _)); (fail_if_success (with_reducible show wpAny _ _ (exec (Stmt.While _ _ _ _) _) _ _ _)); (fail_if_success (with_reducible show wpAny _ _ (exec (Stmt.For _ _ _ _ _) _) _ _ _)); (fail_if_success (with_reducible show wpAny _ _ (pyIter (Value.ref _)) _ _ _)); (fail_if_success (with_reducible show wpAny _ _ (call (Value.ref _) _) _ _ _)); (fail_if_success (with_reducible show wpAny _ _ (eval (Expr.ListComp _ _ _ _) _) _ _ _)); (first | (k_unfold; (try dsimp only)) | (k_end; wrow_close) | walk1 | (dsimp only; walk1) | (leave1; walk_say "STEP leave1"; try dsimp only) | fail "no step")))
  refine w_new_root_list (ns := [1]) (by k_asm) (by k_asm) (by k_asm) R8 U8 fun h9' l9' F9' N9' R9 K9 => ?_
  have P9 := K9 _ _ (K8 _ _ P7).1 P8
  have hI9 : Inv (((freshW W0 3).setRoots [1]).setRlist [1]) := fi.addRoot fk (.inr ⟨fe, fw⟩) (by decide)
  have hB9 : Bd (((freshW W0 3).setRoots [1]).setRlist [1]) 0 := ⟨by decide, by decide, fun i => by
    show (if i = 0 + 1 then ([] : List Nat) else []).length ≤ 0
    split <;> exact Nat.le_refl _⟩
  have hc9 : (newF f 1 x d e).ce = L + 1 := hce
  (repeat' ((fail_if_success (with_reducible show wpAny _ _ (exec (Stmt.For _ _ _ _ _) _) _ _ _)); (fail_if_success (with_reducible show wpAny _ _ (exec (Stmt.While _ _ _ _) _) _ _ _)); (fail_if_success (with_reducible show wpAny _ _ (exec (Stmt.For _ _ _ _ _) _) _ _ _)); (fail_if_success (with_reducible show wpAny _ _ (pyIter (Value.ref _)) _ _ _)); (fail_if_success (with_reducible show wpAny _ _ (call (Value.ref _) _) _ _ _)); (fail_if_success (with_reducible show wpAny _ _ (eval (Expr.ListComp _ _ _ _) _) _ _ _)); (first | (k_unfold; (try dsimp only)) | (k_end; wrow_close) | walk1 | (dsimp only; walk1) | (leave1; walk_say "STEP leave1"; try dsimp only) | fail "no step")))
  ((rename Fr _ _ _ _ => lF'); (with_unfolding_all refine' For_invVF lF' ?k1 ?k2 ?_; (case k1 => exact rfl); (case k2 => exact rfl); k_whole))
  (repeat' ((fail_if_success (with_reducible show wpAny _ _ (subscriptTail _ _ (Value.ref _) (Value.ref _)) _ _ _)); (fail_if_success (with_reducible show wpAny _ _ (exec (Stmt.While _ _ _ _) _) _ _ _)); (fail_if_success (with_reducible show wpAny _ _ (exec (Stmt.For _ _ _ _ _) _) _ _ _)); (fail_if_success (with_reducible show wpAny _ _ (pyIter (Value.ref _)) _ _ _)); (fail_if_success (with_reducible show wpAny _ _ (call (Value.ref _) _) _ _ _)); (fail_if_success (with_reducible show wpAny _ _ (eval (Expr.ListComp _ _ _ _) _) _ _ _)); (first | (k_unfold; (try dsimp only)) | (k_end; wrow_close) | walk1 | (dsimp only; walk1) | (leave1; walk_say "STEP leave1"; try dsimp only) | fail "no step")))
  refine kmk_slice_ints (ns := ns) (ms := ns.take 12) (c := (ns.take 12).length) (by k_asm) (by k_asm) (Fr.lst (by k_asm) hsc) IsPart.none (IsPart.int _ _) hi (kmk_upto hi (by decide)) rfl (fun D10 ws10 h10 F10 N10 l10 hI10 hC10 hL10 => ?_) (by with_unfolding_all rfl) (by intro _; with_unfolding_all rfl) (kmk_sz hi (sizeLine_ge (by omega)))
  obtain ⟨R10, U10, K10⟩ := R9.new (o := PySem.W.listOf ws10.toArray 0) l10
  have P10 := (K10 _ _ P9).2
  (repeat' ((fail_if_success (with_reducible show wpAny _ _ (newList _) _ _ _)); (fail_if_success (with_reducible show wpAny _ _ (exec (Stmt.While _ _ _ _) _) _ _ _)); (fail_if_success (with_reducible show wpAny _ _ (exec (Stmt.For _ _ _ _ _) _) _ _ _)); (fail_if_success (with_reducible show wpAny _ _ (pyIter (Value.ref _)) _ _ _)); (fail_if_success (with_reducible show wpAny _ _ (call (Value.ref _) _) _ _ _)); (fail_if_success (with_reducible show wpAny _ _ (eval (Expr.ListComp _ _ _ _) _) _ _ _)); (first | (k_unfold; (try dsimp only)) | (k_end; wrow_close) | walk1 | (dsimp only; walk1) | (leave1; walk_say "STEP leave1"; try dsimp only) | fail "no step")))
  refine newList_K (by k_asm) (by k_asm) fun D11 h11 F11 N11 l11 => ?_
  obtain ⟨R11, U11, K11⟩ := R10.new (o := PySem.W.listOf #[.int 5 _, .int 0 _, .int 40 _] 0) l11
  have P11 := (K11 _ _ P10).2
  (repeat' ((fail_if_success (with_reducible show wpAny _ _ (binaryOp _ _ _) _ _ _)); (fail_if_success (with_reducible show wpAny _ _ (exec (Stmt.While _ _ _ _) _) _ _ _)); (fail_if_success (with_reducible show wpAny _ _ (exec (Stmt.For _ _ _ _ _) _) _ _ _)); (fail_if_success (with_reducible show wpAny _ _ (pyIter (Value.ref _)) _ _ _)); (fail_if_success (with_reducible show wpAny _ _ (call (Value.ref _) _) _ _ _)); (fail_if_success (with_reducible show wpAny _ _ (eval (Expr.ListComp _ _ _ _) _) _ _ _)); (first | (k_unfold; (try dsimp only)) | (k_end; wrow_close) | walk1 | (dsimp only; walk1) | (leave1; walk_say "STEP leave1"; try dsimp only) | fail "no step")))
  refine kmk_add_ints (by k_asm) (by k_asm) (News.isList N11 (.tail _ (.head _))) (News.isList N11 (.head _)) hI10 (.cons _ _ (.cons _ _ (.cons _ _ .nil))) (fun D12 us h12 F12 N12 l12 hI12 => ?_) (sizeLine_ge (by simp; omega))
  obtain ⟨R12, U12, K12⟩ := R11.new (o := PySem.W.listOf us.toArray 0) l12
  have P12 := (K12 _ _ P11).2
  (repeat' ((fail_if_success (with_reducible show wpAny _ _ (exec (Stmt.While _ _ _ _) _) _ _ _)); (fail_if_success (with_reducible show wpAny _ _ (exec (Stmt.For _ _ _ _ _) _) _ _ _)); (fail_if_success (with_reducible show wpAny _ _ (pyIter (Value.ref _)) _ _ _)); (fail_if_success (with_reducible show wpAny _ _ (call (Value.ref _) _) _ _ _)); (fail_if_success (with_reducible show wpAny _ _ (eval (Expr.ListComp _ _ _ _) _) _ _ _)); (first | (k_unfold; (try dsimp only)) | (k_end; wrow_close) | walk1 | (dsimp only; walk1) | (leave1; walk_say "STEP leave1"; try dsimp only) | fail "no step")))
  refine iter_rep (m₀ := ?M) [(P, oT)] (fun i W f m mm => (∃ u, mm = fun y => if y = Str.ofString "number" then u else ?M y) ∧ Inv W ∧ Bd W i ∧ f.ce = L + 1 ∧ f.xal = [] ∧ f.xed = []) (by rfl) (by k_asm) (by k_asm) R12 U12 (locs_cons P12 locs_nil) ⟨⟨_, upd_self _ _⟩, hI9, hB9, hc9, rfl, rfl⟩ ?_ ?_
  · rintro i v W1 f1 m1 mm l1 h1 tk1 I oI hv ⟨⟨u, rfl⟩, hi1, hb1, hce1, hx1, hy1⟩ R13 ha hl hI F13 N13
    obtain ⟨z, tz, rfl⟩ := int_at hI12 hv
    have hi14 : i ≤ 14 := by
      have h1 := (List.getElem?_eq_some_iff.mp hv).1
      have h2 := hI12.length
      simp at h2
      omega
    obtain ⟨oc1, hoc1, dce1⟩ := R13.has .ce trivial
    dsimp only [Sl.at] at hoc1
    rw [hce1] at hoc1
    clear hoc dce hoc7 dce7 hoc8 dce8
    (repeat' ((fail_if_success (with_reducible show wpAny _ _ (call (Value.builtin "abs") _) _ _ _)); (fail_if_success (with_reducible show wpAny _ _ (exec (Stmt.While _ _ _ _) _) _ _ _)); (fail_if_success (with_reducible show wpAny _ _ (exec (Stmt.For _ _ _ _ _) _) _ _ _)); (fail_if_success (with_reducible show wpAny _ _ (pyIter (Value.ref _)) _ _ _)); (fail_if_success (with_reducible show wpAny _ _ (call (Value.ref _) _) _ _ _)); (fail_if_success (with_reducible show wpAny _ _ (eval (Expr.ListComp _ _ _ _) _) _ _ _)); (first | (k_unfold; (try dsimp only)) | (k_end; wrow_close) | walk1 | (dsimp only; walk1) | (leave1; walk_say "STEP leave1"; try dsimp only) | fail "no step")))
    refine call_abs_int fun u9 tk9 => ?_
    rw [show (if z < 0 then -z else z) = ((z.natAbs : Nat) : Int) by split <;> omega]
    (repeat' ((fail_if_success (with_reducible show wpAny _ _ (exec (Stmt.While _ _ _ _) _) _ _ _)); (fail_if_success (with_reducible show wpAny _ _ (exec (Stmt.For _ _ _ _ _) _) _ _ _)); (fail_if_success (with_reducible show wpAny _ _ (pyIter (Value.ref _)) _ _ _)); (fail_if_success (with_reducible show wpAny _ _ (call (Value.ref _) _) _ _ _)); (fail_if_success (with_reducible show wpAny _ _ (eval (Expr.ListComp _ _ _ _) _) _ _ _)); (first | (k_unfold; (try dsimp only)) | (k_end; wrow_close) | walk1 | (dsimp only; walk1) | (leave1; walk_say "STEP leave1"; try dsimp only) | fail "no step")))
    (refine' Ctr.use ?k1 ?k2 ?k3 ?k4 ?k5 ?k6 (law_deed_c R13 hi1 hi14 hb1 hx1 hy1) ?k7 ?k8 ?_; (case k1 => k_asm); (case k2 => k_asm); (case k3 => k_asm); (case k4 => k_asm); (case k5 => k_asm); (case k6 => first | exact rfl | assumption); (case k7 => ktr_room); (case k8 => ktr_units))
    rintro r9 l9 h9 tk9 F9 N9 ⟨rfl, W2, f2, m2, hi2, hb2, hw2, hce2, hx2, hy2, R14, K14⟩
    (try dsimp only); (try k_fold)
    have hce2' := hce2.trans hce1
    obtain ⟨oc2, hoc2, dce2⟩ := R14.has .ce trivial
    dsimp only [Sl.at] at hoc2
    rw [hce2'] at hoc2
    clear hoc1 dce1
    (repeat' ((fail_if_success (with_reducible show wpAny _ _ (exec (Stmt.While _ _ _ _) _) _ _ _)); (fail_if_success (with_reducible show wpAny _ _ (exec (Stmt.For _ _ _ _ _) _) _ _ _)); (fail_if_success (with_reducible show wpAny _ _ (pyIter (Value.ref _)) _ _ _)); (fail_if_success (with_reducible show wpAny _ _ (call (Value.ref _) _) _ _ _)); (fail_if_success (with_reducible show wpAny _ _ (eval (Expr.ListComp _ _ _ _) _) _ _ _)); (first | (k_unfold; (try dsimp only)) | (k_end; wrow_close) | walk1 | (dsimp only; walk1) | (leave1; walk_say "STEP leave1"; try dsimp only) | fail "no step")))
    (refine' Ctr.use ?k1 ?k2 ?k3 ?k4 ?k5 ?k6 (law_stands_c R14 hi2) ?k7 ?k8 ?_; (case k1 => k_asm); (case k2 => k_asm); (case k3 => k_asm); (case k4 => k_asm); (case k5 => k_asm); (case k6 => first | exact rfl | assumption); (case k7 => ktr_room); (case k8 => ktr_units))
    rintro r9 l9 h9 tk9 F9 N9 ⟨⟨b, rfl, rfl⟩, R15, K15⟩
    (try dsimp only); (try k_fold)
    (repeat' ((fail_if_success (with_reducible show wpAny _ _ (exec (Stmt.While _ _ _ _) _) _ _ _)); (fail_if_success (with_reducible show wpAny _ _ (exec (Stmt.For _ _ _ _ _) _) _ _ _)); (fail_if_success (with_reducible show wpAny _ _ (pyIter (Value.ref _)) _ _ _)); (fail_if_success (with_reducible show wpAny _ _ (call (Value.ref _) _) _ _ _)); (fail_if_success (with_reducible show wpAny _ _ (eval (Expr.ListComp _ _ _ _) _) _ _ _)); (first | (k_unfold; (try dsimp only)) | (k_end; wrow_close) | walk1 | (dsimp only; walk1) | (leave1; walk_say "STEP leave1"; try dsimp only) | fail "no step")))
    exact ForPost.next (by k_asm) (by k_asm) R15 (locs_on (by walk_at "mine keep") (locs_cons hI (locs_cons ha hl))) ⟨⟨_, upd_upd _ _ _ _⟩, hi2, hb2, hce2', hx2, hy2⟩
  · rintro W1 f1 m1 mm l1 h1 tk1 ⟨⟨u, rfl⟩, hi1, hb1, hce1, hx1, hy1⟩ R13 ha hl F13 N13
    obtain ⟨oc1, hoc1, dce1⟩ := R13.has .ce trivial
    dsimp only [Sl.at] at hoc1
    rw [hce1] at hoc1
    clear hoc dce hoc7 dce7 hoc8 dce8
    (repeat' ((fail_if_success (with_reducible show wpAny _ _ (exec (Stmt.While _ _ _ _) _) _ _ _)); (fail_if_success (with_reducible show wpAny _ _ (exec (Stmt.For _ _ _ _ _) _) _ _ _)); (fail_if_success (with_reducible show wpAny _ _ (pyIter (Value.ref _)) _ _ _)); (fail_if_success (with_reducible show wpAny _ _ (call (Value.ref _) _) _ _ _)); (fail_if_success (with_reducible show wpAny _ _ (eval (Expr.ListComp _ _ _ _) _) _ _ _)); (first | (k_unfold; (try dsimp only)) | (k_end; wrow_close) | walk1 | (dsimp only; walk1) | (leave1; walk_say "STEP leave1"; try dsimp only) | fail "no step")))
    rename Rep w W1 f1 m1 _ => R14
    have P14 : Loc W1.n f1 m1 l1 P oT := hl _ (.head _)
    refine while_rep (m₀ := ?M2) (n₀ := left W1.cyc W1) [(P, oT)] (fun n W' f' m' mm => (∃ (k : Nat) (t : Tok), mm = (fun z => if z = Str.ofString "turns" then some (.int (k : Int) t) else ?M2 z) ∧ k + left W1.cyc W' ≤ 40) ∧ n = left W1.cyc W' ∧ Inv W' ∧ Far W1.cyc W' ∧ f'.ce = L + 1) (by k_asm) (by k_asm) R14 (locs_cons (by walk_at "mine loc") locs_nil) ⟨⟨0, _, upd_self _ _, by have := left_le (c := W1.cyc) hi1; omega⟩, rfl, hi1, .inl rfl, hce1⟩ ?_
    rintro n W2 f2 m2 mm l2 h2 tk2 ⟨⟨k, t, rfl, hk⟩, rfl, hi2, hf2, hce2⟩ R15 hl2 F15 N15
    clear hoc1 dce1
    obtain ⟨oc2, hoc2, dce2⟩ := R15.cell hce2
    (repeat' ((fail_if_success (with_reducible show wpAny _ _ (exec (Stmt.While _ _ _ _) _) _ _ _)); (fail_if_success (with_reducible show wpAny _ _ (exec (Stmt.For _ _ _ _ _) _) _ _ _)); (fail_if_success (with_reducible show wpAny _ _ (pyIter (Value.ref _)) _ _ _)); (fail_if_success (with_reducible show wpAny _ _ (call (Value.ref _) _) _ _ _)); (fail_if_success (with_reducible show wpAny _ _ (eval (Expr.ListComp _ _ _ _) _) _ _ _)); (first | (k_unfold; (try dsimp only)) | (k_end; wrow_close) | walk1 | (dsimp only; walk1) | (leave1; walk_say "STEP leave1"; try dsimp only) | fail "no step")))
    · have hlt : W2.cyc < W1.cyc + 2 := by assumption
      (refine' Ctr.use ?k1 ?k2 ?k3 ?k4 ?k5 ?k6 (single_c R15 hi2) ?k7 ?k8 ?_; (case k1 => k_asm); (case k2 => k_asm); (case k3 => k_asm); (case k4 => k_asm); (case k5 => k_asm); (case k6 => first | exact rfl | assumption); (case k7 => ktr_room); (case k8 => ktr_units))
      rintro r9 l9 h9 tk9 F9 N9 ⟨⟨k9, t9', rfl⟩, W3, m3, s3, R16, K16, er⟩
      (try dsimp only); (try k_fold)
      obtain ⟨oc3, hoc3, dce3⟩ := R16.cell hce2
      clear hoc2 dce2
      (repeat' ((fail_if_success (with_reducible show wpAny _ _ (exec (Stmt.While _ _ _ _) _) _ _ _)); (fail_if_success (with_reducible show wpAny _ _ (exec (Stmt.For _ _ _ _ _) _) _ _ _)); (fail_if_success (with_reducible show wpAny _ _ (pyIter (Value.ref _)) _ _ _)); (fail_if_success (with_reducible show wpAny _ _ (call (Value.ref _) _) _ _ _)); (fail_if_success (with_reducible show wpAny _ _ (eval (Expr.ListComp _ _ _ _) _) _ _ _)); (first | (k_unfold; (try dsimp only)) | (k_end; wrow_close) | walk1 | (dsimp only; walk1) | (leave1; walk_say "STEP leave1"; try dsimp only) | fail "no step")))
      obtain ⟨a3, b3⟩ := hf2.step hi2 hlt s3
      exact ForPost.next (by k_asm) (by k_asm) R16 (locs_on (by walk_at "mine keep") hl2) ⟨left W1.cyc W3, b3, ⟨k + 1, _, upd_upd _ _ _ _, by omega⟩, rfl, hi2.step s3, a3, hce2⟩
    · have hge : ¬ W2.cyc < W1.cyc + 2 := by first | assumption | omega
      obtain ⟨e0, hkr⟩ := hf2.done hge
      have hn2 := hi2.n16
      have hl2' := hi2.kl
      refine w_sorted_od (by rfl) (by k_asm) (by k_asm) R15 (by omega) fun b5 h5 l5 tk5 ms5 t5 ep5 F5 N5 R5 U5 K5 n5 p5 o5 => ?_
      have P5 := (K5 _ _ (hl2 _ (.head _))).2
      obtain ⟨oc3, hoc3, dce3⟩ := R5.cell hce2
      clear hoc2 dce2
      (repeat' ((fail_if_success (with_reducible show wpAny _ _ (exec (Stmt.While _ _ _ _) _) _ _ _)); (fail_if_success (with_reducible show wpAny _ _ (exec (Stmt.For _ _ _ _ _) _) _ _ _)); (fail_if_success (with_reducible show wpAny _ _ (pyIter (Value.ref _)) _ _ _)); (fail_if_success (with_reducible show wpAny _ _ (call (Value.ref _) _) _ _ _)); (fail_if_success (with_reducible show wpAny _ _ (eval (Expr.ListComp _ _ _ _) _) _ _ _)); (first | (k_unfold; (try dsimp only)) | (k_end; wrow_close) | walk1 | (dsimp only; walk1) | (leave1; walk_say "STEP leave1"; try dsimp only) | fail "no step")))
      (refine' Ctr.use ?k1 ?k2 ?k3 ?k4 ?k5 ?k6 (law_reached_c R5 hi2 (by omega)) ?k7 ?k8 ?_; (case k1 => k_asm); (case k2 => k_asm); (case k3 => k_asm); (case k4 => k_asm); (case k5 => k_asm); (case k6 => first | exact rfl | assumption); (case k7 => ktr_room); (case k8 => ktr_units))
      rintro r9 l9 h9 tk9 F9 N9 ⟨b6, ms6, t6, ep6, rfl, R6', U6, K6', hm6, hs6⟩
      (try dsimp only); (try k_fold)
      have P6 := K6' _ _ P5
      have e6 := kept_reached hi2 hkr p5 o5 hs6 hm6
      have U5' := K6' _ _ U5
      obtain ⟨oc4, hoc4, dce4⟩ := R6'.cell hce2
      clear hoc3 dce3
      (repeat' ((fail_if_success (with_reducible show wpAny _ _ (compareOp _ _ _) _ _ _)); (fail_if_success (with_reducible show wpAny _ _ (exec (Stmt.While _ _ _ _) _) _ _ _)); (fail_if_success (with_reducible show wpAny _ _ (exec (Stmt.For _ _ _ _ _) _) _ _ _)); (fail_if_success (with_reducible show wpAny _ _ (pyIter (Value.ref _)) _ _ _)); (fail_if_success (with_reducible show wpAny _ _ (call (Value.ref _) _) _ _ _)); (fail_if_success (with_reducible show wpAny _ _ (eval (Expr.ListComp _ _ _ _) _) _ _ _)); (first | (k_unfold; (try dsimp only)) | (k_end; wrow_close) | walk1 | (dsimp only; walk1) | (leave1; walk_say "STEP leave1"; try dsimp only) | fail "no step")))
      refine w_ne_lists (ns := ms5) (ms := ms6) (by k_asm) U5'.1 U6.1 (by ktr_units) ?_
      rw [decide_eq_true e6]
      (repeat' ((fail_if_success (with_reducible show wpAny _ _ (exec (Stmt.While _ _ _ _) _) _ _ _)); (fail_if_success (with_reducible show wpAny _ _ (exec (Stmt.For _ _ _ _ _) _) _ _ _)); (fail_if_success (with_reducible show wpAny _ _ (pyIter (Value.ref _)) _ _ _)); (fail_if_success (with_reducible show wpAny _ _ (call (Value.ref _) _) _ _ _)); (fail_if_success (with_reducible show wpAny _ _ (eval (Expr.ListComp _ _ _ _) _) _ _ _)); (first | (k_unfold; (try dsimp only)) | (k_end; wrow_close) | walk1 | (dsimp only; walk1) | (leave1; walk_say "STEP leave1"; try dsimp only) | fail "no step")))
      (refine' Ctr.use ?k1 ?k2 ?k3 ?k4 ?k5 ?k6 (law_stands_c R6' hi2) ?k7 ?k8 ?_; (case k1 => k_asm); (case k2 => k_asm); (case k3 => k_asm); (case k4 => k_asm); (case k5 => k_asm); (case k6 => first | exact rfl | assumption); (case k7 => ktr_room); (case k8 => ktr_units))
      rintro r9 l9 h9 tk9 F9 N9 ⟨⟨b, rfl, rfl⟩, R7', K7'⟩
      (try dsimp only); (try k_fold)
      have P7 := K7' _ _ P6
      obtain ⟨oc5, hoc5, dce5⟩ := R7'.cell hce2
      clear hoc4 dce4
      (repeat' ((fail_if_success (with_reducible show wpAny _ _ (exec (Stmt.While _ _ _ _) _) _ _ _)); (fail_if_success (with_reducible show wpAny _ _ (exec (Stmt.For _ _ _ _ _) _) _ _ _)); (fail_if_success (with_reducible show wpAny _ _ (pyIter (Value.ref _)) _ _ _)); (fail_if_success (with_reducible show wpAny _ _ (call (Value.ref _) _) _ _ _)); (fail_if_success (with_reducible show wpAny _ _ (eval (Expr.ListComp _ _ _ _) _) _ _ _)); (first | (k_unfold; (try dsimp only)) | (k_end; wrow_close) | walk1 | (dsimp only; walk1) | (leave1; walk_say "STEP leave1"; try dsimp only) | fail "no step")))
      (refine' Ctr.use ?k1 ?k2 ?k3 ?k4 ?k5 ?k6 (full_c R7' hi2 e0) ?k7 ?k8 ?_; (case k1 => k_asm); (case k2 => k_asm); (case k3 => k_asm); (case k4 => k_asm); (case k5 => k_asm); (case k6 => first | exact rfl | assumption); (case k7 => ktr_room); (case k8 => ktr_units))
      rintro r9 l9 h9 tk9 F9 N9 ⟨rfl, W8, m8, hi8, st8, hk8, R8', K8', er8⟩
      (try dsimp only); (try k_fold)
      have P8 := K8' _ _ P7
      obtain ⟨oc6, hoc6, dce6⟩ := R8'.cell hce2
      clear hoc5 dce5
      have hn8 := hi8.n16
      have hl8 := hi8.kl
      (repeat' ((fail_if_success (with_reducible show wpAny _ _ (call (Value.builtin "sorted") _) _ _ _)); (fail_if_success (with_reducible show wpAny _ _ (exec (Stmt.While _ _ _ _) _) _ _ _)); (fail_if_success (with_reducible show wpAny _ _ (exec (Stmt.For _ _ _ _ _) _) _ _ _)); (fail_if_success (with_reducible show wpAny _ _ (pyIter (Value.ref _)) _ _ _)); (fail_if_success (with_reducible show wpAny _ _ (call (Value.ref _) _) _ _ _)); (fail_if_success (with_reducible show wpAny _ _ (eval (Expr.ListComp _ _ _ _) _) _ _ _)); (first | (k_unfold; (try dsimp only)) | (k_end; wrow_close) | walk1 | (dsimp only; walk1) | (leave1; walk_say "STEP leave1"; try dsimp only) | fail "no step")))
      refine w_sorted_od (by rfl) (by k_asm) (by k_asm) R8' (by omega) fun b9 h9 l9 tk9 ms9 t9 ep9 F9 N9 R9' U9 K9' n9 p9 o9 => ?_
      have P9 := (K9' _ _ P8).2
      obtain ⟨oc7, hoc7, dce7⟩ := R9'.cell hce2
      clear hoc6 dce6
      (repeat' ((fail_if_success (with_reducible show wpAny _ _ (exec (Stmt.While _ _ _ _) _) _ _ _)); (fail_if_success (with_reducible show wpAny _ _ (exec (Stmt.For _ _ _ _ _) _) _ _ _)); (fail_if_success (with_reducible show wpAny _ _ (pyIter (Value.ref _)) _ _ _)); (fail_if_success (with_reducible show wpAny _ _ (call (Value.ref _) _) _ _ _)); (fail_if_success (with_reducible show wpAny _ _ (eval (Expr.ListComp _ _ _ _) _) _ _ _)); (first | (k_unfold; (try dsimp only)) | (k_end; wrow_close) | walk1 | (dsimp only; walk1) | (leave1; walk_say "STEP leave1"; try dsimp only) | fail "no step")))
      (refine' Ctr.use ?k1 ?k2 ?k3 ?k4 ?k5 ?k6 (law_reached_c R9' hi8 (by omega)) ?k7 ?k8 ?_; (case k1 => k_asm); (case k2 => k_asm); (case k3 => k_asm); (case k4 => k_asm); (case k5 => k_asm); (case k6 => first | exact rfl | assumption); (case k7 => ktr_room); (case k8 => ktr_units))
      rintro r9 l9 h9 tk9 F9 N9 ⟨b10, ms10, t10, ep10, rfl, R10', U10', K10', hm10, hs10⟩
      (try dsimp only); (try k_fold)
      have P10 := K10' _ _ P9
      have e10 := kept_reached hi8 hk8 p9 o9 hs10 hm10
      have U9' := K10' _ _ U9
      obtain ⟨oc8, hoc8, dce8⟩ := R10'.cell hce2
      clear hoc7 dce7
      (repeat' ((fail_if_success (with_reducible show wpAny _ _ (compareOp _ _ _) _ _ _)); (fail_if_success (with_reducible show wpAny _ _ (exec (Stmt.While _ _ _ _) _) _ _ _)); (fail_if_success (with_reducible show wpAny _ _ (exec (Stmt.For _ _ _ _ _) _) _ _ _)); (fail_if_success (with_reducible show wpAny _ _ (pyIter (Value.ref _)) _ _ _)); (fail_if_success (with_reducible show wpAny _ _ (call (Value.ref _) _) _ _ _)); (fail_if_success (with_reducible show wpAny _ _ (eval (Expr.ListComp _ _ _ _) _) _ _ _)); (first | (k_unfold; (try dsimp only)) | (k_end; wrow_close) | walk1 | (dsimp only; walk1) | (leave1; walk_say "STEP leave1"; try dsimp only) | fail "no step")))
      refine w_eq_lists (ns := ms9) (ms := ms10) (by k_asm) U9'.1 U10'.1 (by ktr_units) ?_
      rw [decide_eq_true e10]
      (repeat' ((fail_if_success (with_reducible show wpAny _ _ (exec (Stmt.While _ _ _ _) _) _ _ _)); (fail_if_success (with_reducible show wpAny _ _ (exec (Stmt.For _ _ _ _ _) _) _ _ _)); (fail_if_success (with_reducible show wpAny _ _ (pyIter (Value.ref _)) _ _ _)); (fail_if_success (with_reducible show wpAny _ _ (call (Value.ref _) _) _ _ _)); (fail_if_success (with_reducible show wpAny _ _ (eval (Expr.ListComp _ _ _ _) _) _ _ _)); (first | (k_unfold; (try dsimp only)) | (k_end; wrow_close) | walk1 | (dsimp only; walk1) | (leave1; walk_say "STEP leave1"; try dsimp only) | fail "no step")))
      (refine' Ctr.use ?k1 ?k2 ?k3 ?k4 ?k5 ?k6 (law_stands_c R10' hi8) ?k7 ?k8 ?_; (case k1 => k_asm); (case k2 => k_asm); (case k3 => k_asm); (case k4 => k_asm); (case k5 => k_asm); (case k6 => first | exact rfl | assumption); (case k7 => ktr_room); (case k8 => ktr_units))
      rintro r9 l9 h9 tk9 F9 N9 ⟨⟨b, rfl, rfl⟩, R11', K11'⟩
      (try dsimp only); (try k_fold)
      (repeat' ((fail_if_success (with_reducible show wpAny _ _ (exec (Stmt.While _ _ _ _) _) _ _ _)); (fail_if_success (with_reducible show wpAny _ _ (exec (Stmt.For _ _ _ _ _) _) _ _ _)); (fail_if_success (with_reducible show wpAny _ _ (pyIter (Value.ref _)) _ _ _)); (fail_if_success (with_reducible show wpAny _ _ (call (Value.ref _) _) _ _ _)); (fail_if_success (with_reducible show wpAny _ _ (eval (Expr.ListComp _ _ _ _) _) _ _ _)); (first | (k_unfold; (try dsimp only)) | (k_end; wrow_close) | walk1 | (dsimp only; walk1) | (leave1; walk_say "STEP leave1"; try dsimp only) | fail "no step")))
      exact hret _ _ _ _ (by k_asm) (by k_asm) (K11' _ _ P10).1
end
end
end
end Mine
namespace Mine

theorem headA.tw995775220138220913 : True := trivial
theorem headA.tw11948039979697839292 : True := trivial
theorem headA.tw5713408202342898995 : True := trivial
theorem headA.tw12487870560322158968 : True := trivial
theorem headA.tw10884783237508540567 : True := trivial
theorem headA.tw6964984888229560040 : True := trivial
theorem headA.tw5280877997064293141 : True := trivial
theorem headA.tw13069756445162369319 : True := trivial
theorem headA.tw7171290845531097469 : True := trivial
theorem headA.tw17940707468798613730 : True := trivial
theorem headA.tw5682890843948782533 : True := trivial
theorem headA.tw15840100724028404668 : True := trivial
theorem headA.tw7489536963138193674 : True := trivial
theorem headA.tw15956462940153029637 : True := trivial
theorem headA.tw1889357633366522021 : True := trivial
theorem headA.tw7287474214730530303 : True := trivial
theorem headA.tw16529348762789502116 : True := trivial
theorem headA.tw3709013137862248496 : True := trivial
theorem headA.tw10265361106508287183 : True := trivial
theorem headA.tw9886166932620173596 : True := trivial
theorem headA.tw8161854615998663522 : True := trivial
theorem headA.tw2313403878690588184 : True := trivial
theorem headA.tw15039821549322586850 : True := trivial
theorem headA.tw14933641339464966647 : True := trivial
theorem headA.tw5359669377293174825 : True := trivial
theorem headA.tw1066413001175756992 : True := trivial
theorem headA.tw11422527969289661435 : True := trivial
theorem headA.tw8422506466937669988 : True := trivial
theorem headA.tw16545417379976938989 : True := trivial
theorem headA.tw5267483780417447454 : True := trivial
theorem headA.tw6470201379241610623 : True := trivial
theorem headA.tw11814964781330250791 : True := trivial
theorem headA.tw14786056131927350229 : True := trivial
theorem headA.tw13262905215107674957 : True := trivial
theorem headA.tw6911748355470137622 : True := trivial
theorem headA.tw5577526972185387825 : True := trivial
theorem headA.tw10219498785200378393 : True := trivial
theorem headA.tw2738304262338696121 : True := trivial
theorem headA.tw17596587554587103344 : True := trivial
theorem headA.tw12195033699144879418 : True := trivial
theorem headA.tw7525155875684511087 : True := trivial
theorem headA.tw1785401360408315425 : True := trivial
theorem headA.tw3625207263173653308 : True := trivial
theorem headA.tw15301903626514139320 : True := trivial
theorem headA.tw2726048433718722862 : True := trivial
theorem headA.tw1611050989631318721 : True := trivial
theorem headA.tw2005098382650280499 : True := trivial
theorem headA.tw2671726675690633448 : True := trivial
theorem headA.tw4822046143512882800 : True := trivial
theorem headA.tw11273626174291139728 : True := trivial
theorem headA.tw9902156937063756107 : True := trivial
theorem headA.tw4751202359736437063 : True := trivial
theorem headA.tw13611686870863808698 : True := trivial
theorem headA.tw5873000147546300986 : True := trivial
theorem headA.tw6718419724338049472 : True := trivial
theorem headA.tw5243510554250689551 : True := trivial
theorem headA.tw11580138732841331386 : True := trivial
theorem headA.tw13858440843682837938 : True := trivial
theorem headA.tw5633767838791135088 : True := trivial
theorem headA.tw4266768548321282494 : True := trivial
theorem headA.tw5582855950954924444 : True := trivial
theorem headA.tw5062981253817426640 : True := trivial
theorem headA.tw8890098500767691346 : True := trivial
theorem headA.tw4600954926087485277 : True := trivial
theorem headA.tw4328524323692244021 : True := trivial
theorem headA.tw1368477619447381581 : True := trivial
theorem headA.tw11589817245320537061 : True := trivial
theorem headA.tw15021443323131696452 : True := trivial
theorem headA.tw12267226299216850893 : True := trivial
theorem headA.tw7158924343632304364 : True := trivial
theorem headA.tw5232775340576343985 : True := trivial
theorem headA.tw432771935602482388 : True := trivial
theorem headA.tw2377016746125435635 : True := trivial
theorem headA.tw18053697348264594729 : True := trivial
theorem headA.tw15650386007880858756 : True := trivial
theorem headA.tw5030657165720989190 : True := trivial
theorem headA.tw6489711744235881361 : True := trivial
theorem headA.tw9581903847021794824 : True := trivial
theorem headA.tw9038359471108801889 : True := trivial
theorem headA.tw4508784550489036832 : True := trivial
theorem headA.tw11606672169283343642 : True := trivial
theorem headA.tw11636327743471058271 : True := trivial
theorem headA.tw12556496719130676223 : True := trivial
theorem headA.tw411751769858709837 : True := trivial
theorem headA.tw11453629056588352317 : True := trivial
theorem headA.tw12342106261989894978 : True := trivial
theorem headA.tw9024468121566827904 : True := trivial
theorem headA.tw3380970072875396985 : True := trivial
theorem headA.tw1488249101588696186 : True := trivial
theorem headA.tw15723793287132059675 : True := trivial
theorem headA.tw14093387733874558447 : True := trivial
theorem headA.tw9958324429964481761 : True := trivial
theorem headA.tw800745714725797399 : True := trivial
theorem headA.tw11438175031578862346 : True := trivial
theorem headA.tw18339591642135904949 : True := trivial
theorem headA.tw13779275263535638223 : True := trivial
theorem headA.tw486805030928590185 : True := trivial
theorem headA.tw10999270885764051278 : True := trivial
theorem headA.tw10554327887101391355 : True := trivial
theorem headA.tw13856322925538934814 : True := trivial
theorem headA.tw9960079190457743236 : True := trivial
theorem headA.tw5815334902171774803 : True := trivial
theorem headA.tw12074847269541453431 : True := trivial
theorem headA.tw6314870243614072335 : True := trivial
theorem headA.tw7169649779396437139 : True := trivial
theorem headA.tw7846667828897321680 : True := trivial
theorem headA.tw13456493923136116291 : True := trivial
theorem headA.tw16979001647535529104 : True := trivial
theorem headA.tw9824672922423649950 : True := trivial
theorem headA.tw6272103906517986092 : True := trivial
theorem headA.tw12605017507737507937 : True := trivial
theorem headA.tw1164463692468120239 : True := trivial
theorem headA.tw8702561507864048555 : True := trivial
theorem headA.tw13356479661706930319 : True := trivial
theorem headA.tw8341856051229455333 : True := trivial
theorem headA.tw13209346882398106712 : True := trivial
theorem headA.tw4048867306221706067 : True := trivial
theorem headA.tw11708891443949076727 : True := trivial
theorem headA.tw4355447046873244701 : True := trivial
theorem headA.tw5245151405898022589 : True := trivial
theorem headA.tw18063642213099123430 : True := trivial
theorem headA.tw15738223477756625233 : True := trivial
theorem headA.tw17961627712155554990 : True := trivial
theorem headA.tw15207600950050802286 : True := trivial
theorem headA.tw4901456025508928216 : True := trivial
theorem headA.tw4437198902279044019 : True := trivial
theorem headA.tw2403929642275012147 : True := trivial
theorem headA.tw4429064275670961374 : True := trivial
theorem headA.tw10887210510810106489 : True := trivial
theorem headA.tw10846741672947246674 : True := trivial
theorem headA.tw5169589784717332004 : True := trivial
theorem headA.tw9301024844739629203 : True := trivial
theorem headA.tw6454022516992884176 : True := trivial
theorem headA.tw735650424085805969 : True := trivial
theorem headA.tw12734857504975899931 : True := trivial
theorem headA.tw8494005836855976879 : True := trivial
theorem headA.tw14613383894680130933 : True := trivial
theorem headA.tw10347694572754767624 : True := trivial
theorem headA.tw16058200764390228970 : True := trivial
theorem headA.tw1975188242252460024 : True := trivial
theorem headA.tw16890298277707371373 : True := trivial
theorem headA.tw1977902812157566020 : True := trivial
theorem headA.tw14586181428075747239 : True := trivial
theorem headA.tw6507264915500751231 : True := trivial
theorem headA.tw4972037591617646877 : True := trivial
theorem headA.tw5641263766755995009 : True := trivial
theorem headA.tw11435717329056690960 : True := trivial
theorem headA.tw5802372818582824058 : True := trivial
theorem headA.tw18027791808531102489 : True := trivial
theorem headA.tw9610663505825766379 : True := trivial
theorem headA.tw12121616378111027587 : True := trivial
theorem headA.tw2961923013685400271 : True := trivial
theorem headA.tw11018019017434054470 : True := trivial
theorem headA.tw16442444488650563046 : True := trivial
theorem headA.tw9329412774176509215 : True := trivial
theorem headA.tw16286867475328694033 : True := trivial
theorem headA.tw8759972685550001580 : True := trivial
theorem headA.tw4190642992634358694 : True := trivial
theorem headA.tw805236431415735765 : True := trivial
theorem headA.tw918892379940322468 : True := trivial
theorem headA.tw7186962790048345661 : True := trivial
theorem headA.tw4468007556484366067 : True := trivial
theorem headA.tw15947479488028694712 : True := trivial
theorem headA.tw4144551689100445115 : True := trivial
theorem headA.tw170500451607589924 : True := trivial
theorem headA.tw96518714239155390 : True := trivial
theorem headA.tw9677383443562669211 : True := trivial
theorem headA.tw5627764299372265821 : True := trivial
theorem headA.tw15766053789234469772 : True := trivial
theorem headA.tw15787587783696691314 : True := trivial
theorem headA.tw13584805231333643308 : True := trivial
theorem headA.tw2024305340480485535 : True := trivial
theorem headA.tw4005703106942842588 : True := trivial
theorem headA.tw7319242733991652401 : True := trivial
theorem headA.tw17722068941759066651 : True := trivial
theorem headA.tw6007013982557147005 : True := trivial
theorem headA.tw18032929193064658161 : True := trivial
theorem headA.tw8552248062450017234 : True := trivial
theorem headA.tw4729187278514987446 : True := trivial
theorem headA.tw9220616449008950840 : True := trivial
theorem headA.tw13567913876149436926 : True := trivial
theorem headA.tw9987660858504689936 : True := trivial
theorem headA.tw9791983980809582655 : True := trivial
theorem headA.tw17270080411853204305 : True := trivial
theorem headA.tw16191011738028582100 : True := trivial
theorem headA.tw2790858968676139549 : True := trivial
theorem headA.tw14244516205810291887 : True := trivial
theorem headA.tw11269378564914803506 : True := trivial
theorem headA.tw46479368395083325 : True := trivial
theorem headA.tw16965027738301165359 : True := trivial
theorem headA.tw14108364565635827576 : True := trivial
theorem headA.tw2853188177121194109 : True := trivial
theorem headA.tw12785255000895954976 : True := trivial
theorem headA.tw11873627072655742256 : True := trivial
theorem headA.tw14518474485579549079 : True := trivial
theorem headA.tw3401413877586679264 : True := trivial
theorem headA.tw2973550590350891851 : True := trivial
theorem headA.tw6364652986374824614 : True := trivial
theorem headA.tw10438156163423986058 : True := trivial
theorem headA.tw12379680634411697427 : True := trivial
theorem headA.tw11204388268689133246 : True := trivial
theorem headA.tw17190498378310097345 : True := trivial
theorem headA.tw2946549506988734045 : True := trivial
theorem headA.tw15714282133774092277 : True := trivial
theorem headA.tw17154763140743049217 : True := trivial
theorem headA.tw2074569238117240388 : True := trivial
theorem headA.tw10831706344853881823 : True := trivial
theorem headA.tw8596840688488559782 : True := trivial
theorem headA.tw17031143771417705540 : True := trivial
theorem headA.tw8825564568357797022 : True := trivial
theorem headA.tw4143508985028799292 : True := trivial
theorem headA.tw4497881244546021518 : True := trivial
theorem headA.tw12608332684175659632 : True := trivial
theorem headA.tw14653173444038150245 : True := trivial
theorem headA.tw13429876931747252733 : True := trivial
theorem headA.tw10085454251514518343 : True := trivial
theorem headA.tw2625957572500225748 : True := trivial
theorem headA.tw12218455194193534428 : True := trivial
theorem headA.tw4455547174964940403 : True := trivial
theorem headA.tw14280220050779325779 : True := trivial
theorem headA.tw8833067391453661727 : True := trivial
theorem headA.tw13166867157769410144 : True := trivial
theorem headA.tw17417258859420480475 : True := trivial
theorem headA.tw2392674469785933413 : True := trivial
theorem headA.tw16995426845514550264 : True := trivial
theorem headA.tw4503772303772517097 : True := trivial
theorem headA.tw2252004039633642596 : True := trivial
theorem headA.tw3994676173732079648 : True := trivial
theorem headA.tw15640803474266776088 : True := trivial
theorem headA.tw14481011952069579061 : True := trivial
theorem headA.tw18331580875414085217 : True := trivial
theorem headA.tw2519212259356989514 : True := trivial
theorem headA.tw15013019646165286335 : True := trivial
theorem headA.tw11819011278652689529 : True := trivial
theorem headA.tw10782500161141156006 : True := trivial
theorem headA.tw11766030167418153837 : True := trivial
theorem headA.tw7404363895998452419 : True := trivial
theorem headA.tw4970390229929407441 : True := trivial
theorem headA.tw18385694248552770616 : True := trivial
theorem headA.tw14402718369294386089 : True := trivial
theorem headA.tw17144550130171354261 : True := trivial
theorem headA.tw2256968447571751867 : True := trivial
theorem headA.tw18290497990760259689 : True := trivial
theorem headA.tw632981059893803666 : True := trivial
theorem headA.tw4145099934611703624 : True := trivial
theorem headA.tw13983797872296373320 : True := trivial
theorem headA.tw615037959577144213 : True := trivial
theorem headA.tw4224214878821481034 : True := trivial
theorem headA.tw3857611949340644420 : True := trivial
theorem headA.tw8782635876736518386 : True := trivial
theorem headA.tw10462321141665795364 : True := trivial
theorem headA.tw6814242082984234103 : True := trivial
theorem headA.tw4626037877839840618 : True := trivial
theorem headA.tw2794619037423134579 : True := trivial
theorem headA.tw8900002545665987732 : True := trivial
theorem headA.tw5666365915947534749 : True := trivial
theorem headA.tw5059170305405914972 : True := trivial
theorem headA.tw3143689947571994089 : True := trivial
theorem headA.tw11705089439596694431 : True := trivial
theorem headA.tw6173820619152307543 : True := trivial
theorem headA.tw8767193841419466280 : True := trivial
theorem headA.tw5028696094976058201 : True := trivial
theorem headA.tw8346312910585096899 : True := trivial
theorem headA.tw13349277611308254541 : True := trivial
theorem headA.tw6096098976557115819 : True := trivial
theorem headA.tw9799224872065297421 : True := trivial
theorem headA.tw16632363038351448164 : True := trivial
theorem headA.tw12138872087779241998 : True := trivial
theorem headA.tw18122867085103590167 : True := trivial
theorem headA.tw12551588093325040056 : True := trivial
theorem headA.tw11146661942844061443 : True := trivial
theorem headA.tw13229730258179046360 : True := trivial
theorem headA.tw4083117858333780309 : True := trivial
theorem headA.tw14879083473153616439 : True := trivial
theorem headA.tw13099653103899794496 : True := trivial
theorem headA.tw16955076205122274600 : True := trivial
theorem headA.tw14603091351348435645 : True := trivial
theorem headA.tw18422869194615778910 : True := trivial
theorem headA.tw1593733788715520618 : True := trivial
theorem headA.tw16335518002801042767 : True := trivial
theorem headA.tw3302758724562419837 : True := trivial
theorem headA.tw5585015423234027328 : True := trivial
theorem headA.tw9979622052226661821 : True := trivial
theorem headA.tw3837567596315283143 : True := trivial
theorem headA.tw14161092550287960520 : True := trivial
theorem headA.tw2078402943104489305 : True := trivial
theorem headA.tw11551614812303428791 : True := trivial
theorem headA.tw10635591049661725164 : True := trivial
theorem headA.tw7884763483439377448 : True := trivial
theorem headA.tw16084982443777801939 : True := trivial
theorem headA.tw11643520641926838959 : True := trivial
theorem headA.tw11867127181099118017 : True := trivial
theorem headA.tw7435420802236182690 : True := trivial
theorem headA.tw4596876661330875268 : True := trivial
theorem headA.tw14188906620251208253 : True := trivial
theorem headA.tw7164444360451145835 : True := trivial
theorem headA.tw6489677017160536186 : True := trivial
theorem headA.tw9509555296476727067 : True := trivial
theorem headA.tw10004898581761846200 : True := trivial
theorem headA.tw8245836100901707642 : True := trivial
theorem headA.tw2182816238199236809 : True := trivial
theorem headA.tw6437552407451363886 : True := trivial
theorem headA.tw8984292028988033208 : True := trivial
theorem headA.tw9599346545109706485 : True := trivial
theorem headA.tw6538217140485527847 : True := trivial
theorem headA.tw2891798585652472530 : True := trivial
theorem headA.tw12641597105394944875 : True := trivial
theorem headA.tw14258884132201803431 : True := trivial
theorem headA.tw8987329006700249411 : True := trivial
theorem headA.tw14508594230913062193 : True := trivial
theorem headA.tw1471928007898498640 : True := trivial
theorem headA.tw15417282198694508375 : True := trivial
theorem headA.tw12799148806630190846 : True := trivial
theorem headA.tw8729919797190382003 : True := trivial
theorem headA.tw5719235039705544727 : True := trivial
theorem headA.tw16293149512070513904 : True := trivial
theorem headA.tw14898771726982084422 : True := trivial
theorem headA.tw5941492127587039648 : True := trivial
theorem headA.tw10331217016266373625 : True := trivial
theorem headA.tw1593152822544639685 : True := trivial
theorem headA.tw11520808059577634350 : True := trivial
theorem headA.tw7922839206345589339 : True := trivial
theorem headA.tw4318997473715832448 : True := trivial
theorem headA.tw3371498622726081179 : True := trivial
theorem headA.tw9383884751926035442 : True := trivial
theorem headA.tw9562365361536829233 : True := trivial
theorem headA.tw14482718659236792039 : True := trivial
theorem headA.tw10630428369640887710 : True := trivial
theorem headA.tw14513866064934261435 : True := trivial
theorem headA.tw12384984614031831544 : True := trivial
theorem headA.tw14258732452549079337 : True := trivial
theorem headA.tw15043432906090619145 : True := trivial
theorem headA.tw17130101199432744244 : True := trivial
theorem headA.tw15925875122146843989 : True := trivial
theorem headA.tw12034423729239377750 : True := trivial
theorem headA.tw2550354171429674742 : True := trivial
theorem headA.tw15227587148402367823 : True := trivial
theorem headA.tw8389322532921200927 : True := trivial
theorem headA.tw2213715026934437777 : True := trivial
theorem headA.tw7931353050447028004 : True := trivial
theorem headA.tw16513922536660180608 : True := trivial
theorem headA.tw2823576498960536981 : True := trivial
theorem headA.tw17701226801410273857 : True := trivial
theorem headA.tw12191611582274743901 : True := trivial
theorem headA.tw7818888434737049553 : True := trivial
theorem headA.tw802550704186697778 : True := trivial
theorem headA.tw9838277533665814991 : True := trivial
theorem headA.tw15565034210840970902 : True := trivial
theorem headA.tw3173347951634163990 : True := trivial
theorem headA.tw9280301371533477679 : True := trivial
theorem headA.tw4240355132860546804 : True := trivial
theorem headA.tw12018563617151728681 : True := trivial
theorem headA.tw16568559266576321320 : True := trivial
theorem headA.tw15746605603265298697 : True := trivial
theorem headA.tw16189432132453732140 : True := trivial
theorem headA.tw13245948316072202204 : True := trivial
theorem headA.tw3273876469404128531 : True := trivial
theorem headA.tw11385324077873741788 : True := trivial
theorem headA.tw16490655279544989773 : True := trivial
theorem headA.tw18377236972129265973 : True := trivial
theorem headA.tw4838260063005320246 : True := trivial
theorem headA.tw16316410978146149143 : True := trivial
theorem headA.tw4261340271760336192 : True := trivial
theorem headA.tw13538018710446894646 : True := trivial
theorem headA.tw11989953472214075857 : True := trivial
theorem headA.tw2758038264950761437 : True := trivial
theorem headA.tw14658422149384607236 : True := trivial
theorem headA.tw1642896296980476179 : True := trivial
theorem headA.tw3037417457063102976 : True := trivial
theorem headA.tw8956414276914380815 : True := trivial
theorem headA.tw3411409876070668821 : True := trivial
theorem headA.tw12850454283136600495 : True := trivial
theorem headA.tw7314114531516736667 : True := trivial
theorem headA.tw17175633874792707691 : True := trivial
theorem headA.tw12336227208788096164 : True := trivial
theorem headA.tw10640733883326445462 : True := trivial
theorem headA.tw10303529450748334929 : True := trivial
theorem headA.tw18245265309894043402 : True := trivial
theorem headA.tw5036535457680091194 : True := trivial
theorem headA.tw2259949359157530767 : True := trivial
theorem headA.tw6562291737245732505 : True := trivial
theorem headA.tw10193289044542913299 : True := trivial
theorem headA.tw2433721021246721822 : True := trivial
theorem headA.tw4900702119311343285 : True := trivial
theorem headA.tw5002540582952686482 : True := trivial
theorem headA.tw12659840823143928573 : True := trivial
theorem headA.tw12256499158860891098 : True := trivial
theorem headA.tw14608281879088019130 : True := trivial
theorem headA.tw1316624961683612071 : True := trivial
theorem headA.tw9651215365862775112 : True := trivial
theorem headA.tw10468412412869773815 : True := trivial
theorem headA.tw10023159928336069109 : True := trivial
theorem headA.tw14341436738808296110 : True := trivial
theorem headA.tw6350040968772299216 : True := trivial
theorem headA.tw13950392999791868787 : True := trivial
theorem headA.tw3815930492947341991 : True := trivial
theorem headA.tw4222102760866710232 : True := trivial
theorem headA.tw6475625474833309233 : True := trivial
theorem headA.tw1058443903753437210 : True := trivial
theorem headA.tw7300127197508806189 : True := trivial
theorem headA.tw7605517678174712633 : True := trivial
theorem headA.tw9843282941191528821 : True := trivial
theorem headA.tw5698927738170332366 : True := trivial
theorem headA.tw16066823036314971206 : True := trivial
theorem headA.tw16882859931652799872 : True := trivial
theorem headA.tw10641306931703220247 : True := trivial
theorem headA.tw12763599920473436401 : True := trivial
theorem headA.tw4659245957028140723 : True := trivial
theorem headA.tw17391651016080954847 : True := trivial
theorem headA.tw6766496192180016598 : True := trivial
theorem headA.tw3245241560348376547 : True := trivial
theorem headA.tw1342085014030894524 : True := trivial
theorem headA.tw5531740454800709865 : True := trivial
theorem headA.tw8015921762588550193 : True := trivial
theorem headA.tw4041656549456519298 : True := trivial
theorem headA.tw7650698210103819416 : True := trivial
theorem headA.tw2856233024082908827 : True := trivial
theorem headA.tw6130974090207735488 : True := trivial
theorem headA.tw14946644293428614530 : True := trivial
theorem headA.tw11095589181878186922 : True := trivial
theorem headA.tw12584009328694695106 : True := trivial
theorem headA.tw8251324021295602473 : True := trivial
theorem headA.tw18443303933826648373 : True := trivial
theorem headA.tw234796133642080285 : True := trivial
theorem headA.tw13424890653839359874 : True := trivial
theorem headA.tw6624377121311302241 : True := trivial
theorem headA.tw13744222528674033900 : True := trivial
theorem headA.tw13018049563464148985 : True := trivial
theorem headA.tw5394129747604391484 : True := trivial
theorem headA.tw15278367875502368950 : True := trivial
theorem headA.tw6426237737537617307 : True := trivial
theorem headA.tw5360529260378433472 : True := trivial
theorem headA.tw12299465637495468753 : True := trivial
theorem headA.tw17001690419336585312 : True := trivial
theorem headA.tw2810315108835683121 : True := trivial
theorem headA.tw5939393590789568876 : True := trivial
theorem headA.tw4989607124177958400 : True := trivial
theorem headA.tw11981375196656721323 : True := trivial
theorem headA.tw611461723739712274 : True := trivial
theorem headA.tw621694251611547200 : True := trivial
theorem headA.tw1289110768644124670 : True := trivial
theorem headA.tw3839890949323755083 : True := trivial
theorem headA.tw11480015159202433736 : True := trivial
theorem headA.tw16792160240199772093 : True := trivial
theorem headA.tw3437760937467437010 : True := trivial
theorem headA.tw13821623130365150317 : True := trivial
theorem headA.tw4832094338853765146 : True := trivial
theorem headA.tw9261367582473037660 : True := trivial
theorem headA.tw4517870241611139272 : True := trivial
theorem headA.tw169353386699634887 : True := trivial
theorem headA.tw13675116874839446711 : True := trivial
theorem headA.tw17014981866989735019 : True := trivial
theorem headA.tw15224733934077808031 : True := trivial
theorem headA.tw217892672603482820 : True := trivial
theorem headA.tw17203614825131842492 : True := trivial
theorem headA.tw954311838313591609 : True := trivial
theorem headA.tw1514550935640849009 : True := trivial
theorem headA.tw2358307703397173944 : True := trivial
theorem headA.tw13523988291021579554 : True := trivial
theorem headA.tw7473105373356592195 : True := trivial
theorem headA.tw11844652463334464204 : True := trivial
theorem headA.tw3623967097744944925 : True := trivial
theorem headA.tw6613821890356000533 : True := trivial
theorem headA.tw16785679765532924972 : True := trivial
theorem headA.tw3163365293699501419 : True := trivial
theorem headA.tw1330858163800323808 : True := trivial
theorem headA.tw5374880356181199854 : True := trivial
theorem headA.tw3384565141772488448 : True := trivial
theorem headA.tw8606260867250421914 : True := trivial
theorem headA.tw813433657832202802 : True := trivial
theorem headA.tw6814443869141633549 : True := trivial
theorem headA.tw13041644038846065974 : True := trivial
theorem headA.tw3794302138888473609 : True := trivial
theorem headA.tw9375488694219287092 : True := trivial
theorem headA.tw16814745198813658273 : True := trivial
theorem headA.tw16612270604368358964 : True := trivial
theorem headA.tw9722902064070748878 : True := trivial
theorem headA.tw6276361502697808121 : True := trivial
theorem headA.tw8392610982090905639 : True := trivial
theorem headA.tw16874500155966087621 : True := trivial
theorem headA.tw14867547712144435334 : True := trivial
theorem headA.tw12496899543451243838 : True := trivial
theorem headA.tw2782841060351873362 : True := trivial
theorem headA.tw15935327999728491138 : True := trivial
theorem headA.tw17286846937433686028 : True := trivial
theorem headA.tw12491474441318288553 : True := trivial
theorem headA.tw6588285462203503483 : True := trivial
theorem headA.tw16061859410751417250 : True := trivial
theorem headA.tw11457594246243143551 : True := trivial
theorem headA.tw1372241551489241163 : True := trivial
theorem headA.tw15361657791605348885 : True := trivial
theorem headA.tw4667464876108102578 : True := trivial
theorem headA.tw8583385942076110112 : True := trivial
theorem headA.tw1760395332152036503 : True := trivial
theorem headA.tw10970478863156564883 : True := trivial
theorem headA.tw2718033880748768816 : True := trivial
theorem headA.tw16314859268868810478 : True := trivial
theorem headA.tw1826097577311982924 : True := trivial
theorem headA.tw15933038991703417857 : True := trivial
theorem headA.tw428989645947155227 : True := trivial
theorem headA.tw2305588070204417037 : True := trivial
theorem headA.tw14222071900399235381 : True := trivial
theorem headA.tw4724872417289936652 : True := trivial
theorem headA.tw5098179587768335579 : True := trivial
theorem headA.tw4620136663187549156 : True := trivial
theorem headA.tw8644267472841468293 : True := trivial
theorem headA.tw8849758429403913328 : True := trivial
theorem headA.tw17055062687687434789 : True := trivial
theorem headA.tw4942195448887074491 : True := trivial
theorem headA.tw4918905511149293000 : True := trivial
theorem headA.tw16241467911825007261 : True := trivial
theorem headA.tw17041822801823424258 : True := trivial
theorem headA.tw3382018487463775727 : True := trivial
theorem headA.tw14635221828181544040 : True := trivial
theorem headA.tw7625032648390104347 : True := trivial
theorem headA.tw18108290027929247506 : True := trivial

def stAt (i : Nat) : Stmt := (PySem.Challenge.pw_pq0678_01.main.body[i]?).getD (Stmt.Pass default)
def V : Program := { PySem.Challenge.pw_pq0678_01 with main := { PySem.Challenge.pw_pq0678_01.main with body := [stAt 0, stAt 2, stAt 3, stAt 4, stAt 5, stAt 6, stAt 7, stAt 8, stAt 9, stAt 10, stAt 11, stAt 12, stAt 13, stAt 15, stAt 16, stAt 17, stAt 18, stAt 20, stAt 21, stAt 22, stAt 23, stAt 24, stAt 25, stAt 26, stAt 27, stAt 28, stAt 29, stAt 30, stAt 32, stAt 33, stAt 35, stAt 36, stAt 37, stAt 38, stAt 39, stAt 40] } }
abbrev LV : List (Str × WData) := [(Str.ofString "NEVER", WData.int 1000000000000000000)]
abbrev LO : List Str := [Str.ofString "NEVER", Str.ofString "HeapObject"]
theorem as_k (P : Params) : ([2, 3, 15, 17, 18, 20, 21, 22, 24, 25, 27, 28, 36, 38, 39, 41, 42, 43, 45, 46, 48, 49, 50, 52, 53, 55, 56, 57, 59, 60, 62, 63, 64, 66, 67, 69, 70, 71, 73, 74, 76, 77, 78, 80, 81, 83, 84, 85, 87, 88, 90, 91, 92, 94, 95, 97, 98, 99, 101, 102, 104, 105, 106, 108, 109, 111, 112, 113, 115, 116, 118, 119, 120, 122, 123, 125, 126, 127, 129, 130, 132, 133, 134, 135, 136, 137, 138, 141, 143, 144, 146, 147, 148, 150, 151, 153, 154, 155, 157, 158, 160, 161, 162, 164, 165, 167, 168, 176, 178, 179, 181, 182, 183, 185, 186, 188, 189, 190, 192, 193, 195, 196, 197, 199, 200, 202, 203, 204, 206, 207, 209, 210, 211, 213, 214, 216, 217, 218, 220, 221, 223, 224, 225, 227, 228, 230, 231, 232, 234, 235, 237, 238, 239, 241, 242, 244, 245, 246, 248, 249, 251, 252, 253, 255, 256, 258, 259, 260, 262, 263, 265, 266, 267, 269, 270, 272, 273, 274, 276, 277, 279, 280, 281, 283, 284, 286, 287, 288, 290, 291, 293, 294, 295, 297, 298, 300, 301, 302, 304, 305, 307, 308, 309, 311, 312, 314, 315, 316, 318, 319, 321, 322, 323, 325, 326, 328, 329, 330, 332, 333, 335, 336, 337, 339, 340, 342, 343, 344, 345, 346, 347, 348, 358, 360, 361, 363, 364, 365, 366, 367, 368, 369, 372, 374, 375, 377, 378, 379, 381, 382, 384, 385, 386, 388, 389, 391, 392, 393, 396, 397, 398, 401, 402, 403, 405, 406, 408, 409] : List Addr) = (Mine.k0.heap_1 P).map (·.1) := by kernel_rfl
theorem fr_named {h₀ h : Heap} {L : Addr} {m : Str → Option Value} {x : Str} {v : Value} (F : Fr h₀ L h m) (e : m x = some v) : Fr h₀ L h (fun z => if z = x then some v else m z) := by
  have := upd_self m x
  rw [e] at this
  rw [← this]; exact F
section
local macro_rules | `(tactic| k_lt $h) => `(tactic| (replace $h := allLt_of $h; dsimp only [AllLt] at $h:ident))
theorem walkT {d : DefRec} {kwd : List (Str × Expr)} (hdef : defOf V PySem.Challenge.rw_pq0678_01.row.name = some (d, kwd)) : WalkO V LO (XL V LV) (Hook.says (kmHook Mine.k0.heap_1 [2, 3, 15, 17, 18, 20, 21, 22, 24, 25, 27, 28, 36, 38, 39, 41, 42, 43, 45, 46, 48, 49, 50, 52, 53, 55, 56, 57, 59, 60, 62, 63, 64, 66, 67, 69, 70, 71, 73, 74, 76, 77, 78, 80, 81, 83, 84, 85, 87, 88, 90, 91, 92, 94, 95, 97, 98, 99, 101, 102, 104, 105, 106, 108, 109, 111, 112, 113, 115, 116, 118, 119, 120, 122, 123, 125, 126, 127, 129, 130, 132, 133, 134, 135, 136, 137, 138, 141, 143, 144, 146, 147, 148, 150, 151, 153, 154, 155, 157, 158, 160, 161, 162, 164, 165, 167, 168, 176, 178, 179, 181, 182, 183, 185, 186, 188, 189, 190, 192, 193, 195, 196, 197, 199, 200, 202, 203, 204, 206, 207, 209, 210, 211, 213, 214, 216, 217, 218, 220, 221, 223, 224, 225, 227, 228, 230, 231, 232, 234, 235, 237, 238, 239, 241, 242, 244, 245, 246, 248, 249, 251, 252, 253, 255, 256, 258, 259, 260, 262, 263, 265, 266, 267, 269, 270, 272, 273, 274, 276, 277, 279, 280, 281, 283, 284, 286, 287, 288, 290, 291, 293, 294, 295, 297, 298, 300, 301, 302, 304, 305, 307, 308, 309, 311, 312, 314, 315, 316, 318, 319, 321, 322, 323, 325, 326, 328, 329, 330, 332, 333, 335, 336, 337, 339, 340, 342, 343, 344, 345, 346, 347, 348, 358, 360, 361, 363, 364, 365, 366, 367, 368, 369, 372, 374, 375, 377, 378, 379, 381, 382, 384, 385, 386, 388, 389, 391, 392, 393, 396, 397, 398, 401, 402, 403, 405, 406, 408, 409] as_k [404])) PySem.Challenge.rw_pq0678_01.row.toRowW d kwd fun f vs => PySem.call f vs := by
  cases hdef
  w_on
  k_go0
  all_goals try k_fold
  (repeat' ((fail_if_success (with_reducible show wpAny _ _ (exec (Stmt.While _ _ _ _) _) _ _ _)); (fail_if_success (with_reducible show wpAny _ _ (exec (Stmt.For _ _ _ _ _) _) _ _ _)); (fail_if_success (with_reducible show wpAny _ _ (pyIter (Value.ref _)) _ _ _)); (fail_if_success (with_reducible show wpAny _ _ (execs (Stmt.Expr _ _ :: _) _) _ _ _)); (fail_if_success (with_reducible show wpAny _ _ (eval (Expr.ListComp _ _ _ _) _) _ _ _)); (first | (k_unfold; (try dsimp only)) | (k_end; wrow_close) | walk1 | (dsimp only; walk1) | (leave1; walk_say "STEP leave1"; try dsimp only) | fail "no step")))
  rename News _ _ _ _ => N0
  have R0 := world_start N0 ⟨fun j => [_, _, _, _, _, _, _].getD j 0, rfl⟩ (by assumption) ⟨fun j => [_, _, _, _, _, _, _, _, _, _, _, _, _, _, _, _, _, _, _, _, _, _, _, _].getD j 0, rfl⟩ ⟨_, _, rfl⟩ ⟨_, _, by assumption, by assumption⟩ ⟨_, _, rfl⟩ ⟨_, _, by assumption, by assumption⟩ (by assumption) (by assumption) (by assumption) (by assumption) (by assumption) (by assumption) (by first | assumption | exact And.left (by assumption)) (by first | assumption | exact And.left (by assumption)) (by first | assumption | exact And.left (by assumption)) (by first | assumption | exact And.left (by assumption)) (by first | assumption | exact And.left (by assumption)) (by first | assumption | exact And.left (by assumption)) (by first | assumption | exact And.left (by assumption)) (by first | assumption | exact And.left (by assumption)) (by first | assumption | exact And.left (by assumption)) (by first | assumption | exact And.left (by assumption)) (by first | assumption | exact And.left (by assumption)) (by first | assumption | exact And.left (by assumption)) (by first | assumption | exact And.left (by assumption)) (by first | assumption | exact And.left (by assumption)) (by first | assumption | exact And.left (by assumption)) (by first | assumption | exact And.left (by assumption)) (by first | assumption | exact And.left (by assumption)) (by first | assumption | exact And.left (by assumption)) (Nat.lt_succ_of_lt (by first | assumption | exact And.left (by assumption)))
  have R1 := R0.1
  have P1 := R0.2
  rename Fr _ _ _ _ => F0
  have F1 := fr_named (x := Str.ofString "script") F0 rfl
  refine law_rest (by assumption) F1 (by assumption) N0 (by assumption) (by assumption) (by assumption) (by omega) R1 rfl rfl rfl (by decide) (by decide) (by passes_own) P1 ?_
  intro mm2 h2 l2 tk2 F2 N2 P2
  refine ⟨?_, GrownAt.of N2 P2, True.intro⟩
  kc_close
end
set_option maxHeartbeats 0 in
set_option Elab.async true in
theorem headA (ok : PySem.Challenge.rw_pq0678_01.row.wellSaid = true) : PySem.Challenge.rw_pq0678_01.row.Holds := by
  o_head (kmHook Mine.k0.heap_1 [2, 3, 15, 17, 18, 20, 21, 22, 24, 25, 27, 28, 36, 38, 39, 41, 42, 43, 45, 46, 48, 49, 50, 52, 53, 55, 56, 57, 59, 60, 62, 63, 64, 66, 67, 69, 70, 71, 73, 74, 76, 77, 78, 80, 81, 83, 84, 85, 87, 88, 90, 91, 92, 94, 95, 97, 98, 99, 101, 102, 104, 105, 106, 108, 109, 111, 112, 113, 115, 116, 118, 119, 120, 122, 123, 125, 126, 127, 129, 130, 132, 133, 134, 135, 136, 137, 138, 141, 143, 144, 146, 147, 148, 150, 151, 153, 154, 155, 157, 158, 160, 161, 162, 164, 165, 167, 168, 176, 178, 179, 181, 182, 183, 185, 186, 188, 189, 190, 192, 193, 195, 196, 197, 199, 200, 202, 203, 204, 206, 207, 209, 210, 211, 213, 214, 216, 217, 218, 220, 221, 223, 224, 225, 227, 228, 230, 231, 232, 234, 235, 237, 238, 239, 241, 242, 244, 245, 246, 248, 249, 251, 252, 253, 255, 256, 258, 259, 260, 262, 263, 265, 266, 267, 269, 270, 272, 273, 274, 276, 277, 279, 280, 281, 283, 284, 286, 287, 288, 290, 291, 293, 294, 295, 297, 298, 300, 301, 302, 304, 305, 307, 308, 309, 311, 312, 314, 315, 316, 318, 319, 321, 322, 323, 325, 326, 328, 329, 330, 332, 333, 335, 336, 337, 339, 340, 342, 343, 344, 345, 346, 347, 348, 358, 360, 361, 363, 364, 365, 366, 367, 368, 369, 372, 374, 375, 377, 378, 379, 381, 382, 384, 385, 386, 388, 389, 391, 392, 393, 396, 397, 398, 401, 402, 403, 405, 406, 408, 409] as_k [404])
  (case hw => w_witness2)
  (case hc => exact walkT (by rfl))
end Mine
namespace Mine
theorem lawA.tw2853188177121194109 : True := trivial
set_option Elab.async true in
theorem lawA : PySem.Challenge.rw_pq0678_01.Holds := by
  w_on
  o_law
  exact headA (by assumption)
end Mine
theorem PySem.Challenge.cw_pq0678_01_holds : PySem.Challenge.rw_pq0678_01.Holds :=
  Mine.lawA
