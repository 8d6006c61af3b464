import PyProof.Rows.All
import Wide.All
import OpenK.AllK
import Wide.FinOn
import Lean
import PySem.Challenge.RW_no0058_01
open PySem PySem.W PyProof.Rows
set_option Elab.async false
set_option maxRecDepth 100000
set_option maxHeartbeats 8000000
set_option linter.unusedVariables false
namespace Mine
open_top lawTop for PySem.Challenge.rw_no0058_01

-- B1
/-- the program and the written part -/
abbrev TopF (mean : ExcName → Option Value) (mg mb : Str → Option Value) (h : Heap) : Prop := Top lawTop.view_39 (looseW lawTop.view_39 []) mean mg mb h
abbrev Led := List (Addr × Obj)

/-- a call of the def at f with these arguments, from a ledger that satisfies Pre, ends in a value and a ledger of Post -/
def Ct (w : World) (mean : ExcName → Option Value) (mg mb : Str → Option Value) (deep : Nat) (f : Addr) (vs : List Value) (news : Led) (Post : Value → Led → Prop) : Prop :=
  ∀ (dp un : Nat) (gd : Option (List Code)) (cn : Str) (cs : Scope) (a : Addr) (ccd : Value) (cl : List (Str × Addr)) (outer : List Env) (A₀ : Around) (base h₀ : Heap) (L : Addr) (m : Str → Option Value) (s : Shared) (Q E : Value → Shared → Prop),
    Below A₀ base outer h₀ → Fr h₀ L s.heap m → (lawTop.heap_39 w.params).In h₀ → News h₀ L s.heap news → TopF mean mg mb h₀ → cs.kind = .function → dp + deep < recursionLimit → un + 8 * deep < cLine →
    (∀ v news' h' tk', Post v news' → Fr h₀ L h' m → News h₀ L h' news' → Q v { s with heap := h', toks := tk' }) →
    wpAny (model PySem.Challenge.rw_no0058_01.row.prog w) (ktrTop dp un gd cn cs L a ccd cl outer) (call (.ref f) vs) Q E s

/-- a statement, from any count of drawn tokens -/
theorem execs_tk {M : Model} {A : Around} {env : Env} {st : Stmt} {rest : List Stmt} {Q : Flow → Shared → Prop} {E : Value → Shared → Prop} {h g d t o}
    (k : ∀ tk, wpAny M A (exec st env) (fun f s' => match f with | .next => wpAny M A (execs rest env) Q E s' | f => Q f s') E ⟨h, g, d, tk, o⟩) : wpAny M A (execs (st :: rest) env) Q E ⟨h, g, d, t, o⟩ := wpAny_execs_cons (k t)

-- B2
def ov : Option Int → Tok → Value
  | none, _ => .none
  | some i, t => .int i t
def od : Option Int → PyData
  | none => .none
  | some i => .int i

theorem ov_n (t : Tok) : ov none t = .none := rfl
theorem ov_s (i : Int) (t : Tok) : ov (some i) t = .int i t := rfl
theorem od_n : od none = .none := rfl
theorem od_s (i : Int) : od (some i) = .int i := rfl

structure Rm where
  d : Int
  win : Int
  th : Option Int
  rc : Option Int
  fl : Int
  cr : Int

structure Wm where
  d : Int
  rc : Option Int
  th : Option Int
  win : Int
  base : Int
  top : Int
  bot : Int
  gr : Bool

def RenoIs (w : World) (o : Obj) (x : Rm) : Prop :=
  ∃ k1 k2 k3 k4 k5 k6 t1 t2 t3 t4 t5 t6 : Tok, o = dictOf [
    { hash := PyData.keyHash w.params (Str.ofString "datagram"), key := .str (Str.ofString "datagram") k1, val := .int x.d t1 },
    { hash := PyData.keyHash w.params (Str.ofString "window"), key := .str (Str.ofString "window") k2, val := .int x.win t2 },
    { hash := PyData.keyHash w.params (Str.ofString "threshold"), key := .str (Str.ofString "threshold") k3, val := ov x.th t3 },
    { hash := PyData.keyHash w.params (Str.ofString "recovery_at"), key := .str (Str.ofString "recovery_at") k4, val := ov x.rc t4 },
    { hash := PyData.keyHash w.params (Str.ofString "in_flight"), key := .str (Str.ofString "in_flight") k5, val := .int x.fl t5 },
    { hash := PyData.keyHash w.params (Str.ofString "credit"), key := .str (Str.ofString "credit") k6, val := .int x.cr t6 }] 6

def Wm.D (x : Wm) : List (PyData × PyData) := [
  (.str (Str.ofString "datagram"), .int x.d), (.str (Str.ofString "recovery"), od x.rc), (.str (Str.ofString "threshold"), od x.th), (.str (Str.ofString "window"), .int x.win),
  (.str (Str.ofString "base"), .int x.base), (.str (Str.ofString "top"), .int x.top), (.str (Str.ofString "bottom"), .int x.bot), (.str (Str.ofString "growing"), .bool x.gr)]

def WorldIs (w : World) (o : Obj) (x : Wm) : Prop :=
  ∃ kvs, o.IsDictOf (strKind PySem.Challenge.rw_no0058_01.row.prog w) kvs ∧ PyProof.V.FlatPairs PyData.str kvs x.D

/-- the half of the window, never below two datagrams -/
def half (win d : Int) : Int := if 2 * d > win.fdiv 2 then 2 * d else win.fdiv 2

def wNew (x : Wm) (now : Int) : Wm := { x with rc := some now, th := some (half x.win x.d), win := half x.win x.d, base := half x.win x.d, top := 0, bot := 1, gr := false }
def wCong (x : Wm) (sent now : Int) : Wm := match x.rc with
  | some r => if sent ≤ r then x else wNew x now
  | none => wNew x now
def rNew (x : Rm) (now : Int) : Rm := { x with rc := some now, cr := 0, th := some (half (x.win * 1) x.d), win := half (x.win * 1) x.d }
def rCong (x : Rm) (sent now : Int) : Rm := match x.rc with
  | some r => if sent ≤ r then x else rNew x now
  | none => rNew x now

/-- sent ahead of the last congestion's end -/
def inRec : Option Int → Int → Bool
  | none, _ => false
  | some r, sent => decide (sent ≤ r)
/-- the window still grows by all -/
def slow : Option Int → Int → Bool
  | none, _ => true
  | some t, win => decide (win < t)
def rWide (x : Rm) (size : Int) : Rm := { x with cr := (x.cr + x.d * size) - (x.cr + x.d * size).fdiv x.win * x.win, win := x.win + (x.cr + x.d * size).fdiv x.win }
def rAck (x : Rm) (size sent : Int) (lim : Bool) : Rm :=
  if inRec x.rc sent || !lim then { x with fl := x.fl - size }
  else if slow x.th x.win then { x with fl := x.fl - size, win := x.win + size }
  else rWide { x with fl := x.fl - size } size
def wAck (x : Wm) (win' size sent : Int) (lim : Bool) : Wm :=
  if inRec x.rc sent || !lim then x
  else if slow x.th x.win then { x with win := x.win + size, base := x.win + size, top := 0, bot := 1, gr := false }
  else { x with top := x.top * x.win + x.d * size * x.bot, bot := x.bot * x.win, win := win', gr := true }

theorem rAck_rec {x : Rm} {size sent : Int} {lim : Bool} (h : (inRec x.rc sent || !lim) = true) : rAck x size sent lim = { x with fl := x.fl - size } := by unfold rAck; rw [h]; rfl
theorem rAck_slow {x : Rm} {size sent : Int} {lim : Bool} (h : (inRec x.rc sent || !lim) = false) (h2 : slow x.th x.win = true) : rAck x size sent lim = { x with fl := x.fl - size, win := x.win + size } := by unfold rAck; rw [h, h2]; rfl
theorem rAck_wide {x : Rm} {size sent : Int} {lim : Bool} (h : (inRec x.rc sent || !lim) = false) (h2 : slow x.th x.win = false) : rAck x size sent lim = rWide { x with fl := x.fl - size } size := by unfold rAck; rw [h, h2]; rfl
theorem wAck_rec {x : Wm} {win' size sent : Int} {lim : Bool} (h : (inRec x.rc sent || !lim) = true) : wAck x win' size sent lim = x := by unfold wAck; rw [h]; rfl
theorem wAck_slow {x : Wm} {win' size sent : Int} {lim : Bool} (h : (inRec x.rc sent || !lim) = false) (h2 : slow x.th x.win = true) : wAck x win' size sent lim = { x with win := x.win + size, base := x.win + size, top := 0, bot := 1, gr := false } := by unfold wAck; rw [h, h2]; rfl
theorem wAck_wide {x : Wm} {win' size sent : Int} {lim : Bool} (h : (inRec x.rc sent || !lim) = false) (h2 : slow x.th x.win = false) : wAck x win' size sent lim = { x with top := x.top * x.win + x.d * size * x.bot, bot := x.bot * x.win, win := win', gr := true } := by unfold wAck; rw [h, h2]; rfl

def tupOf (a b : Value) (n : Nat) : Obj := { cls := .type "tuple", data := .seq #[a, b] n }

theorem drop1 {h₀ h : Heap} {L : Addr} {q : Addr × Obj} {l : Led} (N : News h₀ L h (q :: l)) : News h₀ L h l := fun p hp => N p (.tail _ hp)
theorem flat_of {kvs : List (Str × Value)} {D D' : List (PyData × PyData)} (h : PyProof.V.FlatPairs PyData.str kvs D) (e : D = D') : PyProof.V.FlatPairs PyData.str kvs D' := e ▸ h

/-- what stands around a call, as a contract wants it -/
structure Here (w : World) (mean : ExcName → Option Value) (mg mb : Str → Option Value) (deep : Nat) (A : Around) (h₀ : Heap) (L : Addr) : Prop where
  here : ∃ (dp un : Nat) (gd : Option (List Code)) (cn : Str) (cs : Scope) (a : Addr) (ccd : Value) (cl : List (Str × Addr)) (outer : List Env) (A₀ : Around) (base : Heap), A = ktrTop dp un gd cn cs L a ccd cl outer ∧ Below A₀ base outer h₀ ∧ (lawTop.heap_39 w.params).In h₀ ∧ TopF mean mg mb h₀ ∧ cs.kind = .function ∧ dp + deep < recursionLimit ∧ un + 8 * deep < cLine
theorem Here.of {w : World} {mean : ExcName → Option Value} {mg mb : Str → Option Value} {deep : Nat} {dp un : Nat} {gd : Option (List Code)} {cn : Str} {cs : Scope} {a : Addr} {ccd : Value} {cl : List (Str × Addr)} {outer : List Env} {A₀ : Around} {base h₀ : Heap} {L : Addr}
    (B : Below A₀ base outer h₀) (X : (lawTop.heap_39 w.params).In h₀) (T : TopF mean mg mb h₀) (hk : cs.kind = .function) (hd : dp + deep < recursionLimit) (hu : un + 8 * deep < cLine) : Here w mean mg mb deep (ktrTop dp un gd cn cs L a ccd cl outer) h₀ L :=
  ⟨_, _, _, _, _, _, _, _, _, _, _, rfl, B, X, T, hk, hd, hu⟩
theorem Ct.run {w : World} {mean : ExcName → Option Value} {mg mb : Str → Option Value} {deep : Nat} {f : Addr} {vs : List Value} {news : Led} {Post : Value → Led → Prop} {A : Around} {h₀ : Heap} {L : Addr} {m : Str → Option Value} {s : Shared} {Q E : Value → Shared → Prop}
    (H : Here w mean mg mb deep A h₀ L) (F : Fr h₀ L s.heap m) (N : News h₀ L s.heap news) (C : Ct w mean mg mb deep f vs news Post)
    (ret : ∀ v news' h' tk', Post v news' → Fr h₀ L h' m → News h₀ L h' news' → Q v { s with heap := h', toks := tk' }) :
    wpAny (model PySem.Challenge.rw_no0058_01.row.prog w) A (call (.ref f) vs) Q E s := by
  obtain ⟨_, _, _, _, _, _, _, _, _, _, _, rfl, B, X, T, hk, hd, hu⟩ := H.here
  exact C _ _ _ _ _ _ _ _ _ _ _ _ _ _ _ _ _ B F X N T hk hd hu ret

-- B3
noncomputable section
/-- the law's own parts, read off the given text -/
def lawBody : List Stmt := match PySem.Challenge.rw_no0058_01.row.prog.main.body.reverse with
  | .FunctionDef (body := b) .. :: _ => b
  | _ => []
def lawScope : Scope := match PySem.Challenge.rw_no0058_01.row.prog.main.body.reverse with
  | .FunctionDef (scope := sc) .. :: _ => sc
  | _ => default
def loopBody : List Stmt := (lawBody.findSome? fun s => match s with
  | .For (body := b) .. => some b
  | _ => none).getD []
def drawStmt : List Stmt := loopBody.take 1
def caseStmt : List Stmt := (loopBody.drop 1).take 1
def tailStmts : List Stmt := loopBody.drop 2
abbrev lawEnv (L fa : Addr) (cd : Value) : Env := envOf (Str.ofString "law") lawScope L fa cd
end

/-- the packets that are out: each a tuple of the ledger -/
def OutIs (tl : Led) (v : Value) (p : Int × Int) : Prop := ∃ a t1 t2 n, v = .ref a ∧ (a, tupOf (.int p.1 t1) (.int p.2 t2) n) ∈ tl
inductive OutsAre (tl : Led) : List Value → List (Int × Int) → Prop
  | nil : OutsAre tl [] []
  | cons {v : Value} {p : Int × Int} {vs : List Value} {ps : List (Int × Int)} : OutIs tl v p → OutsAre tl vs ps → OutsAre tl (v :: vs) (p :: ps)
theorem OutIs.mono {tl tl' : Led} {v : Value} {p : Int × Int} (h : OutIs tl v p) (hs : ∀ q ∈ tl, q ∈ tl') : OutIs tl' v p := by
  obtain ⟨a, t1, t2, n, e, hm⟩ := h
  exact ⟨a, t1, t2, n, e, hs _ hm⟩
theorem OutsAre.mono {tl tl' : Led} {vs : List Value} {ps : List (Int × Int)} (h : OutsAre tl vs ps) (hs : ∀ q ∈ tl, q ∈ tl') : OutsAre tl' vs ps := by
  induction h with
  | nil => exact .nil
  | cons h _ ih => exact .cons (h.mono hs) ih
theorem OutsAre.length {tl : Led} {vs : List Value} {ps : List (Int × Int)} (h : OutsAre tl vs ps) : vs.length = ps.length := by
  induction h with
  | nil => rfl
  | cons _ _ ih => rw [List.length_cons, List.length_cons, ih]
theorem OutsAre.app {tl : Led} {vs ws : List Value} {ps qs : List (Int × Int)} (h : OutsAre tl vs ps) (k : OutsAre tl ws qs) : OutsAre tl (vs ++ ws) (ps ++ qs) := by
  induction h with
  | nil => exact k
  | cons h _ ih => exact .cons h ih
/-- at place k: the value and its pair, both lists cut there -/
theorem OutsAre.cut {tl : Led} {vs : List Value} {ps : List (Int × Int)} (h : OutsAre tl vs ps) : ∀ {k : Nat}, k < ps.length → ∃ us v ws qs p rs, vs = us ++ v :: ws ∧ ps = qs ++ p :: rs ∧ us.length = k ∧ qs.length = k ∧ OutsAre tl us qs ∧ OutIs tl v p ∧ OutsAre tl ws rs := by
  induction h with
  | nil => intro k hk; exact absurd hk (Nat.not_lt_zero _)
  | @cons v p vs ps h hr ih =>
    intro k hk
    cases k with
    | zero => exact ⟨[], v, vs, [], p, ps, rfl, rfl, rfl, rfl, .nil, h, hr⟩
    | succ k =>
      obtain ⟨us, v', ws, qs, p', rs, e1, e2, e3, e4, h1, h2, h3⟩ := ih (k := k) (Nat.lt_of_succ_lt_succ hk)
      exact ⟨v :: us, v', ws, p :: qs, p', rs, by rw [e1]; rfl, by rw [e2]; rfl, by rw [List.length_cons, e3], by rw [List.length_cons, e4], .cons h h1, h2, h3⟩

/-- the law's frame between the turns -/
def lawFr (bx rn ot wd : Addr) (d : Int) (td : Tok) (now : Int) (tn : Tok) (u : Str → Option Value) : Str → Option Value := fun y =>
  if y = Str.ofString "now" then some (.int now tn) else if y = Str.ofString "box" then some (.ref bx) else if y = Str.ofString "datagram" then some (.int d td)
  else if y = Str.ofString "reno" then some (.ref rn) else if y = Str.ofString "out" then some (.ref ot) else if y = Str.ofString "world" then some (.ref wd) else u y
theorem lawFr_of {bx rn ot wd : Addr} {d : Int} {td : Tok} {now : Int} {tn : Tok} {m : Str → Option Value} (h1 : m (Str.ofString "now") = some (.int now tn)) (h2 : m (Str.ofString "box") = some (.ref bx)) (h3 : m (Str.ofString "datagram") = some (.int d td))
    (h4 : m (Str.ofString "reno") = some (.ref rn)) (h5 : m (Str.ofString "out") = some (.ref ot)) (h6 : m (Str.ofString "world") = some (.ref wd)) : m = lawFr bx rn ot wd d td now tn m := by
  funext y
  unfold lawFr
  (repeat' split) <;> first | (subst y; assumption) | rfl
theorem fr_law {h₀ h : Heap} {L bx rn ot wd : Addr} {d : Int} {td : Tok} {now : Int} {tn : Tok} {m : Str → Option Value} (F : Fr h₀ L h m) (h1 : m (Str.ofString "now") = some (.int now tn)) (h2 : m (Str.ofString "box") = some (.ref bx)) (h3 : m (Str.ofString "datagram") = some (.int d td))
    (h4 : m (Str.ofString "reno") = some (.ref rn)) (h5 : m (Str.ofString "out") = some (.ref ot)) (h6 : m (Str.ofString "world") = some (.ref wd)) : Fr h₀ L h (lawFr bx rn ot wd d td now tn m) := by
  rw [← lawFr_of h1 h2 h3 h4 h5 h6]
  exact F

-- B4
theorem filter_all {α : Type} (l : List α) : l.filter (fun _ => true) = l := by induction l with
  | nil => rfl
  | cons a r ih => rw [List.filter_cons, if_pos rfl, ih]
theorem outs_ints {tl : Led} {vs : List Value} {ps : List (Int × Int)} (h : OutsAre tl vs ps) : ∀ {ys : List Value}, Paired (fun v y => ∀ p, OutIs tl v p → ∃ t, y = Value.int p.1 t) vs ys → IntsAre ys (ps.map (·.1)) := by
  induction h with
  | nil => intro ys hp; cases hp; exact .nil
  | cons h _ ih =>
    intro ys hp
    cases hp with
    | cons h1 h2 =>
      obtain ⟨t, rfl⟩ := h1 _ h
      exact .cons _ t (ih h2)
theorem OutsAre.mem {tl : Led} {vs : List Value} {ps : List (Int × Int)} (h : OutsAre tl vs ps) {v : Value} (hv : v ∈ vs) : ∃ p, OutIs tl v p := by
  induction h with
  | nil => exact absurd hv (List.not_mem_nil)
  | cons h _ ih =>
    rcases List.mem_cons.mp hv with rfl | hv
    · exact ⟨_, h⟩
    · exact ih hv

section
variable {prog : Program} {w : World} {A : Around} {E : Value → Shared → Prop} {s : Shared} {h₀ : Heap} {L : Addr} {m : Str → Option Value} {env : Env} {news tl : Led}
theorem comp_out {iter : Expr} {x : Str} {px p1 p2 p3 pos : Pos} {kk : Nat} {scope : Scope} {ot : Addr} {ovs : List Value} {no : Nat} {outs : List (Int × Int)} {Q : Value → Shared → Prop}
    (hh : A.handled = none) (F : Fr h₀ L s.heap m) (N : News h₀ L s.heap news) (hot : (ot, listOf ovs.toArray no) ∈ news) (hsz : ovs.length ≤ sizeLine) (hO : OutsAre tl ovs outs) (htl : ∀ p ∈ tl, p ∈ news)
    (hfree : ∀ y ∈ scope.names, y.2 ≠ .free) (hcell : ∀ y ∈ scope.names, y.2 ≠ .cell) (hkind : scope.kind = .function)
    (hnames : ∀ y ∈ scope.names, y.2 = .local → scope.names.lookup y.1 = some .local) (hx : scope.names.lookup x = some .local) (hd : (x == ("__debug__" : Str)) = false)
    (hs : ∀ y, foldedSetIterable iter env y = pure y)
    (hit : wpAny (model prog w) A (eval iter env) (fun v s₁ => v = .ref ot ∧ s₁ = s) E s)
    (h : ∀ D h' tk ys, Fr h₀ L h' m → News h₀ L h' news → h'.IsList D ys.toArray → IntsAre ys (outs.map (·.1)) → Q (.ref D) { s with heap := h', toks := tk }) :
    wpAny (model prog w) A (eval (.ListComp (.Subscript (.Name x p1) (.Constant (.int 0) kk p2) p3) [⟨.Name x px, iter, [], 0⟩] scope pos) env) Q E s := by
  refine wpAny_ListComp_map (fun _ => true) (fun v y => ∀ p, OutIs tl v p → ∃ t, y = Value.int p.1 t) hh hfree hcell hkind hnames hx (wpAny_mono hit (fun xv s₁ h₁ => ?_) fun _ _ e => e) hs
  obtain ⟨rfl, rfl⟩ := h₁
  refine ⟨ot, ovs.toArray, rfl, ⟨_, (N _ hot).1, rfl, no, rfl⟩, by rw [List.size_toArray]; exact hsz, ?_, ?_, ?_⟩
  · intro C v s₂ m₂ E' _ _ _ _
    exact wpAny_tests_nil ⟨rfl, s₂.heap, s₂.toks, rfl, fun _ _ e => e⟩
  · intro C v s₂ m₂ E' hv _ hns hm hk
    obtain ⟨p0, hp0⟩ := hO.mem (by simpa using hv)
    obtain ⟨a, t1, t2, n, rfl, hmem⟩ := hp0
    have hget := (N _ (htl _ hmem)).1
    refine Subscript_ (wpAny_Name (wpAny_loadName_local hkind hx hns hm ?_) hd)
    refine wpAny_Constant_int ?_
    refine item_tupleT (l := [.int p0.1 t1, .int p0.2 t2]) (j := 0) ⟨_, hk _ _ hget, rfl, n, rfl⟩ (by decide) (by decide) rfl rfl ⟨?_, ?_⟩
    · intro p hp
      obtain ⟨a', t1', t2', n', e, hmem'⟩ := hp
      injection e with e
      subst e
      have hget' := (N _ (htl _ hmem')).1
      have e2 := Option.some.inj (hget.symm.trans hget')
      simp only [tupOf, Obj.mk.injEq, Data.seq.injEq, true_and, and_true] at e2
      have e3 : (#[Value.int p0.1 t1, Value.int p0.2 t2] : Array Value) = #[Value.int p.1 t1', Value.int p.2 t2'] := e2.1
      have e4 : Value.int p0.1 t1 = Value.int p.1 t1' := by
        have := congrArg (fun a : Array Value => a[0]?) e3
        simpa using this
      injection e4 with e5
      exact ⟨t1, by rw [e5]⟩
    · exact ⟨s₂.heap, _, rfl, fun _ _ e => e⟩
  · intro D h' tk ys _ hlD hP hk
    rw [filter_all] at hP
    exact h D h' tk ys.toList (F.keeps hk) (N.grown hk) (by simpa using hlD) (outs_ints hO (by simpa using hP))
end

-- B5
structure Apt (bx ls ot wd rn rd : Addr) (tl : Led) : Prop where
  bl : @Ne Nat bx ls
  rr : @Ne Nat rn rd
  rw : @Ne Nat rn wd
  dw : @Ne Nat rd wd
  box : ∀ o1 o2 o3 o4, OwnOff ((ot, o1) :: (wd, o2) :: (rn, o3) :: (rd, o4) :: tl) [bx, ls]
  wld : ∀ o1 o2 o3 o4 o5, OwnOff ((bx, o1) :: (ls, o2) :: (ot, o3) :: (rn, o4) :: (rd, o5) :: tl) [wd]
  ren : ∀ o1 o2 o3 o4, OwnOff ((bx, o1) :: (ls, o2) :: (ot, o3) :: (wd, o4) :: tl) [rn, rd]
  both : ∀ o1 o2 o3, OwnOff ((bx, o1) :: (ls, o2) :: (ot, o3) :: tl) [wd, rn, rd]

theorem off_cons {p : Addr × Obj} {l : Led} {adr : List Addr} (h : ∀ b ∈ adr, p.1 ≠ b) (hl : OwnOff l adr) : OwnOff (p :: l) adr := by
  intro q hq b hb
  rcases List.mem_cons.mp hq with rfl | hq
  · exact h b hb
  · exact hl q hq b hb
theorem off_sub {l : Led} {adr adr' : List Addr} (hl : OwnOff l adr) (h : ∀ b ∈ adr', b ∈ adr) : OwnOff l adr' := fun p hp b hb => hl p hp b (h b hb)

/-- the pairwise parts of the six objects -/
def Six (bx ls ot wd rn rd : Nat) : Prop :=
  bx ≠ ls ∧ bx ≠ ot ∧ bx ≠ wd ∧ bx ≠ rn ∧ bx ≠ rd ∧ ls ≠ ot ∧ ls ≠ wd ∧ ls ≠ rn ∧ ls ≠ rd ∧ ot ≠ wd ∧ ot ≠ rn ∧ ot ≠ rd ∧ wd ≠ rn ∧ wd ≠ rd ∧ rn ≠ rd

theorem apt_of {bx ls ot wd rn rd : Addr} {tl : Led} (h : Six bx ls ot wd rn rd) (ht : OwnOff tl [bx, ls, ot, wd, rn, rd]) : Apt bx ls ot wd rn rd tl := by
  obtain ⟨h1, h2, h3, h4, h5, h6, h7, h8, h9, h10, h11, h12, h13, h14, h15⟩ := h
  have s1 : OwnOff tl [bx, ls] := off_sub ht (by intro b hb; simp only [List.mem_cons, List.not_mem_nil, or_false] at hb ⊢; rcases hb with h | h <;> simp [h])
  have s2 : OwnOff tl [wd] := off_sub ht (by intro b hb; simp only [List.mem_cons, List.not_mem_nil, or_false] at hb ⊢; simp [hb])
  have s3 : OwnOff tl [rn, rd] := off_sub ht (by intro b hb; simp only [List.mem_cons, List.not_mem_nil, or_false] at hb ⊢; rcases hb with h | h <;> simp [h])
  have s4 : OwnOff tl [wd, rn, rd] := off_sub ht (by intro b hb; simp only [List.mem_cons, List.not_mem_nil, or_false] at hb ⊢; rcases hb with h | h | h <;> simp [h])
  have two : ∀ {p a b : Nat}, p ≠ a → p ≠ b → ∀ x ∈ [a, b], p ≠ x := by
    intro p a b h1 h2 x hx
    simp only [List.mem_cons, List.not_mem_nil, or_false] at hx
    rcases hx with rfl | rfl
    · exact h1
    · exact h2
  have one : ∀ {p a : Nat}, p ≠ a → ∀ x ∈ [a], p ≠ x := by
    intro p a h1 x hx
    simp only [List.mem_cons, List.not_mem_nil, or_false] at hx
    subst hx
    exact h1
  have three : ∀ {p a b c : Nat}, p ≠ a → p ≠ b → p ≠ c → ∀ x ∈ [a, b, c], p ≠ x := by
    intro p a b c h1 h2 h3 x hx
    simp only [List.mem_cons, List.not_mem_nil, or_false] at hx
    rcases hx with rfl | rfl | rfl
    · exact h1
    · exact h2
    · exact h3
  exact ⟨h1, h15, h13.symm, h14.symm,
    fun _ _ _ _ => off_cons (two h2.symm h6.symm) (off_cons (two h3.symm h7.symm) (off_cons (two h4.symm h8.symm) (off_cons (two h5.symm h9.symm) s1))),
    fun _ _ _ _ _ => off_cons (one h3) (off_cons (one h7) (off_cons (one h10) (off_cons (one h13.symm) (off_cons (one h14.symm) s2)))),
    fun _ _ _ _ => off_cons (two h4 h5) (off_cons (two h8 h9) (off_cons (two h11 h12) (off_cons (two h13 h14) s3))),
    fun _ _ _ => off_cons (three h3 h4 h5) (off_cons (three h7 h8 h9) (off_cons (three h10 h11 h12) s4))⟩

theorem rCong_d (x : Rm) (sent now : Int) : (rCong x sent now).d = x.d := by
  unfold rCong
  split
  · split <;> rfl
  · rfl
theorem rAck_d (x : Rm) (size sent : Int) (lim : Bool) : (rAck x size sent lim).d = x.d := by
  unfold rAck
  split
  · rfl
  · split <;> rfl
/-- what one turn's event does, in mathematics -/
def Step (x : Rm) (y : Wm) (outs : List (Int × Int)) (now : Int) (x' : Rm) (y' : Wm) (outs' : List (Int × Int)) : Prop :=
  (∃ size, x.d - 40 ≤ size ∧ size ≤ x.d ∧ x' = { x with fl := x.fl + size } ∧ y' = y ∧ outs' = outs ++ [(size, now)])
  ∨ (∃ qs p rs, outs = qs ++ p :: rs ∧ outs' = qs ++ rs ∧ x' = rCong { x with fl := x.fl - p.1 } p.2 now ∧ y' = wCong y p.2 now)
  ∨ (∃ qs p rs lim, outs = qs ++ p :: rs ∧ outs' = qs ++ rs ∧ x' = rAck x p.1 p.2 lim ∧ y' = wAck y (rAck x p.1 p.2 lim).win p.1 p.2 lim)
  ∨ (∃ p rs, outs = p :: rs ∧ outs' = rs ∧ x' = { x with fl := x.fl - p.1 } ∧ y' = y)
  ∨ (∃ sent, outs' = outs ∧ x' = rCong x sent now ∧ y' = wCong y sent now)
  ∨ (outs' = outs ∧ x' = { x with win := 2 * x.d, rc := none, cr := 0 } ∧ y' = { y with rc := none, win := 2 * x.d, base := 2 * x.d, top := 0, bot := 1, gr := false })
  ∨ (outs' = outs ∧ x' = x ∧ y' = y)

/-- what holds between the turns (and within one, behind its event): the objects tell the mathematics -/
structure Ok (w : World) (ro wo : Obj) (x : Rm) (y : Wm) (tl : Led) (ovs : List Value) (outs : List (Int × Int)) (lvs : List Value) (lst : List Int) (seed : Int) : Prop where
  okR : RenoIs w ro x
  okW : WorldIs w wo y
  okO : OutsAre tl ovs outs
  okI : IntsAre lvs lst
  okL : lst.length ≤ 24
  okA : 0 ≤ seed
  okB : seed < 2147483647
abbrev ledOf (bx ls ot wd rn rd : Addr) (seed : Int) (ts : Tok) (nb nl no : Nat) (lvs ovs : List Value) (wo ro : Obj) (tl : Led) : Led :=
  (bx, listOf #[.ref ls, .int seed ts] nb) :: (ls, listOf lvs.toArray nl) :: (ot, listOf ovs.toArray no) :: (wd, wo) :: (rn, instObj 115 rd) :: (rd, ro) :: tl

/-- the end of an event -/
abbrev EvRet (w : World) (h₀ : Heap) (L bx ls ot wd rn rd : Addr) (td : Tok) (now : Int) (tn : Tok) (tl : Led) (x : Rm) (y : Wm) (outs : List (Int × Int)) (s : Shared) (Q : Flow → Shared → Prop) : Prop :=
  ∀ x' y' outs' ro' wo' ovs' no' seed' ts' nb' nl' lvs' lst' add u' h' tk', Step x y outs now x' y' outs' → x'.d = x.d → Ok w ro' wo' x' y' (add ++ tl) ovs' outs' lvs' lst' seed' →
    (∀ q ∈ add, ∀ b ∈ [bx, ls, ot, wd, rn, rd], q.1 ≠ b) → (∀ q ∈ add, ∀ p ∈ tl, p.1 ≠ q.1) →
    Fr h₀ L h' (lawFr bx rn ot wd x.d td now tn u') → News h₀ L h' (ledOf bx ls ot wd rn rd seed' ts' nb' nl' no' lvs' ovs' wo' ro' (add ++ tl)) → Q .next { s with heap := h', toks := tk' }

-- B6
theorem toW {h₀ h : Heap} {L : Addr} {a b c d e f : Addr × Obj} {l : Led} (N : News h₀ L h (a :: b :: c :: d :: e :: f :: l)) : News h₀ L h (d :: a :: b :: c :: e :: f :: l) := fun p hp => N p (by
  simp only [List.mem_cons] at hp ⊢
  rcases hp with h | h | h | h | h | h | h <;> simp [h])
theorem ofW {h₀ h : Heap} {L : Addr} {a b c d e f : Addr × Obj} {l : Led} (N : News h₀ L h (d :: a :: b :: c :: e :: f :: l)) : News h₀ L h (a :: b :: c :: d :: e :: f :: l) := fun p hp => N p (by
  simp only [List.mem_cons] at hp ⊢
  rcases hp with h | h | h | h | h | h | h <;> simp [h])
theorem toR {h₀ h : Heap} {L : Addr} {a b c d e f : Addr × Obj} {l : Led} (N : News h₀ L h (a :: b :: c :: d :: e :: f :: l)) : News h₀ L h (e :: f :: a :: b :: c :: d :: l) := fun p hp => N p (by
  simp only [List.mem_cons] at hp ⊢
  rcases hp with h | h | h | h | h | h | h <;> simp [h])
theorem ofR {h₀ h : Heap} {L : Addr} {a b c d e f : Addr × Obj} {l : Led} (N : News h₀ L h (e :: f :: a :: b :: c :: d :: l)) : News h₀ L h (a :: b :: c :: d :: e :: f :: l) := fun p hp => N p (by
  simp only [List.mem_cons] at hp ⊢
  rcases hp with h | h | h | h | h | h | h <;> simp [h])
theorem toA {h₀ h : Heap} {L : Addr} {q a b c d e f : Addr × Obj} {l : Led} (N : News h₀ L h (a :: b :: c :: d :: e :: f :: l)) (hq : q ∈ l) : News h₀ L h (q :: d :: e :: f :: a :: b :: c :: l) := fun p hp => N p (by
  rcases List.mem_cons.mp hp with rfl | hp
  · simp [hq]
  · simp only [List.mem_cons] at hp ⊢
    rcases hp with h | h | h | h | h | h | h <;> simp [h])
theorem ofA {h₀ h : Heap} {L : Addr} {q a b c d e f : Addr × Obj} {l : Led} (N : News h₀ L h (q :: d :: e :: f :: a :: b :: c :: l)) : News h₀ L h (a :: b :: c :: d :: e :: f :: l) := fun p hp => N p (by
  simp only [List.mem_cons] at hp ⊢
  rcases hp with h | h | h | h | h | h | h <;> simp [h])

theorem toEnd {h₀ h : Heap} {L : Addr} {q a b c d e f : Addr × Obj} {l : Led} (N : News h₀ L h (q :: a :: b :: c :: d :: e :: f :: l)) : News h₀ L h (a :: b :: c :: d :: e :: f :: ([q] ++ l)) := fun p hp => N p (by
  simp only [List.mem_cons, List.cons_append, List.nil_append] at hp ⊢
  rcases hp with h | h | h | h | h | h | h | h <;> simp [h])
theorem add_off {D bx ls ot wd rn rd : Nat} {o : Obj} (g1 : bx < D) (g2 : ls < D) (g3 : ot < D) (g4 : wd < D) (g5 : rn < D) (g6 : rd < D) : ∀ q ∈ [((D, o) : Addr × Obj)], ∀ b ∈ [bx, ls, ot, wd, rn, rd], q.1 ≠ b := by
  intro q hq b hb
  rw [List.mem_singleton.mp hq]
  simp only [List.mem_cons, List.not_mem_nil, or_false] at hb
  show D ≠ b
  rcases hb with rfl | rfl | rfl | rfl | rfl | rfl <;> omega
theorem add_off2 {D : Nat} {o : Obj} {tl : Led} (g : AllLt D tl) : ∀ q ∈ [((D, o) : Addr × Obj)], ∀ p ∈ tl, p.1 ≠ q.1 := by
  intro q hq p hp
  rw [List.mem_singleton.mp hq]
  exact Nat.ne_of_lt (ktn_ltOf g p hp)
structure Drawn (r wide : Int) : Prop where
  lo : 0 ≤ r
  hi : r < wide
theorem Drawn.nat {r : Int} {n : Nat} (h : Drawn r n) : r.toNat < n := by
  obtain ⟨h0, h1⟩ := h
  omega
theorem cut_app (v : Value) (ws : List Value) : ∀ us : List Value, kl_cut (us ++ v :: ws) us.length = some (us, v, ws)
  | [] => rfl
  | u :: us => by
    show (match kl_cut (us ++ v :: ws) us.length with | some (p, y, q) => some (u :: p, y, q) | none => none) = _
    rw [cut_app v ws us]
theorem fits_idx {r : Int} (h0 : 0 ≤ r) (h1 : r < 1000) : Builtin.List.listFitsIndex r = true := by
  unfold Builtin.List.listFitsIndex
  simp only [Bool.and_eq_true, decide_eq_true_eq]
  omega
theorem seq_idx {r : Int} {n : Nat} (h0 : 0 ≤ r) (h1 : r < n) : seqIndex? r n = some r.toNat := by
  have h2 : ¬ r < 0 := by omega
  simp [seqIndex?, h2, h0, h1]
section
variable {prog : Program} {w : World} {A : Around} {E : Value → Shared → Prop} {s : Shared} {h₀ : Heap} {L D : Addr} {m : Str → Option Value} {news news' : Led} {n : Nat}
theorem pop_at {us ws : List Value} {v : Value} {r : Int} {u : Tok} {Q : Value → Shared → Prop} (F : Fr h₀ L s.heap m) (N : News h₀ L s.heap news) (hr0 : 0 ≤ r) (hr : us.length = r.toNat) (hz : (us ++ v :: ws).length ≤ 999)
    (U : Upd D (listOf (us ++ v :: ws).toArray n) (listOf (us ++ ws).toArray (n + 1)) news news') (h : ∀ h', Fr h₀ L h' m → News h₀ L h' news' → Q v { s with heap := h' }) :
    wpAny (model prog w) A (call (.builtin "list.pop") [.ref D, .int r u]) Q E s := by
  have hl : (us ++ v :: ws).length = us.length + (ws.length + 1) := by rw [List.length_append, List.length_cons]
  refine kl_popAt (k := r.toNat) F N (fits_idx hr0 (by omega)) (seq_idx hr0 (by rw [List.size_toArray]; omega)) (by rw [← hr]; exact cut_app v ws us) U (by rw [sizeLine_eq]; show (us ++ v :: ws).length ≤ _; omega) h
theorem item0 {value slice : Expr} {ta : Addr} {a b : Value} {k : Nat} {u : Tok} {tl : Led} {Q : Value → Shared → Prop} (N : News h₀ L s.heap news) (hm : (ta, tupOf a b k) ∈ tl) (hs : ∀ p ∈ tl, p ∈ news) (h : Q a s)
    (hq : subscripted slice false (.ref ta) (.int 0 u) = operate [.ref ta, .int 0 u] (getItem (.ref ta) (.int 0 u)) := by with_unfolding_all rfl) : wpAny (model prog w) A (subscriptTail value slice (.ref ta) (.int 0 u)) Q E s :=
  item_tupleT (l := [a, b]) (j := 0) ⟨_, (N _ (hs _ hm)).1, rfl, k, rfl⟩ (by decide) (by decide) rfl rfl h hq
theorem item1 {value slice : Expr} {ta : Addr} {a b : Value} {k : Nat} {u : Tok} {tl : Led} {Q : Value → Shared → Prop} (N : News h₀ L s.heap news) (hm : (ta, tupOf a b k) ∈ tl) (hs : ∀ p ∈ tl, p ∈ news) (h : Q b s)
    (hq : subscripted slice false (.ref ta) (.int 1 u) = operate [.ref ta, .int 1 u] (getItem (.ref ta) (.int 1 u)) := by with_unfolding_all rfl) : wpAny (model prog w) A (subscriptTail value slice (.ref ta) (.int 1 u)) Q E s :=
  item_tupleT (l := [a, b]) (j := 1) ⟨_, (N _ (hs _ hm)).1, rfl, k, rfl⟩ (by decide) (by decide) rfl rfl h hq
theorem last_of {value slice : Expr} {us : List Value} {v : Value} {u : Tok} {Q : Value → Shared → Prop} (N : News h₀ L s.heap news) (hm : (D, listOf (us ++ [v]).toArray n) ∈ news) (hz : (us ++ [v]).length ≤ 1000) (h : Q v s)
    (hq : subscripted slice false (.ref D) (.int (-1) u) = operate [.ref D, .int (-1) u] (getItem (.ref D) (.int (-1) u)) := by with_unfolding_all rfl) : wpAny (model prog w) A (subscriptTail value slice (.ref D) (.int (-1) u)) Q E s := by
  have hl : s.heap.IsList D (us ++ [v]).toArray := ⟨_, (N _ hm).1, rfl, n, rfl⟩
  have hlen : (us ++ [v]).length = us.length + 1 := by rw [List.length_append]; rfl
  refine tail_any hl.typeIs slot_list_getitem.lookup (wpAny_getItem_list_neg hl (by decide) (by rw [List.size_toArray]; omega) (by decide) ?_ h) hq
  rw [List.size_toArray, hlen]
  have e : ((-1 : Int) + ((us.length + 1 : Nat) : Int)).toNat = us.length := by omega
  rw [e]
  simp
theorem eq_nilL {l b : Addr} {Q : Value → Shared → Prop} (hl : s.heap.IsList l #[]) (hb : s.heap.IsList b #[]) (hu : A.units < cLine) (h : Q (.bool true) s) : wpAny (model prog w) A (compareOp .Eq (.ref l) (.ref b)) Q E s :=
  PySem.SeqAt.eq_listAt (e := fun _ => true) hl hb rfl hu (fun _ h1 _ => absurd h1 (Nat.not_lt_zero _)) h
theorem tail6 {a b c d e f : Addr × Obj} {l : Led} : ∀ p ∈ l, p ∈ a :: b :: c :: d :: e :: f :: l := fun _ hp => .tail _ (.tail _ (.tail _ (.tail _ (.tail _ (.tail _ hp)))))
end

-- T1
local macro_rules | `(tactic| walk_at "execs cons") => `(tactic| ((try dsimp only); refine execs_tk ?_; intro tk'))
theorem take_ct {w : World} {mean : ExcName → Option Value} {mg mb : Str → Option Value} {bx ls : Addr} {seed wide : Int} {ts tw : Tok} {nb nl : Nat} {lvs : List Value} {lst : List Int} {rest : Led}
   (hi : IntsAre lvs lst) (hlen : lst.length ≤ 24) (hs0 : 0 ≤ seed) (hs1 : seed < 2147483647) (hw : 0 < wide) (hw2 : wide < 2 ^ 60) (hne : @Ne Nat bx ls) (hoff : OwnOff rest [bx, ls]) :
   Ct w mean mg mb 1 126 [.ref bx, .int wide tw] ((bx, listOf #[.ref ls, .int seed ts] nb) :: (ls, listOf lvs.toArray nl) :: rest)
    (fun v news' => ∃ r t seed' ts' nb' nl' lvs' lst', v = .int r t ∧ 0 ≤ r ∧ r < wide ∧ IntsAre lvs' lst' ∧ lst'.length ≤ 24 ∧ 0 ≤ seed' ∧ seed' < 2147483647 ∧ news' = (bx, listOf #[.ref ls, .int seed' ts'] nb') :: (ls, listOf lvs'.toArray nl') :: rest) := by
  unfold Ct
  k_fill
  intro dp un gd cn cs a ccd cl outer A₀ base h₀ L m s Q E B F X N T hk hd hu hret
  have hw0 : wide ≠ 0 := by omega
  cases hi with
  | nil => 
    refine wpAny_call ?_
    k_dflt cell_enter
    k_steps
    refine hret _ _ _ _ ⟨_, _, _, _, _, _, _, _, rfl, ?_, ?_, .nil, hlen, ?_, ?_, rfl⟩ (by k_asm) (by k_asm)
    · exact Int.fmod_nonneg_of_pos _ hw
    · exact Int.fmod_lt_of_pos _ hw
    · exact Int.fmod_nonneg_of_pos _ (by decide)
    · exact Int.fmod_lt_of_pos _ (by decide)
  | cons k t r =>
    rename_i vs1 ns1
    have h9 := r.length
    simp only [List.length_cons] at hlen
    refine wpAny_call ?_
    k_dflt cell_enter
    k_steps
    k_dflt (refine' kl_popAt (k := 0) (p := []) (y := Value.int k t) (q := vs1) ?F ?N ?f ?k ?e ?U ?z ?_; (case F => k_asm); (case N => k_asm); (case U => k_upd); (case f => rfl); (case k => simp [seqIndex?]); (case e => rfl); (case z => (rw [sizeLine_eq]; (simp only [List.length_cons]); omega)))
    intro h' F' N'
    (try dsimp only [List.nil_append, List.cons_append] at N')
    k_steps
    refine hret _ _ _ _ ⟨_, _, _, _, _, _, _, _, rfl, ?_, ?_, r, ?_, hs0, hs1, rfl⟩ (by k_asm) (by k_asm)
    · exact Int.fmod_nonneg_of_pos _ hw
    · exact Int.fmod_lt_of_pos _ hw
    · omega

-- C1
local macro_rules | `(tactic| walk_at "execs nil") => `(tactic| ((try dsimp only); refine wpAny_execs_nil ?_))
local macro_rules | `(tactic| walk_at "eval Subscript Name Constant") => `(tactic| ((try dsimp only); refine Subscript_ ?_))

/-- the dictionary of the sender, its six values -/
abbrev rd6 (w : World) (k1 k2 k3 k4 k5 k6 : Tok) (v1 v2 v3 v4 v5 v6 : Value) : Obj := dictOf [
    { hash := PyData.keyHash w.params (Str.ofString "datagram"), key := .str (Str.ofString "datagram") k1, val := v1 },
    { hash := PyData.keyHash w.params (Str.ofString "window"), key := .str (Str.ofString "window") k2, val := v2 },
    { hash := PyData.keyHash w.params (Str.ofString "threshold"), key := .str (Str.ofString "threshold") k3, val := v3 },
    { hash := PyData.keyHash w.params (Str.ofString "recovery_at"), key := .str (Str.ofString "recovery_at") k4, val := v4 },
    { hash := PyData.keyHash w.params (Str.ofString "in_flight"), key := .str (Str.ofString "in_flight") k5, val := v5 },
    { hash := PyData.keyHash w.params (Str.ofString "credit"), key := .str (Str.ofString "credit") k6, val := v6 }] 6

theorem inrec_ct {w : World} {mean : ExcName → Option Value} {mg mb : Str → Option Value} {rn rd : Addr} {k1 k2 k3 k4 k5 k6 : Tok} {v1 v2 v3 v5 v6 : Value} {rc : Option Int} {u4 t : Tok} {sent : Int} {rest : Led} :
   Ct w mean mg mb 2 63 [.ref rn, .int sent t] ((rn, instObj 115 rd) :: (rd, rd6 w k1 k2 k3 k4 k5 k6 v1 v2 v3 (ov rc u4) v5 v6) :: rest)
    (fun v news' => v = .bool (inRec rc sent) ∧ news' = (rn, instObj 115 rd) :: (rd, rd6 w k1 k2 k3 k4 k5 k6 v1 v2 v3 (ov rc u4) v5 v6) :: rest) := by
  unfold Ct
  k_fill
  intro dp un gd cn cs a ccd cl outer A₀ base h₀ L m s Q E B F X N T hk hd hu hret
  dsimp only [rd6] at N
  cases rc with
  | none =>
    simp only [ov_n] at N
    refine wpAny_call ?_
    k_dflt cell_enter
    w_top off; k_steps
    rename Fr _ _ _ _ => hFE
    rename News _ _ _ _ => hNE
    (try dsimp only at hFE hNE ⊢)
    exact hret _ _ _ _ ⟨rfl, rfl⟩ hFE hNE
  | some r =>
    simp only [ov_s] at N
    refine wpAny_call ?_
    k_dflt cell_enter
    w_top off; k_steps
    rename Fr _ _ _ _ => hFE
    rename News _ _ _ _ => hNE
    (try dsimp only at hFE hNE ⊢)
    exact hret _ _ _ _ ⟨rfl, rfl⟩ hFE hNE

theorem slow_ct {w : World} {mean : ExcName → Option Value} {mg mb : Str → Option Value} {rn rd : Addr} {k1 k2 k3 k4 k5 k6 : Tok} {v1 v4 v5 v6 : Value} {th : Option Int} {u2 u3 : Tok} {win : Int} {rest : Led} :
   Ct w mean mg mb 2 56 [.ref rn] ((rn, instObj 115 rd) :: (rd, rd6 w k1 k2 k3 k4 k5 k6 v1 (.int win u2) (ov th u3) v4 v5 v6) :: rest)
    (fun v news' => v = .bool (slow th win) ∧ news' = (rn, instObj 115 rd) :: (rd, rd6 w k1 k2 k3 k4 k5 k6 v1 (.int win u2) (ov th u3) v4 v5 v6) :: rest) := by
  unfold Ct
  k_fill
  intro dp un gd cn cs a ccd cl outer A₀ base h₀ L m s Q E B F X N T hk hd hu hret
  dsimp only [rd6] at N
  cases th with
  | none =>
    simp only [ov_n] at N
    refine wpAny_call ?_
    k_dflt cell_enter
    w_top off; k_steps
    rename Fr _ _ _ _ => hFE
    rename News _ _ _ _ => hNE
    (try dsimp only at hFE hNE ⊢)
    exact hret _ _ _ _ ⟨rfl, rfl⟩ hFE hNE
  | some r =>
    simp only [ov_s] at N
    refine wpAny_call ?_
    k_dflt cell_enter
    w_top off; k_steps
    rename Fr _ _ _ _ => hFE
    rename News _ _ _ _ => hNE
    (try dsimp only at hFE hNE ⊢)
    exact hret _ _ _ _ ⟨rfl, rfl⟩ hFE hNE

theorem widen_ct {w : World} {mean : ExcName → Option Value} {mg mb : Str → Option Value} {rn rd : Addr} {k1 k2 k3 k4 k5 k6 : Tok} {v3 v4 v5 : Value} {u1 u2 u6 t : Tok} {d win cr size : Int} {rest : Led}
   (hb1 : 0 < win) (hb2 : win < 2 ^ 20) (hb3 : 0 ≤ d) (hb4 : d < 2 ^ 20) (hb5 : 0 ≤ size) (hb6 : size < 2 ^ 20) (hp0 : 0 ≤ d * size) (hp1 : d * size < 2 ^ 40) (hc0 : 0 ≤ cr) (hc1 : cr < 2 ^ 20) (hne : @Ne Nat rn rd) (hoff : OwnOff rest [rn, rd]) :
   Ct w mean mg mb 2 91 [.ref rn, .int size t] ((rn, instObj 115 rd) :: (rd, rd6 w k1 k2 k3 k4 k5 k6 (.int d u1) (.int win u2) v3 v4 v5 (.int cr u6)) :: rest)
    (fun v news' => v = .none ∧ ∃ u2' u6', news' = (rn, instObj 115 rd) :: (rd, rd6 w k1 k2 k3 k4 k5 k6 (.int d u1) (.int (win + (cr + d * size).fdiv win) u2') v3 v4 v5 (.int ((cr + d * size) - (cr + d * size).fdiv win * win) u6')) :: rest) := by
  unfold Ct
  k_fill
  intro dp un gd cn cs a ccd cl outer A₀ base h₀ L m s Q E B F X N T hk hd hu hret
  dsimp only [rd6] at N
  refine wpAny_call ?_
  k_dflt cell_enter
  w_top off; k_steps
  rename Fr _ _ _ _ => hFE
  rename News _ _ _ _ => hNE
  (try dsimp only at hFE hNE ⊢)
  exact hret _ _ _ _ ⟨rfl, _, _, rfl⟩ hFE hNE

theorem least_ct {w : World} {mean : ExcName → Option Value} {mg mb : Str → Option Value} {d : Int} {t : Tok} {rest : Led} (hb1 : 0 ≤ d) (hb2 : d < 2 ^ 60) :
   Ct w mean mg mb 1 28 [.int d t] rest (fun v news' => (∃ t', v = .int (2 * d) t') ∧ news' = rest) := by
  unfold Ct
  k_fill
  intro dp un gd cn cs a ccd cl outer A₀ base h₀ L m s Q E B F X N T hk hd hu hret
  refine wpAny_call ?_
  k_dflt cell_enter
  w_top off; k_steps
  rename Fr _ _ _ _ => hFE
  rename News _ _ _ _ => hNE
  (try dsimp only at hFE hNE ⊢)
  exact hret _ _ _ _ ⟨⟨_, rfl⟩, rfl⟩ hFE hNE

theorem may_ct {w : World} {mean : ExcName → Option Value} {mg mb : Str → Option Value} {rn rd : Addr} {k1 k2 k3 k4 k5 k6 : Tok} {v1 v3 v4 v6 : Value} {win fl size : Int} {u2 u5 t : Tok} {rest : Led} :
   Ct w mean mg mb 1 49 [.ref rn, .int size t] ((rn, instObj 115 rd) :: (rd, rd6 w k1 k2 k3 k4 k5 k6 v1 (.int win u2) v3 v4 (.int fl u5) v6) :: rest)
    (fun v news' => v = .bool (decide (fl + size ≤ win)) ∧ news' = (rn, instObj 115 rd) :: (rd, rd6 w k1 k2 k3 k4 k5 k6 v1 (.int win u2) v3 v4 (.int fl u5) v6) :: rest) := by
  unfold Ct
  k_fill
  intro dp un gd cn cs a ccd cl outer A₀ base h₀ L m s Q E B F X N T hk hd hu hret
  dsimp only [rd6] at N
  refine wpAny_call ?_
  k_dflt cell_enter
  w_top off; k_steps
  rename Fr _ _ _ _ => hFE
  rename News _ _ _ _ => hNE
  (try dsimp only at hFE hNE ⊢)
  exact hret _ _ _ _ ⟨rfl, rfl⟩ hFE hNE

section
variable {w : World} {mean : ExcName → Option Value} {mg mb : Str → Option Value} {A : Around} {h₀ : Heap} {L : Addr} {m : Str → Option Value} {s : Shared} {Q E : Value → Shared → Prop}
theorem use_inrec {rn rd : Addr} {k1 k2 k3 k4 k5 k6 : Tok} {v1 v2 v3 v5 v6 : Value} {rc : Option Int} {u4 t : Tok} {sent : Int} {rest : Led} {vs : List Value} (hv : vs = [.ref rn, .int sent t]) (F : Fr h₀ L s.heap m) (H : Here w mean mg mb 2 A h₀ L)
   (N : News h₀ L s.heap ((rn, instObj 115 rd) :: (rd, rd6 w k1 k2 k3 k4 k5 k6 v1 v2 v3 (ov rc u4) v5 v6) :: rest))
   (ret : ∀ h' tk', Fr h₀ L h' m → News h₀ L h' ((rn, instObj 115 rd) :: (rd, rd6 w k1 k2 k3 k4 k5 k6 v1 v2 v3 (ov rc u4) v5 v6) :: rest) → Q (.bool (inRec rc sent)) { s with heap := h', toks := tk' }) :
   wpAny (model PySem.Challenge.rw_no0058_01.row.prog w) A (call (.ref 63) vs) Q E s :=
  hv ▸ Ct.run H F N inrec_ct fun v n' h' tk' hp F' N' => by
    obtain ⟨rfl, rfl⟩ := hp
    exact ret _ _ F' N'
theorem use_slow {rn rd : Addr} {k1 k2 k3 k4 k5 k6 : Tok} {v1 v4 v5 v6 : Value} {th : Option Int} {u2 u3 : Tok} {win : Int} {rest : Led} {vs : List Value} (hv : vs = [.ref rn]) (F : Fr h₀ L s.heap m) (H : Here w mean mg mb 2 A h₀ L)
   (N : News h₀ L s.heap ((rn, instObj 115 rd) :: (rd, rd6 w k1 k2 k3 k4 k5 k6 v1 (.int win u2) (ov th u3) v4 v5 v6) :: rest))
   (ret : ∀ h' tk', Fr h₀ L h' m → News h₀ L h' ((rn, instObj 115 rd) :: (rd, rd6 w k1 k2 k3 k4 k5 k6 v1 (.int win u2) (ov th u3) v4 v5 v6) :: rest) → Q (.bool (slow th win)) { s with heap := h', toks := tk' }) :
   wpAny (model PySem.Challenge.rw_no0058_01.row.prog w) A (call (.ref 56) vs) Q E s :=
  hv ▸ Ct.run H F N slow_ct fun v n' h' tk' hp F' N' => by
    obtain ⟨rfl, rfl⟩ := hp
    exact ret _ _ F' N'
theorem use_widen {rn rd : Addr} {k1 k2 k3 k4 k5 k6 : Tok} {v3 v4 v5 : Value} {u1 u2 u6 t : Tok} {d win cr size : Int} {rest : Led} {vs : List Value} (hv : vs = [.ref rn, .int size t]) (F : Fr h₀ L s.heap m) (H : Here w mean mg mb 2 A h₀ L)
   (N : News h₀ L s.heap ((rn, instObj 115 rd) :: (rd, rd6 w k1 k2 k3 k4 k5 k6 (.int d u1) (.int win u2) v3 v4 v5 (.int cr u6)) :: rest))
   (hb1 : 0 < win) (hb2 : win < 2 ^ 20) (hb3 : 0 ≤ d) (hb4 : d < 2 ^ 20) (hb5 : 0 ≤ size) (hb6 : size < 2 ^ 20) (hp0 : 0 ≤ d * size) (hp1 : d * size < 2 ^ 40) (hc0 : 0 ≤ cr) (hc1 : cr < 2 ^ 20) (hne : @Ne Nat rn rd) (hoff : OwnOff rest [rn, rd])
   (ret : ∀ h' tk' u2' u6', Fr h₀ L h' m → News h₀ L h' ((rn, instObj 115 rd) :: (rd, rd6 w k1 k2 k3 k4 k5 k6 (.int d u1) (.int (win + (cr + d * size).fdiv win) u2') v3 v4 v5 (.int ((cr + d * size) - (cr + d * size).fdiv win * win) u6')) :: rest) → Q .none { s with heap := h', toks := tk' }) :
   wpAny (model PySem.Challenge.rw_no0058_01.row.prog w) A (call (.ref 91) vs) Q E s :=
  hv ▸ Ct.run H F N (widen_ct hb1 hb2 hb3 hb4 hb5 hb6 hp0 hp1 hc0 hc1 hne hoff) fun v n' h' tk' hp F' N' => by
    obtain ⟨rfl, _, _, rfl⟩ := hp
    exact ret _ _ _ _ F' N'
theorem use_least {d : Int} {t : Tok} {rest : Led} {vs : List Value} (hv : vs = [.int d t]) (F : Fr h₀ L s.heap m) (H : Here w mean mg mb 1 A h₀ L) (N : News h₀ L s.heap rest) (hb1 : 0 ≤ d) (hb2 : d < 2 ^ 60)
   (ret : ∀ h' tk' t', Fr h₀ L h' m → News h₀ L h' rest → Q (.int (2 * d) t') { s with heap := h', toks := tk' }) : wpAny (model PySem.Challenge.rw_no0058_01.row.prog w) A (call (.ref 28) vs) Q E s :=
  hv ▸ Ct.run H F N (least_ct hb1 hb2) fun v n' h' tk' hp F' N' => by
    obtain ⟨⟨_, rfl⟩, rfl⟩ := hp
    exact ret _ _ _ F' N'
theorem use_may {rn rd : Addr} {k1 k2 k3 k4 k5 k6 : Tok} {v1 v3 v4 v6 : Value} {win fl size : Int} {u2 u5 t : Tok} {rest : Led} {vs : List Value} (hv : vs = [.ref rn, .int size t]) (F : Fr h₀ L s.heap m) (H : Here w mean mg mb 1 A h₀ L)
   (N : News h₀ L s.heap ((rn, instObj 115 rd) :: (rd, rd6 w k1 k2 k3 k4 k5 k6 v1 (.int win u2) v3 v4 (.int fl u5) v6) :: rest))
   (ret : ∀ h' tk', Fr h₀ L h' m → News h₀ L h' ((rn, instObj 115 rd) :: (rd, rd6 w k1 k2 k3 k4 k5 k6 v1 (.int win u2) v3 v4 (.int fl u5) v6) :: rest) → Q (.bool (decide (fl + size ≤ win))) { s with heap := h', toks := tk' }) :
   wpAny (model PySem.Challenge.rw_no0058_01.row.prog w) A (call (.ref 49) vs) Q E s :=
  hv ▸ Ct.run H F N may_ct fun v n' h' tk' hp F' N' => by
    obtain ⟨rfl, rfl⟩ := hp
    exact ret _ _ F' N'
end

-- C2
local macro_rules | `(tactic| walk_at "uses") => `(tactic| first | with_reducible assumption | (with_reducible intro _; intros) | k_dflt (exact rfl) | k_dflt (apply Here.of <;> first | with_reducible assumption | exact rfl | ktr_room | ktr_units | assumption) | omega)
local macro_rules | `(tactic| walk_at "call ref") => `(tactic| ((with_reducible apply use_inrec) <;> walk_at "uses"))
local macro_rules | `(tactic| walk_at "call ref") => `(tactic| ((with_reducible apply use_slow) <;> walk_at "uses"))
local macro_rules | `(tactic| walk_at "call ref") => `(tactic| ((with_reducible apply use_widen) <;> walk_at "uses"))
theorem rack_ct {w : World} {mean : ExcName → Option Value} {mg mb : Str → Option Value} {rn rd : Addr} {ro : Obj} {x : Rm} {size sent now : Int} {lim : Bool} {sm : Value} {t1 t2 t3 : Tok} {rest : Led}
   (hR : RenoIs w ro x) (hb1 : 0 < x.win) (hb2 : x.win < 2 ^ 20) (hb3 : 0 ≤ x.d) (hb4 : x.d < 2 ^ 20) (hb5 : 0 ≤ size) (hb6 : size < 2 ^ 20) (hp0 : 0 ≤ x.d * size) (hp1 : x.d * size < 2 ^ 40) (hc0 : 0 ≤ x.cr) (hc1 : x.cr < 2 ^ 20) (hne : @Ne Nat rn rd) (hoff : OwnOff rest [rn, rd]) :
   Ct w mean mg mb 5 84 [.ref rn, .int size t1, .int sent t2, .bool lim, .int now t3, sm] ((rn, instObj 115 rd) :: (rd, ro) :: rest)
    (fun v news' => v = .none ∧ ∃ ro', RenoIs w ro' (rAck x size sent lim) ∧ news' = (rn, instObj 115 rd) :: (rd, ro') :: rest) := by
  unfold Ct
  k_fill
  intro dp un gd cn cs a ccd cl outer A₀ base h₀ L m s Q E B F X N T hk hd hu hret
  obtain ⟨d, win, th, rc, fl, cr⟩ := x
  obtain ⟨k1, k2, k3, k4, k5, k6, u1, u2, u3, u4, u5, u6, rfl⟩ := hR
  simp only at hb1 hb2 hb3 hb4 hp0 hp1 hc0 hc1 N
  refine wpAny_call ?_
  k_dflt cell_enter
  w_top off; k_steps
  · rename inRec _ _ = true => hr
    have e : rAck ⟨d, win, th, rc, fl, cr⟩ size sent lim = ⟨d, win, th, rc, fl - size, cr⟩ := rAck_rec (by rw [hr]; rfl)
    rename Fr _ _ _ _ => hFE
    rename News _ _ _ _ => hNE
    (try dsimp only at hFE hNE ⊢)
    refine hret _ ((rn, instObj 115 rd) :: (rd, _) :: rest) _ _ ⟨rfl, _, ?_, rfl⟩ hFE hNE
    rw [e]
    exact ⟨k1, k2, k3, k4, k5, k6, u1, _, u3, u4, _, _, rfl⟩
  · rename inRec _ _ = false => hr
    rename lim = true => hl
    rename slow _ _ = true => hs
    rename Fr _ _ _ _ => hFE
    rename News _ _ _ _ => hNE
    subst hl
    have e : rAck ⟨d, win, th, rc, fl, cr⟩ size sent true = ⟨d, win + size, th, rc, fl - size, cr⟩ := rAck_slow (by rw [hr]; rfl) hs
    (try dsimp only at hFE hNE ⊢)
    refine hret _ ((rn, instObj 115 rd) :: (rd, _) :: rest) _ _ ⟨rfl, _, ?_, rfl⟩ hFE hNE
    rw [e]
    exact ⟨k1, k2, k3, k4, k5, k6, u1, _, u3, u4, _, _, rfl⟩
  · rename inRec _ _ = false => hr
    rename lim = true => hl
    rename slow _ _ = false => hs
    rename Fr _ _ _ _ => hFE
    rename News _ _ _ _ => hNE
    subst hl
    have e : rAck ⟨d, win, th, rc, fl, cr⟩ size sent true = rWide ⟨d, win, th, rc, fl - size, cr⟩ size := rAck_wide (by rw [hr]; rfl) hs
    (try dsimp only at hFE hNE ⊢)
    refine hret _ ((rn, instObj 115 rd) :: (rd, _) :: rest) _ _ ⟨rfl, _, ?_, rfl⟩ hFE hNE
    rw [e]
    exact ⟨k1, k2, k3, k4, k5, k6, u1, _, u3, u4, _, _, rfl⟩
  · rename lim = false => hl
    rename Fr _ _ _ _ => hFE
    rename News _ _ _ _ => hNE
    subst hl
    have e : rAck ⟨d, win, th, rc, fl, cr⟩ size sent false = ⟨d, win, th, rc, fl - size, cr⟩ := rAck_rec (by cases inRec rc sent <;> rfl)
    (try dsimp only at hFE hNE ⊢)
    refine hret _ ((rn, instObj 115 rd) :: (rd, _) :: rest) _ _ ⟨rfl, _, ?_, rfl⟩ hFE hNE
    rw [e]
    exact ⟨k1, k2, k3, k4, k5, k6, u1, _, u3, u4, _, _, rfl⟩

-- C3
theorem restart_ct {w : World} {mean : ExcName → Option Value} {mg mb : Str → Option Value} {wd : Addr} {wo : Obj} {x : Wm} {to : Int} {t1 : Tok} {rest : Led}
   (hW : WorldIs w wo x) (hoff : OwnOff rest [wd]) :
   Ct w mean mg mb 2 154 [.ref wd, .int to t1] ((wd, wo) :: rest)
    (fun v news' => v = .none ∧ ∃ wo', WorldIs w wo' { x with win := to, base := to, top := 0, bot := 1, gr := false } ∧ news' = (wd, wo') :: rest) := by
  unfold Ct
  k_fill
  intro dp un gd cn cs a ccd cl outer A₀ base h₀ L m s Q E B F X N T hk hd hu hret
  obtain ⟨d, rc, th, win, base, top, bot, gr⟩ := x
  obtain ⟨kvs, hdo, hfl⟩ := hW
  unfold Wm.D at hfl
  simp only at hfl
  refine wpAny_call ?_
  k_dflt cell_enter
  w_top off; k_steps
  rename Obj.IsDictOf _ _ _ => hdE
  rename PyProof.V.FlatPairs _ _ _ => hfE
  rename Fr _ _ _ _ => hFE
  rename News _ _ _ _ => hNE
  (try dsimp only at hFE hNE ⊢)
  refine hret  _ ((wd, _) :: rest) _ _ ⟨rfl, _, ⟨_, hdE, ?_⟩, rfl⟩ hFE (drop1 hNE)
  (refine flat_of hfE ?_; kernel_rfl)
theorem or_not_false {b : Bool} : (b || !false) = true := by cases b <;> rfl
theorem or_left {b c : Bool} (h : b = true) : (b || c) = true := by rw [h]; rfl
theorem or_none {b c : Bool} (h : b = false) (h2 : c = true) : (b || !c) = false := by rw [h, h2]; rfl
theorem od_cases {v : Value} {o : Option Int} {P : Prop} (h : PyProof.V.Flat v (od o)) (h1 : o = none → v = .none → P) (h2 : ∀ i t, o = some i → v = .int i t → P) : P := by
  cases o with
  | none => exact h1 rfl h.none_inv
  | some i => 
    obtain ⟨t, ht⟩ := h.int_inv
    exact h2 i t rfl ht

section
variable {w : World} {mean : ExcName → Option Value} {mg mb : Str → Option Value} {A : Around} {h₀ : Heap} {L : Addr} {m : Str → Option Value} {s : Shared} {Q E : Value → Shared → Prop}
theorem use_restart {wd : Addr} {wo : Obj} {x : Wm} {to : Int} {t1 : Tok} {rest : Led} {vs : List Value} (hv : vs = [.ref wd, .int to t1]) (F : Fr h₀ L s.heap m) (H : Here w mean mg mb 2 A h₀ L) (N : News h₀ L s.heap ((wd, wo) :: rest))
   (hW : WorldIs w wo x) (hoff : OwnOff rest [wd])
   (ret : ∀ h' tk' wo', WorldIs w wo' { x with win := to, base := to, top := 0, bot := 1, gr := false } → Fr h₀ L h' m → News h₀ L h' ((wd, wo') :: rest) → Q .none { s with heap := h', toks := tk' }) : wpAny (model PySem.Challenge.rw_no0058_01.row.prog w) A (call (.ref 154) vs) Q E s :=
  hv ▸ Ct.run H F N (restart_ct hW hoff) fun v n' h' tk' hp F' N' => by
    obtain ⟨rfl, _, hW', rfl⟩ := hp
    exact ret _ _ _ hW' F' N'
end

-- C4
theorem grown_ct {w : World} {mean : ExcName → Option Value} {mg mb : Str → Option Value} {wd : Addr} {wo : Obj} {x : Wm} {size : Int} {t1 : Tok} {rest : Led}
   (hW : WorldIs w wo x) (hsm : (wd == sysModules) = false) (hb1 : 0 < x.win) (hb2 : x.win < 2 ^ 20) (hb3 : 0 ≤ x.d) (hb4 : x.d < 2 ^ 20) (hb5 : 0 ≤ size) (hb6 : size < 2 ^ 20) (hp0 : 0 ≤ x.d * size) (hp1 : x.d * size < 2 ^ 40) (hoff : OwnOff rest [wd]) :
   Ct w mean mg mb 2 140 [.ref wd, .int size t1] ((wd, wo) :: rest)
    (fun v news' => v = .none ∧ ∃ wo', WorldIs w wo' { x with top := x.top * x.win + x.d * size * x.bot, bot := x.bot * x.win } ∧ news' = (wd, wo') :: rest) := by
  unfold Ct
  k_fill
  intro dp un gd cn cs a ccd cl outer A₀ base h₀ L m s Q E B F X N T hk hd hu hret
  obtain ⟨d, rc, th, win, base, top, bot, gr⟩ := x
  obtain ⟨kvs, hdo, hfl⟩ := hW
  simp only [Wm.D] at hfl
  simp only at hb1 hb2 hb3 hb4 hp0 hp1
  refine wpAny_call ?_
  k_dflt cell_enter
  w_top off; k_steps
  rename Obj.IsDictOf _ _ _ => hdE
  rename PyProof.V.FlatPairs _ _ _ => hfE
  rename Fr _ _ _ _ => hFE
  rename News _ _ _ _ => hNE
  (try dsimp only at hFE hNE ⊢)
  refine hret  _ ((wd, _) :: rest) _ _ ⟨rfl, _, ⟨_, hdE, ?_⟩, rfl⟩ hFE hNE
  (refine flat_of hfE ?_; kernel_rfl)

-- C5
theorem prod_small {a b : Int} (h1 : 0 ≤ a) (h2 : a < 2 ^ 20) (h3 : 0 ≤ b) (h4 : b < 2 ^ 20) : a * b < 2 ^ 40 := by
  have h5 : a * b ≤ (2 ^ 20 - 1) * (2 ^ 20 - 1) := Int.mul_le_mul (by omega) (by omega) h3 (by omega)
  omega

theorem toB {h₀ h : Heap} {L : Addr} {a b c d : Addr × Obj} {l : Led} (N : News h₀ L h (a :: b :: c :: d :: l)) : News h₀ L h (c :: d :: a :: b :: l) := fun p hp => N p (by
  simp only [List.mem_cons] at hp ⊢
  rcases hp with h | h | h | h | h <;> simp [h])
theorem toC {h₀ h : Heap} {L : Addr} {a b : Addr × Obj} {l : Led} (N : News h₀ L h (a :: b :: l)) : News h₀ L h (b :: a :: l) := fun p hp => N p (by
  simp only [List.mem_cons] at hp ⊢
  rcases hp with h | h | h <;> simp [h])
theorem acked_off {tp wd rn rd : Addr} {rest : Led} (hne1 : @Ne Nat rn rd) (hne2 : @Ne Nat rn wd) (hne3 : @Ne Nat rd wd) (hne4 : @Ne Nat tp wd) (hne5 : @Ne Nat tp rd) (hne6 : @Ne Nat tp rn) (hoff : OwnOff rest [wd, rn, rd]) :
    (∀ o1 o2, OwnOff ((tp, o1) :: (wd, o2) :: rest) [rn, rd]) ∧ (∀ o1 o2 o3, OwnOff ((tp, o1) :: (rn, o2) :: (rd, o3) :: rest) [wd]) := by
  constructor
  · intro o1 o2 p hp b hb
    simp only [List.mem_cons, List.not_mem_nil, or_false] at hp hb
    rcases hp with rfl | rfl | hp
    · rcases hb with rfl | rfl
      · exact hne6
      · exact hne5
    · rcases hb with rfl | rfl
      · exact hne2.symm
      · exact hne3.symm
    · exact hoff p hp b (by simp [hb])
  · intro o1 o2 o3 p hp b hb
    simp only [List.mem_cons, List.not_mem_nil, or_false] at hp hb
    subst hb
    rcases hp with rfl | rfl | rfl | hp
    · exact hne4
    · exact hne2
    · exact hne3
    · exact hoff p hp b (by simp)
/-- the six values of a sender, open -/
abbrev roOf (w : World) (k1 k2 k3 k4 k5 k6 : Tok) (x : Rm) (u1 u2 u3 u4 u5 u6 : Tok) : Obj := rd6 w k1 k2 k3 k4 k5 k6 (.int x.d u1) (.int x.win u2) (ov x.th u3) (ov x.rc u4) (.int x.fl u5) (.int x.cr u6)
section
variable {w : World} {mean : ExcName → Option Value} {mg mb : Str → Option Value} {A : Around} {h₀ : Heap} {L : Addr} {m : Str → Option Value} {s : Shared} {Q E : Value → Shared → Prop}
theorem use_rack {a1 a2 : Addr} {b1 b2 : Obj} {rn rd : Addr} {ro : Obj} {x : Rm} {size sent now : Int} {lim : Bool} {sm : Value} {t1 t2 t3 : Tok} {rest : Led} {vs : List Value} (hv : vs = [.ref rn, .int size t1, .int sent t2, .bool lim, .int now t3, sm]) (F : Fr h₀ L s.heap m) (H : Here w mean mg mb 5 A h₀ L)
   (N : News h₀ L s.heap ((a1, b1) :: (a2, b2) :: (rn, instObj 115 rd) :: (rd, ro) :: rest)) (hR : RenoIs w ro x)
   (hb1 : 0 < x.win) (hb2 : x.win < 2 ^ 20) (hb3 : 0 ≤ x.d) (hb4 : x.d < 2 ^ 20) (hb5 : 0 ≤ size) (hb6 : size < 2 ^ 20) (hp0 : 0 ≤ x.d * size) (hp1 : x.d * size < 2 ^ 40) (hc0 : 0 ≤ x.cr) (hc1 : x.cr < 2 ^ 20) (hne : @Ne Nat rn rd) (hoff : ∀ o1 o2, OwnOff ((a1, o1) :: (a2, o2) :: rest) [rn, rd])
   (ret : ∀ h' tk' k1 k2 k3 k4 k5 k6 u1 u2 u3 u4 u5 u6, RenoIs w (roOf w k1 k2 k3 k4 k5 k6 (rAck x size sent lim) u1 u2 u3 u4 u5 u6) (rAck x size sent lim) → Fr h₀ L h' m →
     News h₀ L h' ((a1, b1) :: (a2, b2) :: (rn, instObj 115 rd) :: (rd, roOf w k1 k2 k3 k4 k5 k6 (rAck x size sent lim) u1 u2 u3 u4 u5 u6) :: rest) → Q .none { s with heap := h', toks := tk' }) : wpAny (model PySem.Challenge.rw_no0058_01.row.prog w) A (call (.ref 84) vs) Q E s :=
  hv ▸ Ct.run H F (toB N) (rack_ct hR hb1 hb2 hb3 hb4 hb5 hb6 hp0 hp1 hc0 hc1 hne (hoff _ _)) fun v n' h' tk' hp F' N' => by
    obtain ⟨rfl, _, hR', rfl⟩ := hp
    obtain ⟨_, _, _, _, _, _, _, _, _, _, _, _, rfl⟩ := id hR'
    exact ret _ _ _ _ _ _ _ _ _ _ _ _ _ _ hR' F' (toB N')
theorem use_restart2 {a1 a2 a3 : Addr} {b1 b2 b3 : Obj} {wd : Addr} {wo : Obj} {x : Wm} {to : Int} {t1 : Tok} {rest : Led} {vs : List Value} (hv : vs = [.ref wd, .int to t1]) (F : Fr h₀ L s.heap m) (H : Here w mean mg mb 2 A h₀ L) (N : News h₀ L s.heap ((a1, b1) :: (wd, wo) :: (a2, b2) :: (a3, b3) :: rest))
   (hW : WorldIs w wo x) (hoff : ∀ o1 o2 o3, OwnOff ((a1, o1) :: (a2, o2) :: (a3, o3) :: rest) [wd])
   (ret : ∀ h' tk' wo', WorldIs w wo' { x with win := to, base := to, top := 0, bot := 1, gr := false } → Fr h₀ L h' m → News h₀ L h' ((a1, b1) :: (wd, wo') :: (a2, b2) :: (a3, b3) :: rest) → Q .none { s with heap := h', toks := tk' }) : wpAny (model PySem.Challenge.rw_no0058_01.row.prog w) A (call (.ref 154) vs) Q E s :=
  use_restart hv F H (toC N) hW (hoff _ _ _) fun _ _ _ hW' F' N' => ret _ _ _ hW' F' (toC N')
theorem use_grown {a1 a2 a3 : Addr} {b1 b2 b3 : Obj} {wd : Addr} {wo : Obj} {d win base top bot : Int} {rc th : Option Int} {gr : Bool} {size : Int} {t1 : Tok} {rest : Led} {vs : List Value} (hv : vs = [.ref wd, .int size t1]) (F : Fr h₀ L s.heap m) (H : Here w mean mg mb 2 A h₀ L) (N : News h₀ L s.heap ((a1, b1) :: (wd, wo) :: (a2, b2) :: (a3, b3) :: rest))
   (hW : WorldIs w wo ⟨d, rc, th, win, base, top, bot, gr⟩) (hsm : (wd == sysModules) = false) (hb1 : 0 < win) (hb2 : win < 2 ^ 20) (hb3 : 0 ≤ d) (hb4 : d < 2 ^ 20) (hb5 : 0 ≤ size) (hb6 : size < 2 ^ 20) (hp0 : 0 ≤ d * size) (hp1 : d * size < 2 ^ 40) (hoff : ∀ o1 o2 o3, OwnOff ((a1, o1) :: (a2, o2) :: (a3, o3) :: rest) [wd])
   (ret : ∀ h' tk' wo' kvs, wo'.IsDictOf (strKind PySem.Challenge.rw_no0058_01.row.prog w) kvs → PyProof.V.FlatPairs PyData.str kvs [
     (.str (Str.ofString "datagram"), .int d), (.str (Str.ofString "recovery"), od rc), (.str (Str.ofString "threshold"), od th), (.str (Str.ofString "window"), .int win),
     (.str (Str.ofString "base"), .int base), (.str (Str.ofString "top"), .int (top * win + d * size * bot)), (.str (Str.ofString "bottom"), .int (bot * win)), (.str (Str.ofString "growing"), .bool gr)] →
     Fr h₀ L h' m → News h₀ L h' ((a1, b1) :: (wd, wo') :: (a2, b2) :: (a3, b3) :: rest) → Q .none { s with heap := h', toks := tk' }) : wpAny (model PySem.Challenge.rw_no0058_01.row.prog w) A (call (.ref 140) vs) Q E s :=
  hv ▸ Ct.run H F (toC N) (grown_ct hW hsm hb1 hb2 hb3 hb4 hb5 hb6 hp0 hp1 (hoff _ _ _)) fun v n' h' tk' hp F' N' => by
    obtain ⟨rfl, _, ⟨_, hD, hP⟩, rfl⟩ := hp
    exact ret _ _ _ _ hD hP F' (toC N')
end
local macro_rules | `(tactic| walk_at "call ref") => `(tactic| ((with_reducible apply use_rack) <;> walk_at "uses"))
local macro_rules | `(tactic| walk_at "call ref") => `(tactic| ((with_reducible apply use_restart2) <;> walk_at "uses"))
local macro_rules | `(tactic| walk_at "call ref") => `(tactic| ((with_reducible apply use_grown) <;> walk_at "uses"))
-- recovery and threshold: None or an int
local macro_rules | `(tactic| walk_at "subscriptTail") => `(tactic| ((with_reducible show wpAny _ _ (subscriptTail _ _ (Value.ref _) (Value.str _ _)) _ _ _); k_dflt (refine item_strTab (by k_tabat) (by rfl) ?_); (intro v' hv'); (refine od_cases hv' (fun e1' e2' => ?_) (fun i' t' e1' e2' => ?_) <;> subst e1' e2'); clear hv'))
theorem acked_ct {w : World} {mean : ExcName → Option Value} {mg mb : Str → Option Value} {rn rd wd tp : Addr} {ro wo : Obj} {x : Rm} {y : Wm} {size sent now : Int} {lim : Bool} {t1 t2 t3 : Tok} {tn : Nat} {rest : Led}
   (hR : RenoIs w ro x) (hW : WorldIs w wo y) (hsm : (wd == sysModules) = false) (e1 : y.d = x.d) (e2 : y.rc = x.rc) (e3 : y.th = x.th) (e4 : y.win = x.win)
   (hb1 : 0 < x.win) (hb2 : x.win < 2 ^ 20) (hb3 : 0 ≤ x.d) (hb4 : x.d < 2 ^ 20) (hb5 : 0 ≤ size) (hb6 : size < 2 ^ 20) (hc0 : 0 ≤ x.cr) (hc1 : x.cr < 2 ^ 20) (hbt : 0 < y.bot)
   (hne1 : @Ne Nat rn rd) (hne2 : @Ne Nat rn wd) (hne3 : @Ne Nat rd wd) (hne4 : @Ne Nat tp wd) (hne5 : @Ne Nat tp rd) (hne6 : @Ne Nat tp rn) (hoff : OwnOff rest [wd, rn, rd]) :
   Ct w mean mg mb 6 168 [.ref wd, .ref rn, .ref tp, .bool lim, .int now t3] ((tp, tupOf (.int size t1) (.int sent t2) tn) :: (wd, wo) :: (rn, instObj 115 rd) :: (rd, ro) :: rest)
    (fun v news' => v = .none ∧ ∃ ro' wo', RenoIs w ro' (rAck x size sent lim) ∧ WorldIs w wo' (wAck y (rAck x size sent lim).win size sent lim) ∧ news' = (tp, tupOf (.int size t1) (.int sent t2) tn) :: (wd, wo') :: (rn, instObj 115 rd) :: (rd, ro') :: rest) := by
  unfold Ct
  k_fill
  intro dp un gd cn cs a ccd cl outer A₀ base h₀ L m s Q E B F X N T hk hd hu hret
  obtain ⟨d, win, th, rc, fl, cr⟩ := x
  obtain ⟨d', rc', th', win', base', top, bot, gr⟩ := y
  simp only at hb1 hb2 hb3 hb4 hb5 hb6 hc0 hc1 hbt e1 e2 e3 e4
  subst e1 e2 e3 e4
  have hp0 : 0 ≤ d' * size := Int.mul_nonneg hb3 hb5
  have hp1 : d' * size < 2 ^ 40 := prod_small hb3 hb4 hb5 hb6
  obtain ⟨hoR, hoW⟩ := acked_off hne1 hne2 hne3 hne4 hne5 hne6 hoff
  have hWW := hW
  obtain ⟨kvs, hdo, hfl⟩ := hW
  have hRR := hR
  obtain ⟨k1, k2, k3, k4, k5, k6, u1, u2, u3, u4, u5, u6, rfl⟩ := hR
  simp only [tupOf] at N hret
  simp only [Wm.D] at hfl
  refine wpAny_call ?_
  k_dflt cell_enter
  w_top off; k_steps
  · rename lim = true => hl
    rename RenoIs _ _ _ => hRE
    rename WorldIs _ _ _ => hWE
    rename Fr _ _ _ _ => hFE
    rename News _ _ _ _ => hNE
    (try dsimp only at hFE hNE ⊢)
    refine hret _ ((tp, _) :: (wd, _) :: (rn, instObj 115 rd) :: (rd, _) :: rest) _ _ ⟨rfl, _, _, hRE, ?_, rfl⟩ hFE hNE
    rw [wAck_slow]
    exact hWE
    exact or_none (rfl) hl
    exact rfl
  · rename lim = true => hl
    rename win' < _ => hlt
    rename RenoIs _ _ _ => hRE
    rename WorldIs _ _ _ => hWE
    rename Fr _ _ _ _ => hFE
    rename News _ _ _ _ => hNE
    (try dsimp only at hFE hNE ⊢)
    refine hret _ ((tp, _) :: (wd, _) :: (rn, instObj 115 rd) :: (rd, _) :: rest) _ _ ⟨rfl, _, _, hRE, ?_, rfl⟩ hFE hNE
    rw [wAck_slow]
    exact hWE
    exact or_none (rfl) hl
    exact decide_eq_true hlt
  · rename lim = true => hl
    rename ¬ win' < _ => hlt
    rename RenoIs _ _ _ => hRE
    rename Obj.IsDictOf _ _ _ => hdE
    rename PyProof.V.FlatPairs _ _ _ => hfE
    rename Fr _ _ _ _ => hFE
    rename News _ _ _ _ => hNE
    (try dsimp only at hFE hNE ⊢)
    refine hret _ ((tp, _) :: (wd, _) :: (rn, instObj 115 rd) :: (rd, _) :: rest) _ _ ⟨rfl, _, _, hRE, ?_, rfl⟩ hFE (drop1 hNE)
    rw [wAck_wide]
    exact ⟨_, hdE, flat_of hfE (by kernel_rfl)⟩
    exact or_none (rfl) hl
    exact decide_eq_false hlt
  · rename lim = false => hl
    rename RenoIs _ _ _ => hRE
    rename WorldIs _ _ _ => hWE
    rename Fr _ _ _ _ => hFE
    rename News _ _ _ _ => hNE
    (try dsimp only at hFE hNE ⊢)
    refine hret _ ((tp, _) :: (wd, _) :: (rn, instObj 115 rd) :: (rd, _) :: rest) _ _ ⟨rfl, _, _, hRE, ?_, rfl⟩ hFE hNE
    rw [wAck_rec]
    exact hWE
    exact (by rw [hl]; exact or_not_false)
  · rename sent ≤ _ => hle
    rename RenoIs _ _ _ => hRE
    rename WorldIs _ _ _ => hWE
    rename Fr _ _ _ _ => hFE
    rename News _ _ _ _ => hNE
    (try dsimp only at hFE hNE ⊢)
    refine hret _ ((tp, _) :: (wd, _) :: (rn, instObj 115 rd) :: (rd, _) :: rest) _ _ ⟨rfl, _, _, hRE, ?_, rfl⟩ hFE hNE
    rw [wAck_rec]
    exact hWE
    exact (or_left (decide_eq_true hle))
  · rename lim = true => hl
    rename ¬ sent ≤ _ => hle
    rename RenoIs _ _ _ => hRE
    rename WorldIs _ _ _ => hWE
    rename Fr _ _ _ _ => hFE
    rename News _ _ _ _ => hNE
    (try dsimp only at hFE hNE ⊢)
    refine hret _ ((tp, _) :: (wd, _) :: (rn, instObj 115 rd) :: (rd, _) :: rest) _ _ ⟨rfl, _, _, hRE, ?_, rfl⟩ hFE hNE
    rw [wAck_slow]
    exact hWE
    exact or_none (decide_eq_false hle) hl
    exact rfl
  · rename lim = true => hl
    rename ¬ sent ≤ _ => hle
    rename win' < _ => hlt
    rename RenoIs _ _ _ => hRE
    rename WorldIs _ _ _ => hWE
    rename Fr _ _ _ _ => hFE
    rename News _ _ _ _ => hNE
    (try dsimp only at hFE hNE ⊢)
    refine hret _ ((tp, _) :: (wd, _) :: (rn, instObj 115 rd) :: (rd, _) :: rest) _ _ ⟨rfl, _, _, hRE, ?_, rfl⟩ hFE hNE
    rw [wAck_slow]
    exact hWE
    exact or_none (decide_eq_false hle) hl
    exact decide_eq_true hlt
  · rename lim = true => hl
    rename ¬ sent ≤ _ => hle
    rename ¬ win' < _ => hlt
    rename RenoIs _ _ _ => hRE
    rename Obj.IsDictOf _ _ _ => hdE
    rename PyProof.V.FlatPairs _ _ _ => hfE
    rename Fr _ _ _ _ => hFE
    rename News _ _ _ _ => hNE
    (try dsimp only at hFE hNE ⊢)
    refine hret _ ((tp, _) :: (wd, _) :: (rn, instObj 115 rd) :: (rd, _) :: rest) _ _ ⟨rfl, _, _, hRE, ?_, rfl⟩ hFE (drop1 hNE)
    rw [wAck_wide]
    exact ⟨_, hdE, flat_of hfE (by kernel_rfl)⟩
    exact or_none (decide_eq_false hle) hl
    exact decide_eq_false hlt
  · rename lim = false => hl
    rename ¬ sent ≤ _ => hle
    rename RenoIs _ _ _ => hRE
    rename WorldIs _ _ _ => hWE
    rename Fr _ _ _ _ => hFE
    rename News _ _ _ _ => hNE
    (try dsimp only at hFE hNE ⊢)
    refine hret _ ((tp, _) :: (wd, _) :: (rn, instObj 115 rd) :: (rd, _) :: rest) _ _ ⟨rfl, _, _, hRE, ?_, rfl⟩ hFE hNE
    rw [wAck_rec]
    exact hWE
    exact (by rw [hl]; exact or_not_false)

-- T2
theorem wcong_in {x : Wm} {sent now r : Int} (e : x.rc = some r) (h : sent ≤ r) : wCong x sent now = x := by
  unfold wCong
  rw [e]
  exact if_pos h
theorem wcong_out {x : Wm} {sent now : Int} (h : ∀ r, x.rc = some r → ¬ sent ≤ r) : wCong x sent now = wNew x now := by
  obtain ⟨d, rc, th, win, base, top, bot, gr⟩ := x
  cases rc with
  | none => rfl
  | some r => exact if_neg (h r rfl)
section
variable {w : World} {mean : ExcName → Option Value} {mg mb : Str → Option Value} {A : Around} {h₀ : Heap} {L : Addr} {m : Str → Option Value} {s : Shared} {Q E : Value → Shared → Prop}
theorem use_wcut {D' wd : Addr} {o wo : Obj} {kvs : List (Str × Value)} {a b d win base top bot : Int} {rc th : Option Int} {gr : Bool} {to : Int} {t1 : Tok} {rest : Led} {vs : List Value} (hv : vs = [.ref wd, .int to t1]) (F : Fr h₀ L s.heap m) (H : Here w mean mg mb 2 A h₀ L) (N : News h₀ L s.heap ((D', o) :: (wd, wo) :: rest))
   (hD : wo.IsDictOf (strKind PySem.Challenge.rw_no0058_01.row.prog w) kvs) (hP : PyProof.V.FlatPairs PyData.str kvs (PyProof.V.putD (.str (Str.ofString "threshold")) (.int a) (PyProof.V.putD (.str (Str.ofString "recovery")) (.int b) [
     (.str (Str.ofString "datagram"), .int d), (.str (Str.ofString "recovery"), od rc), (.str (Str.ofString "threshold"), od th), (.str (Str.ofString "window"), .int win),
     (.str (Str.ofString "base"), .int base), (.str (Str.ofString "top"), .int top), (.str (Str.ofString "bottom"), .int bot), (.str (Str.ofString "growing"), .bool gr)]))) (hoff : OwnOff rest [wd])
   (ret : ∀ h' tk' wo', WorldIs w wo' ⟨d, some b, some a, to, to, 0, 1, false⟩ → Fr h₀ L h' m → News h₀ L h' ((wd, wo') :: rest) → Q .none { s with heap := h', toks := tk' }) : wpAny (model PySem.Challenge.rw_no0058_01.row.prog w) A (call (.ref 154) vs) Q E s :=
  use_restart (x := ⟨d, some b, some a, win, base, top, bot, gr⟩) hv F H (drop1 N) ⟨_, hD, flat_of hP (by kernel_rfl)⟩ hoff ret
end
local macro_rules | `(tactic| walk_at "call ref") => `(tactic| ((with_reducible apply use_wcut) <;> walk_at "uses"))
theorem wcong_ct {w : World} {mean : ExcName → Option Value} {mg mb : Str → Option Value} {wd : Addr} {wo : Obj} {x : Wm} {sent now : Int} {t1 t2 : Tok} {rest : Led}
   (hW : WorldIs w wo x) (hsm : (wd == sysModules) = false) (hb1 : 0 ≤ x.win) (hb2 : x.win < 2 ^ 60) (hb3 : 0 ≤ x.d) (hb4 : x.d < 2 ^ 60) (hoff : OwnOff rest [wd]) :
   Ct w mean mg mb 4 161 [.ref wd, .int sent t1, .int now t2] ((wd, wo) :: rest)
    (fun v news' => v = .none ∧ ∃ wo', WorldIs w wo' (wCong x sent now) ∧ news' = (wd, wo') :: rest) := by
  unfold Ct
  k_fill
  intro dp un gd cn cs a ccd cl outer A₀ base h₀ L m s Q E B F X N T hk hd hu hret
  obtain ⟨d, rc, th, win, base, top, bot, gr⟩ := x
  obtain ⟨kvs, hdo, hfl⟩ := hW
  simp only at hb1 hb2 hb3 hb4
  simp only [Wm.D] at hfl
  refine wpAny_call ?_
  k_dflt cell_enter
  w_top off; k_steps
  · rename WorldIs _ _ _ => hWE
    rename Fr _ _ _ _ => hFE
    rename News _ _ _ _ => hNE
    (try dsimp only at hFE hNE ⊢)
    refine hret  _ ((wd, _) :: rest) _ _ ⟨rfl, _, ?_, rfl⟩ hFE hNE
    rw [wcong_out]
    exact hWE
    intro r h
    cases h
  · rename sent ≤ _ => hle
    rename Fr _ _ _ _ => hFE
    rename News _ _ _ _ => hNE
    (try dsimp only at hFE hNE ⊢)
    refine hret  _ ((wd, _) :: rest) _ _ ⟨rfl, _, ?_, rfl⟩ hFE hNE
    rw [wcong_in rfl hle]
    exact ⟨_, hdo, by assumption⟩
  · rename ¬ sent ≤ _ => hle
    rename WorldIs _ _ _ => hWE
    rename Fr _ _ _ _ => hFE
    rename News _ _ _ _ => hNE
    (try dsimp only at hFE hNE ⊢)
    refine hret  _ ((wd, _) :: rest) _ _ ⟨rfl, _, ?_, rfl⟩ hFE hNE
    rw [wcong_out]
    exact hWE
    intro r h
    cases h
    exact hle

-- T3
local macro_rules | `(tactic| walk_at "call ref") => `(tactic| ((with_reducible apply use_least) <;> walk_at "uses"))
theorem rcong_in {x : Rm} {sent now : Int} (h : inRec x.rc sent = true) : rCong x sent now = x := by
  obtain ⟨d, win, th, rc, fl, cr⟩ := x
  cases rc with
  | none => exact absurd h Bool.false_ne_true
  | some r => exact if_pos (of_decide_eq_true h)
theorem rcong_out {x : Rm} {sent now : Int} (h : inRec x.rc sent = false) : rCong x sent now = rNew x now := by
  obtain ⟨d, win, th, rc, fl, cr⟩ := x
  cases rc with
  | none => rfl
  | some r => exact if_neg (of_decide_eq_false h)
theorem rcong_ct {w : World} {mean : ExcName → Option Value} {mg mb : Str → Option Value} {rn rd : Addr} {ro : Obj} {x : Rm} {sent now : Int} {t1 t2 : Tok} {rest : Led}
   (hR : RenoIs w ro x) (hb1 : 0 ≤ x.win) (hb2 : x.win < 2 ^ 60) (hb3 : 0 ≤ x.d) (hb4 : x.d < 2 ^ 60) (hne : @Ne Nat rn rd) (hoff : OwnOff rest [rn, rd]) :
   Ct w mean mg mb 4 98 [.ref rn, .int sent t1, .int now t2] ((rn, instObj 115 rd) :: (rd, ro) :: rest)
    (fun v news' => v = .none ∧ ∃ ro', RenoIs w ro' (rCong x sent now) ∧ news' = (rn, instObj 115 rd) :: (rd, ro') :: rest) := by
  unfold Ct
  k_fill
  intro dp un gd cn cs a ccd cl outer A₀ base h₀ L m s Q E B F X N T hk hd hu hret
  obtain ⟨d, win, th, rc, fl, cr⟩ := x
  obtain ⟨k1, k2, k3, k4, k5, k6, u1, u2, u3, u4, u5, u6, rfl⟩ := hR
  simp only at hb1 hb2 hb3 hb4 N
  refine wpAny_call ?_
  k_dflt cell_enter
  w_top off; k_steps
  · rename inRec _ _ = true => hr
    have e : rCong ⟨d, win, th, rc, fl, cr⟩ sent now = ⟨d, win, th, rc, fl, cr⟩ := rcong_in hr
    rename Fr _ _ _ _ => hFE
    rename News _ _ _ _ => hNE
    (try dsimp only at hFE hNE ⊢)
    refine hret  _ ((rn, instObj 115 rd) :: (rd, _) :: rest) _ _ ⟨rfl, _, ?_, rfl⟩ hFE hNE
    rw [e]
    exact ⟨k1, k2, k3, k4, k5, k6, u1, _, _, _, u5, _, rfl⟩
  · rename inRec _ _ = false => hr
    have e : rCong ⟨d, win, th, rc, fl, cr⟩ sent now = rNew ⟨d, win, th, rc, fl, cr⟩ now := rcong_out hr
    rename Fr _ _ _ _ => hFE
    rename News _ _ _ _ => hNE
    (try dsimp only at hFE hNE ⊢)
    refine hret  _ ((rn, instObj 115 rd) :: (rd, _) :: rest) _ _ ⟨rfl, _, ?_, rfl⟩ hFE hNE
    rw [e]
    exact ⟨k1, k2, k3, k4, k5, k6, u1, _, _, _, u5, _, rfl⟩
section
variable {w : World} {mean : ExcName → Option Value} {mg mb : Str → Option Value} {A : Around} {h₀ : Heap} {L : Addr} {m : Str → Option Value} {s : Shared} {Q E : Value → Shared → Prop}
theorem use_rcong {rn rd : Addr} {ro : Obj} {x : Rm} {sent now : Int} {t1 t2 : Tok} {rest : Led} {vs : List Value} (hv : vs = [.ref rn, .int sent t1, .int now t2]) (F : Fr h₀ L s.heap m) (H : Here w mean mg mb 4 A h₀ L)
   (N : News h₀ L s.heap ((rn, instObj 115 rd) :: (rd, ro) :: rest))
   (hR : RenoIs w ro x) (hb1 : 0 ≤ x.win) (hb2 : x.win < 2 ^ 60) (hb3 : 0 ≤ x.d) (hb4 : x.d < 2 ^ 60) (hne : @Ne Nat rn rd) (hoff : OwnOff rest [rn, rd])
   (ret : ∀ h' tk' ro', RenoIs w ro' (rCong x sent now) → Fr h₀ L h' m → News h₀ L h' ((rn, instObj 115 rd) :: (rd, ro') :: rest) → Q .none { s with heap := h', toks := tk' }) :
   wpAny (model PySem.Challenge.rw_no0058_01.row.prog w) A (call (.ref 98) vs) Q E s :=
  hv ▸ Ct.run H F N (rcong_ct hR hb1 hb2 hb3 hb4 hne hoff) fun v n' h' tk' hp F' N' => by
    obtain ⟨rfl, _, hR', rfl⟩ := hp
    exact ret _ _ _ hR' F' N'
end

-- T4
section
variable {w : World} {mean : ExcName → Option Value} {mg mb : Str → Option Value} {A : Around} {h₀ : Heap} {L : Addr} {m : Str → Option Value} {s : Shared} {Q E : Value → Shared → Prop}
theorem use_rcong6 {rn rd : Addr} {k1 k2 k3 k4 k5 k6 : Tok} {d win fl cr : Int} {th rc : Option Int} {u1 u2 u3 u4 u5 u6 : Tok} {sent now : Int} {t1 t2 : Tok} {rest : Led} {vs : List Value} (hv : vs = [.ref rn, .int sent t1, .int now t2]) (F : Fr h₀ L s.heap m) (H : Here w mean mg mb 4 A h₀ L)
   (N : News h₀ L s.heap ((rn, instObj 115 rd) :: (rd, rd6 w k1 k2 k3 k4 k5 k6 (.int d u1) (.int win u2) (ov th u3) (ov rc u4) (.int fl u5) (.int cr u6)) :: rest))
   (hb1 : 0 ≤ win) (hb2 : win < 2 ^ 60) (hb3 : 0 ≤ d) (hb4 : d < 2 ^ 60) (hne : @Ne Nat rn rd) (hoff : OwnOff rest [rn, rd])
   (ret : ∀ h' tk' ro', RenoIs w ro' (rCong ⟨d, win, th, rc, fl, cr⟩ sent now) → Fr h₀ L h' m → News h₀ L h' ((rn, instObj 115 rd) :: (rd, ro') :: rest) → Q .none { s with heap := h', toks := tk' }) :
   wpAny (model PySem.Challenge.rw_no0058_01.row.prog w) A (call (.ref 98) vs) Q E s :=
  use_rcong hv F H N (x := ⟨d, win, th, rc, fl, cr⟩) ⟨_, _, _, _, _, _, _, _, _, _, _, _, rfl⟩ hb1 hb2 hb3 hb4 hne hoff ret
end
local macro_rules | `(tactic| walk_at "call ref") => `(tactic| ((with_reducible apply use_rcong6) <;> walk_at "uses"))
theorem lost_ct {w : World} {mean : ExcName → Option Value} {mg mb : Str → Option Value} {rn rd : Addr} {ro : Obj} {x : Rm} {size sent now : Int} {t1 t2 t3 : Tok} {rest : Led}
   (hR : RenoIs w ro x) (hb1 : 0 ≤ x.win) (hb2 : x.win < 2 ^ 60) (hb3 : 0 ≤ x.d) (hb4 : x.d < 2 ^ 60) (hne : @Ne Nat rn rd) (hoff : OwnOff rest [rn, rd]) :
   Ct w mean mg mb 5 105 [.ref rn, .int size t3, .int sent t1, .int now t2] ((rn, instObj 115 rd) :: (rd, ro) :: rest)
    (fun v news' => v = .none ∧ ∃ ro', RenoIs w ro' (rCong { x with fl := x.fl - size } sent now) ∧ news' = (rn, instObj 115 rd) :: (rd, ro') :: rest) := by
  unfold Ct
  k_fill
  intro dp un gd cn cs a ccd cl outer A₀ base h₀ L m s Q E B F X N T hk hd hu hret
  obtain ⟨d, win, th, rc, fl, cr⟩ := x
  obtain ⟨k1, k2, k3, k4, k5, k6, u1, u2, u3, u4, u5, u6, rfl⟩ := hR
  simp only at hb1 hb2 hb3 hb4 N
  refine wpAny_call ?_
  k_dflt cell_enter
  w_top off; k_steps
  rename RenoIs _ _ _ => hRE
  rename Fr _ _ _ _ => hFE
  rename News _ _ _ _ => hNE
  (try dsimp only at hFE hNE ⊢)
  exact hret  _ ((rn, instObj 115 rd) :: (rd, _) :: rest) _ _ ⟨rfl, _, hRE, rfl⟩ hFE hNE

-- T6
theorem noPy {a b : Int} (h0 : 0 < b) (h : b < 2 ^ 200) : Builtin.divisionGoesByPylong a b = false := by
  refine PyProof.noPylong_of_log2 ?_
  have h1 : b.natAbs < 2 ^ 200 := by omega
  have h2 : b.natAbs ≠ 0 := by omega
  have h3 := (Nat.log2_lt h2).mpr h1
  omega
local macro_rules | `(tactic| walk_at "binaryOp FloorDiv int int") => `(tactic| (with_reducible refine floordiv_int (by assumption) ?_ (Or.inl (noPy (by assumption) (by assumption)))))
theorem fits_ct {w : World} {mean : ExcName → Option Value} {mg mb : Str → Option Value} {rn rd wd : Addr} {ro wo : Obj} {x : Rm} {y : Wm} {rest : Led}
   (hR : RenoIs w ro x) (hW : WorldIs w wo y) (hsm : (wd == sysModules) = false) (e4 : y.win = x.win) (hbt : 0 < y.bot) (hbb : y.bot < 2 ^ 200)
   (hg : y.gr = true → y.base + y.top.fdiv y.bot - 2 ≤ x.win ∧ x.win ≤ y.base + y.top.fdiv y.bot)
   (hne1 : @Ne Nat rn rd) (hne2 : @Ne Nat rn wd) (hne3 : @Ne Nat rd wd) (hoff : OwnOff rest [wd, rn, rd]) :
   Ct w mean mg mb 3 147 [.ref wd, .ref rn] ((wd, wo) :: (rn, instObj 115 rd) :: (rd, ro) :: rest)
    (fun v news' => v = .bool true ∧ news' = (wd, wo) :: (rn, instObj 115 rd) :: (rd, ro) :: rest) := by
  unfold Ct
  k_fill
  intro dp un gd cn cs a ccd cl outer A₀ base h₀ L m s Q E B F X N T hk hd hu hret
  obtain ⟨d, win, th, rc, fl, cr⟩ := x
  obtain ⟨d', rc', th', win', base', top, bot, gr⟩ := y
  simp only at e4 hbt hbb hg
  subst e4
  obtain ⟨k1, k2, k3, k4, k5, k6, u1, u2, u3, u4, u5, u6, rfl⟩ := hR
  obtain ⟨kvs, hdo, hfl⟩ := hW
  simp only at N hret
  simp only [Wm.D] at hfl
  cases gr with
  | false =>
    clear hg
    refine wpAny_call ?_
    k_dflt cell_enter
    k_steps
    rename Fr _ _ _ _ => hFE
    rename News _ _ _ _ => hNE
    (try dsimp only at hFE hNE ⊢)
    rw [show (win' == win') = true from beq_self_eq_true win']
    exact hret _ _ _ _ ⟨rfl, rfl⟩ hFE hNE
  | true => 
    obtain ⟨hg1, hg2⟩ := hg rfl
    clear hg
    have hb0 : bot ≠ 0 := by omega
    refine wpAny_call ?_
    k_dflt cell_enter
    k_steps
    rename Fr _ _ _ _ => hFE
    rename News _ _ _ _ => hNE
    (try dsimp only at hFE hNE ⊢)
    rw [decide_eq_true hg2]
    exact hret _ _ _ _ ⟨rfl, rfl⟩ hFE hNE

-- U
theorem pers_ct {w : World} {mean : ExcName → Option Value} {mg mb : Str → Option Value} {rn rd : Addr} {ro : Obj} {x : Rm} {rest : Led}
   (hR : RenoIs w ro x) (hb3 : 0 ≤ x.d) (hb4 : x.d < 2 ^ 60) (hne : @Ne Nat rn rd) (hoff : OwnOff rest [rn, rd]) :
   Ct w mean mg mb 2 112 [.ref rn] ((rn, instObj 115 rd) :: (rd, ro) :: rest)
    (fun v news' => v = .none ∧ ∃ ro', RenoIs w ro' { x with win := 2 * x.d, rc := none, cr := 0 } ∧ news' = (rn, instObj 115 rd) :: (rd, ro') :: rest) := by
  unfold Ct
  k_fill
  intro dp un gd cn cs a ccd cl outer A₀ base h₀ L m s Q E B F X N T hk hd hu hret
  obtain ⟨d, win, th, rc, fl, cr⟩ := x
  obtain ⟨k1, k2, k3, k4, k5, k6, u1, u2, u3, u4, u5, u6, rfl⟩ := hR
  simp only at hb3 hb4 N
  refine wpAny_call ?_
  k_dflt cell_enter
  w_top off; k_steps
  rename Fr _ _ _ _ => hFE
  rename News _ _ _ _ => hNE
  (try dsimp only at hFE hNE ⊢)
  refine hret  _ ((rn, instObj 115 rd) :: (rd, _) :: rest) _ _ ⟨rfl, _, ?_, rfl⟩ hFE hNE
  exact ⟨k1, k2, k3, k4, k5, k6, u1, _, u3, 0, u5, _, rfl⟩

/-- two places that are not one; not seen by omega -/
def Apart (a b : Nat) : Prop := a ≠ b
theorem Apart.ne {a b : Nat} (h : Apart a b) : a ≠ b := h
theorem Apart.ne' {a b : Nat} (h : Apart b a) : a ≠ b := Ne.symm h
theorem Six.apart {bx ls ot wd rn rd : Nat} (h : Six bx ls ot wd rn rd) : Apart bx ls ∧ Apart bx ot ∧ Apart bx wd ∧ Apart bx rn ∧ Apart bx rd ∧ Apart ls ot ∧ Apart ls wd ∧ Apart ls rn ∧ Apart ls rd ∧ Apart ot wd ∧ Apart ot rn ∧ Apart ot rd ∧ Apart wd rn ∧ Apart wd rd ∧ Apart rn rd := h
section
variable {w : World} {mean : ExcName → Option Value} {mg mb : Str → Option Value} {A : Around} {h₀ : Heap} {L : Addr} {m : Str → Option Value} {s : Shared} {Q E : Value → Shared → Prop}
theorem use_take {bx ls ot wd rn rd : Addr} {tl : Led} {seed wide : Int} {ts tw : Tok} {nb nl : Nat} {lvs : List Value} {lst : List Int} {oo wo ro o3 : Obj} {vs : List Value} (hv : vs = [.ref bx, .int wide tw]) (F : Fr h₀ L s.heap m) (H : Here w mean mg mb 1 A h₀ L)
   (N : News h₀ L s.heap ((bx, listOf #[.ref ls, .int seed ts] nb) :: (ls, listOf lvs.toArray nl) :: (ot, oo) :: (wd, wo) :: (rn, o3) :: (rd, ro) :: tl)) (hA : Apt bx ls ot wd rn rd tl) (hi : IntsAre lvs lst) (hlen : lst.length ≤ 24) (hs0 : 0 ≤ seed) (hs1 : seed < 2147483647) (hw : 0 < wide) (hw2 : wide < 2 ^ 60)
   (ret : ∀ h' tk' r t seed' ts' nb' nl' lvs' lst', Drawn r wide → IntsAre lvs' lst' → lst'.length ≤ 24 → 0 ≤ seed' → seed' < 2147483647 → Fr h₀ L h' m →
     News h₀ L h' ((bx, listOf #[.ref ls, .int seed' ts'] nb') :: (ls, listOf lvs'.toArray nl') :: (ot, oo) :: (wd, wo) :: (rn, o3) :: (rd, ro) :: tl) → Q (.int r t) { s with heap := h', toks := tk' }) :
   wpAny (model PySem.Challenge.rw_no0058_01.row.prog w) A (call (.ref 126) vs) Q E s :=
  hv ▸ Ct.run H F N (take_ct hi hlen hs0 hs1 hw hw2 hA.bl (hA.box _ _ _ _)) fun v n' h' tk' hp F' N' => by
    obtain ⟨_, _, _, _, _, _, _, _, rfl, g1, g2, g3, g4, g5, g6, rfl⟩ := hp
    exact ret _ _ _ _ _ _ _ _ _ _ ⟨g1, g2⟩ g3 g4 g5 g6 F' N'
theorem use_wcong {bx ls ot wd rn rd : Addr} {tl : Led} {ob ol oo wo ro : Obj} {y : Wm} {sent now : Int} {t1 t2 : Tok} {vs : List Value} (hv : vs = [.ref wd, .int sent t1, .int now t2]) (F : Fr h₀ L s.heap m) (H : Here w mean mg mb 4 A h₀ L)
   (N : News h₀ L s.heap ((bx, ob) :: (ls, ol) :: (ot, oo) :: (wd, wo) :: (rn, instObj 115 rd) :: (rd, ro) :: tl)) (hA : Apt bx ls ot wd rn rd tl) (hW : WorldIs w wo y) (hsm : (wd == sysModules) = false) (hb1 : 0 ≤ y.win) (hb2 : y.win < 2 ^ 60) (hb3 : 0 ≤ y.d) (hb4 : y.d < 2 ^ 60)
   (ret : ∀ h' tk' wo', WorldIs w wo' (wCong y sent now) → Fr h₀ L h' m → News h₀ L h' ((bx, ob) :: (ls, ol) :: (ot, oo) :: (wd, wo') :: (rn, instObj 115 rd) :: (rd, ro) :: tl) → Q .none { s with heap := h', toks := tk' }) :
   wpAny (model PySem.Challenge.rw_no0058_01.row.prog w) A (call (.ref 161) vs) Q E s :=
  hv ▸ Ct.run H F (toW N) (wcong_ct hW hsm hb1 hb2 hb3 hb4 (hA.wld _ _ _ _ _)) fun v n' h' tk' hp F' N' => by
    obtain ⟨rfl, _, hW', rfl⟩ := hp
    exact ret _ _ _ hW' F' (ofW N')
theorem use_lost {bx ls ot wd rn rd : Addr} {tl : Led} {ob ol oo wo ro : Obj} {x : Rm} {size sent now : Int} {t1 t2 t3 : Tok} {vs : List Value} (hv : vs = [.ref rn, .int size t3, .int sent t1, .int now t2]) (F : Fr h₀ L s.heap m) (H : Here w mean mg mb 5 A h₀ L)
   (N : News h₀ L s.heap ((bx, ob) :: (ls, ol) :: (ot, oo) :: (wd, wo) :: (rn, instObj 115 rd) :: (rd, ro) :: tl)) (hA : Apt bx ls ot wd rn rd tl) (hR : RenoIs w ro x) (hb1 : 0 < x.win) (hb2 : x.win < 2 ^ 20) (hb3 : 0 ≤ x.d) (hb4 : x.d < 2 ^ 20)
   (ret : ∀ h' tk' ro', RenoIs w ro' (rCong { x with fl := x.fl - size } sent now) → Fr h₀ L h' m → News h₀ L h' ((bx, ob) :: (ls, ol) :: (ot, oo) :: (wd, wo) :: (rn, instObj 115 rd) :: (rd, ro') :: tl) → Q .none { s with heap := h', toks := tk' }) :
   wpAny (model PySem.Challenge.rw_no0058_01.row.prog w) A (call (.ref 105) vs) Q E s :=
  hv ▸ Ct.run H F (toR N) (lost_ct hR (by omega) (by omega) (by omega) (by omega) hA.rr (hA.ren _ _ _ _)) fun v n' h' tk' hp F' N' => by
    obtain ⟨rfl, _, hR', rfl⟩ := hp
    exact ret _ _ _ hR' F' (ofR N')
theorem use_rcong0 {bx ls ot wd rn rd : Addr} {tl : Led} {ob ol oo wo ro : Obj} {x : Rm} {sent now : Int} {t1 t2 : Tok} {vs : List Value} (hv : vs = [.ref rn, .int sent t1, .int now t2]) (F : Fr h₀ L s.heap m) (H : Here w mean mg mb 4 A h₀ L)
   (N : News h₀ L s.heap ((bx, ob) :: (ls, ol) :: (ot, oo) :: (wd, wo) :: (rn, instObj 115 rd) :: (rd, ro) :: tl)) (hA : Apt bx ls ot wd rn rd tl) (hR : RenoIs w ro x) (hb1 : 0 < x.win) (hb2 : x.win < 2 ^ 20) (hb3 : 0 ≤ x.d) (hb4 : x.d < 2 ^ 20)
   (ret : ∀ h' tk' ro', RenoIs w ro' (rCong x sent now) → Fr h₀ L h' m → News h₀ L h' ((bx, ob) :: (ls, ol) :: (ot, oo) :: (wd, wo) :: (rn, instObj 115 rd) :: (rd, ro') :: tl) → Q .none { s with heap := h', toks := tk' }) :
   wpAny (model PySem.Challenge.rw_no0058_01.row.prog w) A (call (.ref 98) vs) Q E s :=
  hv ▸ Ct.run H F (toR N) (rcong_ct hR (by omega) (by omega) (by omega) (by omega) hA.rr (hA.ren _ _ _ _)) fun v n' h' tk' hp F' N' => by
    obtain ⟨rfl, _, hR', rfl⟩ := hp
    exact ret _ _ _ hR' F' (ofR N')
theorem use_pers {bx ls ot wd rn rd : Addr} {tl : Led} {ob ol oo wo ro : Obj} {x : Rm} {vs : List Value} (hv : vs = [.ref rn]) (F : Fr h₀ L s.heap m) (H : Here w mean mg mb 2 A h₀ L)
   (N : News h₀ L s.heap ((bx, ob) :: (ls, ol) :: (ot, oo) :: (wd, wo) :: (rn, instObj 115 rd) :: (rd, ro) :: tl)) (hA : Apt bx ls ot wd rn rd tl) (hR : RenoIs w ro x) (hb3 : 0 ≤ x.d) (hb4 : x.d < 2 ^ 20)
   (ret : ∀ h' tk' ro', RenoIs w ro' { x with win := 2 * x.d, rc := none, cr := 0 } → Fr h₀ L h' m → News h₀ L h' ((bx, ob) :: (ls, ol) :: (ot, oo) :: (wd, wo) :: (rn, instObj 115 rd) :: (rd, ro') :: tl) → Q .none { s with heap := h', toks := tk' }) :
   wpAny (model PySem.Challenge.rw_no0058_01.row.prog w) A (call (.ref 112) vs) Q E s :=
  hv ▸ Ct.run H F (toR N) (pers_ct hR (by omega) (by omega) hA.rr (hA.ren _ _ _ _)) fun v n' h' tk' hp F' N' => by
    obtain ⟨rfl, _, hR', rfl⟩ := hp
    exact ret _ _ _ hR' F' (ofR N')
theorem use_prest {bx ls ot wd rn rd : Addr} {tl : Led} {ob ol oo wo ro : Obj} {kvs : List (Str × Value)} {d win base top bot : Int} {rc th : Option Int} {gr : Bool} {to : Int} {t1 : Tok} {vs : List Value} (hv : vs = [.ref wd, .int to t1]) (F : Fr h₀ L s.heap m) (H : Here w mean mg mb 2 A h₀ L)
   (N : News h₀ L s.heap ((bx, ob) :: (ls, ol) :: (ot, oo) :: (wd, wo) :: (rn, instObj 115 rd) :: (rd, ro) :: tl)) (hA : Apt bx ls ot wd rn rd tl)
   (hD : wo.IsDictOf (strKind PySem.Challenge.rw_no0058_01.row.prog w) kvs) (hP : PyProof.V.FlatPairs PyData.str kvs (PyProof.V.putD (.str (Str.ofString "recovery")) .none [
     (.str (Str.ofString "datagram"), .int d), (.str (Str.ofString "recovery"), od rc), (.str (Str.ofString "threshold"), od th), (.str (Str.ofString "window"), .int win),
     (.str (Str.ofString "base"), .int base), (.str (Str.ofString "top"), .int top), (.str (Str.ofString "bottom"), .int bot), (.str (Str.ofString "growing"), .bool gr)]))
   (ret : ∀ h' tk' wo', WorldIs w wo' ⟨d, none, th, to, to, 0, 1, false⟩ → Fr h₀ L h' m → News h₀ L h' ((bx, ob) :: (ls, ol) :: (ot, oo) :: (wd, wo') :: (rn, instObj 115 rd) :: (rd, ro) :: tl) → Q .none { s with heap := h', toks := tk' }) :
   wpAny (model PySem.Challenge.rw_no0058_01.row.prog w) A (call (.ref 154) vs) Q E s :=
  use_restart (x := ⟨d, none, th, win, base, top, bot, gr⟩) hv F H (toW N) ⟨_, hD, flat_of hP (by kernel_rfl)⟩ (hA.wld _ _ _ _ _) fun _ _ _ hW' F' N' => ret _ _ _ hW' F' (ofW N')
theorem use_acked {bx ls ot wd rn rd : Addr} {tl : Led} {ob ol oo wo ro : Obj} {x : Rm} {y : Wm} {tp : Addr} {tn : Nat} {size sent now : Int} {lim : Bool} {t1 t2 t3 : Tok} {vs : List Value} (hv : vs = [.ref wd, .ref rn, .ref tp, .bool lim, .int now t3]) (F : Fr h₀ L s.heap m) (H : Here w mean mg mb 6 A h₀ L)
   (N : News h₀ L s.heap ((bx, ob) :: (ls, ol) :: (ot, oo) :: (wd, wo) :: (rn, instObj 115 rd) :: (rd, ro) :: tl)) (hA : Apt bx ls ot wd rn rd tl) (hoff : OwnOff tl [bx, ls, ot, wd, rn, rd]) (hm : (tp, tupOf (.int size t1) (.int sent t2) tn) ∈ tl) (hR : RenoIs w ro x) (hW : WorldIs w wo y) (hsm : (wd == sysModules) = false)
   (e1 : y.d = x.d) (e2 : y.rc = x.rc) (e3 : y.th = x.th) (e4 : y.win = x.win) (hb1 : 0 < x.win) (hb2 : x.win < 2 ^ 20) (hb3 : 0 ≤ x.d) (hb4 : x.d < 2 ^ 20) (hb5 : 0 ≤ size) (hb6 : size < 2 ^ 20) (hc0 : 0 ≤ x.cr) (hc1 : x.cr < 2 ^ 20) (hbt : 0 < y.bot)
   (ret : ∀ h' tk' ro' wo', RenoIs w ro' (rAck x size sent lim) → WorldIs w wo' (wAck y (rAck x size sent lim).win size sent lim) → Fr h₀ L h' m → News h₀ L h' ((bx, ob) :: (ls, ol) :: (ot, oo) :: (wd, wo') :: (rn, instObj 115 rd) :: (rd, ro') :: tl) → Q .none { s with heap := h', toks := tk' }) :
   wpAny (model PySem.Challenge.rw_no0058_01.row.prog w) A (call (.ref 168) vs) Q E s :=
  hv ▸ Ct.run H F (toA N hm) (acked_ct hR hW hsm e1 e2 e3 e4 hb1 hb2 hb3 hb4 hb5 hb6 hc0 hc1 hbt hA.rr hA.rw hA.dw (hoff _ hm _ (by simp)) (hoff _ hm _ (by simp)) (hoff _ hm _ (by simp)) (hA.both _ _ _)) fun v n' h' tk' hp F' N' => by
    obtain ⟨rfl, _, _, hR', hW', rfl⟩ := hp
    exact ret _ _ _ _ hR' hW' F' (ofA N')
theorem use_eqnil {p : Addr × Obj} {rest : Led} {l b : Addr} (N : News h₀ L s.heap (p :: rest)) (hl : s.heap.IsList l #[]) (hb : s.heap.IsList b #[]) (hu : A.units < cLine) (ret : News h₀ L s.heap rest → Q (.bool true) s) :
   wpAny (model PySem.Challenge.rw_no0058_01.row.prog w) A (compareOp .Eq (.ref l) (.ref b)) Q E s := eq_nilL hl hb hu (ret (drop1 N))
theorem use_eqpos {p : Addr × Obj} {rest tl : Led} {l b : Addr} {ovs : List Value} {outs : List (Int × Int)} (N : News h₀ L s.heap (p :: rest)) (hO : OutsAre tl ovs outs) (hpos : 0 < outs.length) (hl : s.heap.IsList l ovs.toArray) (hb : s.heap.IsList b #[]) (hu : A.units < cLine) (ret : News h₀ L s.heap rest → Q (.bool false) s) :
   wpAny (model PySem.Challenge.rw_no0058_01.row.prog w) A (compareOp .Eq (.ref l) (.ref b)) Q E s := by
  have h9 := hO.length
  exact PySem.SeqAt.eq_list_lengthsAt hl hb (bne_iff_ne.mpr (by simp only [List.size_toArray, List.length_nil]; omega)) hu (ret (drop1 N))
theorem use_len {tl news : Led} {l : Addr} {n : Nat} {ovs : List Value} {outs : List (Int × Int)} (N : News h₀ L s.heap news) (hm : (l, listOf ovs.toArray n) ∈ news) (hO : OutsAre tl ovs outs) (hlen : outs.length ≤ 18) (ret : ∀ t tk', Q (.int outs.length t) { s with toks := tk' }) :
   wpAny (model PySem.Challenge.rw_no0058_01.row.prog w) A (call (.builtin "len") [.ref l]) Q E s := by
  refine kst_len N hm hO.length ?_ (ret _ _)
  omega
end

-- T7
theorem rot {h₀ h : Heap} {L : Addr} {a b c d e f : Addr × Obj} {l : Led} (N : News h₀ L h (a :: b :: c :: d :: e :: f :: l)) : News h₀ L h (d :: e :: f :: a :: b :: c :: l) := fun p hp => N p (by
  simp only [List.mem_cons] at hp ⊢
  rcases hp with h | h | h | h | h | h | h <;> simp [h])


local macro_rules | `(tactic| walk_at "eval ListComp") => `(tactic| (k_here; (rename Fr _ _ _ _ => lF'); (rename News _ _ _ _ => lN'); (rename OutsAre _ _ _ => lO'); (have lL' := OutsAre.length lO'); k_dflt (refine' comp_out (by rfl) lF' lN' ?k1 ?k2 lO' ?k3 (by decide) (by decide) (by rfl) (by decide) (by rfl) (by decide) (by intro _; rfl) (ld lF' (by rfl) ⟨rfl, rfl⟩) ?_; (case k1 => k_mem); (case k2 => (rw [sizeLine_eq]; omega)); (case k3 => (intro p hp; repeat (first | assumption | refine List.Mem.tail _ ?_)))); intro D' h' tk' ys' F' N' hl' hi'))
section
variable {w : World} {mean : ExcName → Option Value} {mg mb : Str → Option Value} {A : Around} {h₀ : Heap} {L : Addr} {m : Str → Option Value} {s : Shared} {Q E : Value → Shared → Prop}
theorem use_may6 {pa pb pc pd : Addr × Obj} {rn rd : Addr} {k1 k2 k3 k4 k5 k6 : Tok} {v1 v3 v4 v6 : Value} {win fl size : Int} {u2 u5 t : Tok} {rest : Led} {vs : List Value} (hv : vs = [.ref rn, .int size t]) (F : Fr h₀ L s.heap m) (H : Here w mean mg mb 1 A h₀ L)
   (N : News h₀ L s.heap (pa :: pb :: pc :: pd :: (rn, instObj 115 rd) :: (rd, rd6 w k1 k2 k3 k4 k5 k6 v1 (.int win u2) v3 v4 (.int fl u5) v6) :: rest))
   (ret : ∀ h' tk', Fr h₀ L h' m → News h₀ L h' (pa :: pb :: pc :: pd :: (rn, instObj 115 rd) :: (rd, rd6 w k1 k2 k3 k4 k5 k6 v1 (.int win u2) v3 v4 (.int fl u5) v6) :: rest) → Q (.bool (decide (fl + size ≤ win))) { s with heap := h', toks := tk' }) :
   wpAny (model PySem.Challenge.rw_no0058_01.row.prog w) A (call (.ref 49) vs) Q E s := use_may hv F H (toR N) fun _ _ F' N' => ret _ _ F' (ofR N')
theorem use_fits {pa pb pc : Addr × Obj} {rn rd wd : Addr} {ro wo : Obj} {x : Rm} {y : Wm} {rest : Led} {vs : List Value} (hv : vs = [.ref wd, .ref rn]) (F : Fr h₀ L s.heap m) (H : Here w mean mg mb 3 A h₀ L)
   (N : News h₀ L s.heap (pa :: pb :: pc :: (wd, wo) :: (rn, instObj 115 rd) :: (rd, ro) :: rest)) (hR : RenoIs w ro x) (hW : WorldIs w wo y) (hsm : (wd == sysModules) = false) (e4 : y.win = x.win) (hbt : 0 < y.bot) (hbb : y.bot < 2 ^ 200)
   (hg : y.gr = true → y.base + y.top.fdiv y.bot - 2 ≤ x.win ∧ x.win ≤ y.base + y.top.fdiv y.bot) (hne1 : @Ne Nat rn rd) (hne2 : @Ne Nat rn wd) (hne3 : @Ne Nat rd wd) (hoff : OwnOff (pa :: pb :: pc :: rest) [wd, rn, rd])
   (ret : ∀ h' tk', Fr h₀ L h' m → News h₀ L h' (pa :: pb :: pc :: (wd, wo) :: (rn, instObj 115 rd) :: (rd, ro) :: rest) → Q (.bool true) { s with heap := h', toks := tk' }) :
   wpAny (model PySem.Challenge.rw_no0058_01.row.prog w) A (call (.ref 147) vs) Q E s :=
  hv ▸ Ct.run H F (rot N) (fits_ct hR hW hsm e4 hbt hbb hg hne1 hne2 hne3 hoff) fun v n' h' tk' hp F' N' => by
    obtain ⟨rfl, rfl⟩ := hp
    exact ret _ _ F' (rot N')
end
local macro_rules | `(tactic| walk_at "call ref") => `(tactic| ((with_reducible apply use_may6) <;> walk_at "uses"))
local macro_rules | `(tactic| walk_at "call ref") => `(tactic| ((with_reducible apply use_fits) <;> walk_at "uses"))
theorem tail_ok {w : World} {mean : ExcName → Option Value} {mg mb : Str → Option Value} {bx ls rn rd ot wd fa : Addr} {cd : Value} {td : Tok} {now : Int} {tn : Tok} {u : Str → Option Value} {base h₀ : Heap} {L : Addr} {s : Shared} {Q : Flow → Shared → Prop} {E : Value → Shared → Prop}
   {seed : Int} {ts : Tok} {nb nl no : Nat} {lvs ovs : List Value} {wo ro : Obj} {x : Rm} {y : Wm} {outs : List (Int × Int)} {tl : Led}
   (B : Below callerA base [] h₀) (F : Fr h₀ L s.heap (lawFr bx rn ot wd x.d td now tn u)) (X : (lawTop.heap_39 w.params).In h₀) (T : TopF mean mg mb h₀)
   (N : News h₀ L s.heap ((bx, listOf #[.ref ls, .int seed ts] nb) :: (ls, listOf lvs.toArray nl) :: (ot, listOf ovs.toArray no) :: (wd, wo) :: (rn, instObj 115 rd) :: (rd, ro) :: tl))
   (hR : RenoIs w ro x) (hW : WorldIs w wo y) (hsm : (wd == sysModules) = false) (hO : OutsAre tl ovs outs) (hlen : outs.length ≤ 18)
   (e3 : y.th = x.th) (e4 : y.win = x.win) (hfl : x.fl = (outs.map (·.1)).sum) (hmin : 2 * x.d ≤ x.win) (hd0 : 0 ≤ x.d) (hd1 : x.d < 2 ^ 20) (hbt : 0 < y.bot) (hbb : y.bot < 2 ^ 200)
   (hg : y.gr = true → y.base + y.top.fdiv y.bot - 2 ≤ x.win ∧ x.win ≤ y.base + y.top.fdiv y.bot)
   (hne1 : @Ne Nat rn rd) (hne2 : @Ne Nat rn wd) (hne3 : @Ne Nat rd wd) (hoff : OwnOff tl [bx, ls, ot, wd, rn, rd]) (hrest : OwnOff ((bx, listOf #[.ref ls, .int seed ts] nb) :: (ls, listOf lvs.toArray nl) :: (ot, listOf ovs.toArray no) :: tl) [wd, rn, rd])
   (hret : ∀ u' h' tk', Fr h₀ L h' (lawFr bx rn ot wd x.d td now tn u') → News h₀ L h' ((bx, listOf #[.ref ls, .int seed ts] nb) :: (ls, listOf lvs.toArray nl) :: (ot, listOf ovs.toArray no) :: (wd, wo) :: (rn, instObj 115 rd) :: (rd, ro) :: tl) → Q .next { s with heap := h', toks := tk' }) :
   wpAny (model PySem.Challenge.rw_no0058_01.row.prog w) (callerA.deeper (lawEnv L fa cd)) (execs tailStmts (lawEnv L fa cd)) Q E s := by
  revert X
  k_fill
  intro X
  with_unfolding_all (show wpAny _ (Around.deeper _ (envOf _ (Scope.mk _ _ _ _ _) _ _ _)) (execs (_ :: _) (envOf _ (Scope.mk _ _ _ _ _) _ _ _)) _ _ _)
  obtain ⟨d, win, th, rc, fl, cr⟩ := x
  obtain ⟨d', rc', th', win', base', top, bot, gr⟩ := y
  simp only at e3 e4 hfl hmin hd0 hd1 hbt hbb hg
  subst e3 e4 hfl
  have hRR := hR
  have hWW := hW
  obtain ⟨k1, k2, k3, k4, k5, k6, u1, u2, u3, u4, u5, u6, rfl⟩ := hR
  obtain ⟨kvs, hdo, hfl⟩ := hW
  simp only at N hret F
  simp only [Wm.D] at hfl
  unfold lawFr at F
  have hds : OutsAre tl ovs outs := hO
  w_top off; k_steps
  · exact absurd rfl (by assumption)
  rename News _ _ _ _ => hN1
  cases th' with
  | none =>
    simp only [ov_n] at hN1 hRR
    simp only [od_n] at hfl
    w_top off; k_steps
    all_goals (
      rename Fr _ _ _ _ => hFE
      rename News _ _ _ _ => hNE
      (try dsimp only at hFE hNE ⊢)
      exact hret _ _ _ (fr_law hFE rfl rfl rfl rfl rfl rfl) hNE)
  | some t =>
    simp only [ov_s] at hN1 hRR
    simp only [od_s] at hfl
    w_top off; k_steps
    · exact absurd rfl (by assumption)
    all_goals (
      rename Fr _ _ _ _ => hFE
      rename News _ _ _ _ => hNE
      (try dsimp only at hFE hNE ⊢)
      exact hret _ _ _ (fr_law hFE rfl rfl rfl rfl rfl rfl) hNE)

-- E1
local macro_rules | `(tactic| walk_at "call ref") => `(tactic| ((with_reducible apply use_take) <;> walk_at "uses"))
local macro_rules | `(tactic| walk_at "call ref") => `(tactic| ((with_reducible apply use_wcong) <;> walk_at "uses"))
local macro_rules | `(tactic| walk_at "call ref") => `(tactic| ((with_reducible apply use_lost) <;> walk_at "uses"))
local macro_rules | `(tactic| walk_at "call ref") => `(tactic| ((with_reducible apply use_rcong0) <;> walk_at "uses"))
local macro_rules | `(tactic| walk_at "call ref") => `(tactic| ((with_reducible apply use_acked) <;> walk_at "uses"))
local macro_rules | `(tactic| walk_at "call ref") => `(tactic| ((with_reducible apply use_pers) <;> walk_at "uses"))
local macro_rules | `(tactic| walk_at "call ref") => `(tactic| ((with_reducible apply use_prest) <;> walk_at "uses"))
local macro_rules | `(tactic| walk_at "compareOp Eq ref ref") => `(tactic| (k_dflt (refine use_eqnil (by with_reducible assumption) (by is_list) (by is_list) (by ktr_units) ?_); intro N'))
local macro_rules | `(tactic| walk_at "compareOp Eq ref ref") => `(tactic| (k_dflt (refine use_eqpos (by with_reducible assumption) (by with_reducible assumption) (by with_reducible assumption) (by is_list) (by is_list) (by ktr_units) ?_); intro N'))
local macro_rules | `(tactic| walk_at "subscriptTail") => `(tactic| (with_reducible first | refine item0 (by assumption) (by assumption) tail6 ?_ | refine item1 (by assumption) (by assumption) tail6 ?_))
local macro_rules | `(tactic| walk_at "call builtin:len") => `(tactic| (k_dflt (refine use_len (by with_reducible assumption) (by k_mem) (by with_reducible assumption) (by with_reducible assumption) ?_); intro t' tk'))
local macro_rules | `(tactic| k_ne) => `(tactic| first | exact Apart.ne (by with_reducible assumption) | exact Apart.ne' (by with_reducible assumption))
local macro_rules | `(tactic| walk_at "subscriptTail") => `(tactic| ((with_reducible show wpAny _ _ (subscriptTail _ _ _ (Value.int (-1) _)) _ _ _); k_dflt (refine last_of (by with_reducible assumption) (by k_mem) (by omega) ?_)))
theorem ev_lost {w : World} {mean : ExcName → Option Value} {mg mb : Str → Option Value} {bx ls rn rd ot wd fa : Addr} {cd : Value} {td : Tok} {now f i : Int} {tn tf ti : Tok} {u : Str → Option Value} {base h₀ : Heap} {L : Addr} {s : Shared} {Q : Flow → Shared → Prop} {E : Value → Shared → Prop}
   {seed : Int} {ts : Tok} {nb nl no : Nat} {lvs ovs : List Value} {lst : List Int} {wo ro : Obj} {x : Rm} {y : Wm} {outs : List (Int × Int)} {tl : Led}
   (B : Below callerA base [] h₀) (F : Fr h₀ L s.heap (fun z => if z = Str.ofString "form" then some (.int f tf) else if z = Str.ofString "turn" then some (.int i ti) else lawFr bx rn ot wd x.d td now tn u z)) (X : (lawTop.heap_39 w.params).In h₀) (T : TopF mean mg mb h₀)
   (N : News h₀ L s.heap (ledOf bx ls ot wd rn rd seed ts nb nl no lvs ovs wo ro tl))
   (ok : Ok w ro wo x y tl ovs outs lvs lst seed) (hsm : (wd == sysModules) = false) (hlen : outs.length ≤ 18)
   (e1 : y.d = x.d) (e2 : y.rc = x.rc) (e3 : y.th = x.th) (e4 : y.win = x.win) (hb1 : 0 < x.win) (hb2 : x.win < 2 ^ 20) (hb3 : 0 ≤ x.d) (hb4 : x.d < 2 ^ 20)
   (hsix : Six bx ls ot wd rn rd) (hoff : OwnOff tl [bx, ls, ot, wd, rn, rd]) (hf : f = 2) (hpos : 0 < outs.length)
   (hret : EvRet w h₀ L bx ls ot wd rn rd td now tn tl x y outs s Q) :
   wpAny (model PySem.Challenge.rw_no0058_01.row.prog w) (callerA.deeper (lawEnv L fa cd)) (execs caseStmt (lawEnv L fa cd)) Q E s := by
  revert X
  k_fill
  intro X
  with_unfolding_all (show wpAny _ (Around.deeper _ (envOf _ (Scope.mk _ _ _ _ _) _ _ _)) (execs [_] (envOf _ (Scope.mk _ _ _ _ _) _ _ _)) _ _ _)
  obtain ⟨hR, hW, hO, hI, hL, hs0, hs1⟩ := ok
  have hapt := apt_of hsix hoff
  obtain ⟨ap1, ap2, ap3, ap4, ap5, ap6, ap7, ap8, ap9, ap10, ap11, ap12, ap13, ap14, ap15⟩ := hsix.apart
  have hol := hO.length
  have hRR := hR
  obtain ⟨k1, k2, k3, k4, k5, k6, w1, w2, w3, w4, w5, w6, rfl⟩ := hR
  simp only [lawFr] at F
  unfold ledOf at N
  subst hf
  w_top off; k_steps
  rename Drawn _ _ => hdr
  rename OutsAre _ _ _ => hO
  obtain ⟨us, v, ws, qs, p, rs, c1, c2, c3, c4, h1, h2, h3⟩ := OutsAre.cut hO (Drawn.nat hdr)
  subst c1 c2
  obtain ⟨ta, u1, u2, un, rfl, hm⟩ := h2
  k_dflt (refine' pop_at ?F ?N (Drawn.lo hdr) c3 ?z ?U ?_; (case F => k_asm); (case N => k_asm); (case U => k_upd); (case z => omega))
  intro h' F' N'
  (try dsimp only [List.nil_append, List.cons_append] at N')
  w_top off; k_steps
  rename Fr _ _ _ _ => hFE
  rename News _ _ _ _ => hNE
  rename RenoIs _ _ _ => hRE
  rename WorldIs _ _ _ => hWE
  rename IntsAre _ _ => hIE
  (try dsimp only at hFE hNE ⊢)
  exact hret _ _ _ _ _ _ _ _ _ _ _ _ _ [] _ _ _ (.inr (.inl ⟨_, _, _, rfl, rfl, rfl, rfl⟩)) (rCong_d _ _ _) ⟨hRE, hWE, h1.app h3, hIE, by assumption, by assumption, by assumption⟩ (fun _ h => nomatch h) (fun _ h => nomatch h) (fr_law hFE rfl rfl rfl rfl rfl rfl) hNE

-- E2
theorem ev_ack3 {w : World} {mean : ExcName → Option Value} {mg mb : Str → Option Value} {bx ls rn rd ot wd fa : Addr} {cd : Value} {td : Tok} {now f i : Int} {tn tf ti : Tok} {u : Str → Option Value} {base h₀ : Heap} {L : Addr} {s : Shared} {Q : Flow → Shared → Prop} {E : Value → Shared → Prop}
   {seed : Int} {ts : Tok} {nb nl no : Nat} {lvs ovs : List Value} {lst : List Int} {wo ro : Obj} {x : Rm} {y : Wm} {outs : List (Int × Int)} {tl : Led}
   (B : Below callerA base [] h₀) (F : Fr h₀ L s.heap (fun z => if z = Str.ofString "form" then some (.int f tf) else if z = Str.ofString "turn" then some (.int i ti) else lawFr bx rn ot wd x.d td now tn u z)) (X : (lawTop.heap_39 w.params).In h₀) (T : TopF mean mg mb h₀)
   (N : News h₀ L s.heap (ledOf bx ls ot wd rn rd seed ts nb nl no lvs ovs wo ro tl))
   (ok : Ok w ro wo x y tl ovs outs lvs lst seed) (hsm : (wd == sysModules) = false) (hlen : outs.length ≤ 18)
   (e1 : y.d = x.d) (e2 : y.rc = x.rc) (e3 : y.th = x.th) (e4 : y.win = x.win) (hb1 : 0 < x.win) (hb2 : x.win < 2 ^ 20) (hb3 : 0 ≤ x.d) (hb4 : x.d < 2 ^ 20)
   (hsix : Six bx ls ot wd rn rd) (hoff : OwnOff tl [bx, ls, ot, wd, rn, rd]) (hf : f = 3) (hpos : 0 < outs.length) (hc0 : 0 ≤ x.cr) (hc1 : x.cr < 2 ^ 20) (hbt : 0 < y.bot) (hsz : ∀ p ∈ outs, 0 ≤ p.1 ∧ p.1 < 2 ^ 20)
   (hret : EvRet w h₀ L bx ls ot wd rn rd td now tn tl x y outs s Q) :
   wpAny (model PySem.Challenge.rw_no0058_01.row.prog w) (callerA.deeper (lawEnv L fa cd)) (execs caseStmt (lawEnv L fa cd)) Q E s := by
  revert X
  k_fill
  intro X
  with_unfolding_all (show wpAny _ (Around.deeper _ (envOf _ (Scope.mk _ _ _ _ _) _ _ _)) (execs [_] (envOf _ (Scope.mk _ _ _ _ _) _ _ _)) _ _ _)
  obtain ⟨hR, hW, hO, hI, hL, hs0, hs1⟩ := ok
  have hapt := apt_of hsix hoff
  obtain ⟨ap1, ap2, ap3, ap4, ap5, ap6, ap7, ap8, ap9, ap10, ap11, ap12, ap13, ap14, ap15⟩ := hsix.apart
  have hol := hO.length
  have hRR := hR
  obtain ⟨k1, k2, k3, k4, k5, k6, w1, w2, w3, w4, w5, w6, rfl⟩ := hR
  simp only [lawFr] at F
  unfold ledOf at N
  subst hf
  w_top off; k_steps
  rename Drawn _ _ => hdr
  rename OutsAre _ _ _ => hO
  obtain ⟨us, v, ws, qs, p, rs, c1, c2, c3, c4, h1, h2, h3⟩ := OutsAre.cut hO (Drawn.nat hdr)
  subst c1 c2
  obtain ⟨ta, u1, u2, un, rfl, hm⟩ := h2
  obtain ⟨hp0, hp1⟩ := hsz p (by simp)
  k_dflt (refine' pop_at ?F ?N (Drawn.lo hdr) c3 ?z ?U ?_; (case F => k_asm); (case N => k_asm); (case U => k_upd); (case z => omega))
  intro h' F' N'
  (try dsimp only [List.nil_append, List.cons_append] at N')
  w_top off; k_steps
  rename Fr _ _ _ _ => hFE
  rename News _ _ _ _ => hNE
  rename RenoIs _ _ _ => hRE
  rename WorldIs _ _ _ => hWE
  rename IntsAre _ _ => hIE
  (try dsimp only at hFE hNE ⊢)
  exact hret _ _ _ _ _ _ _ _ _ _ _ _ _ [] _ _ _ (.inr (.inr (.inl ⟨_, _, _, _, rfl, rfl, rfl, rfl⟩))) (rAck_d _ _ _ _) ⟨hRE, hWE, h1.app h3, hIE, by assumption, by assumption, by assumption⟩ (fun _ h => nomatch h) (fun _ h => nomatch h) (fr_law hFE rfl rfl rfl rfl rfl rfl) hNE

theorem ev_ack4 {w : World} {mean : ExcName → Option Value} {mg mb : Str → Option Value} {bx ls rn rd ot wd fa : Addr} {cd : Value} {td : Tok} {now f i : Int} {tn tf ti : Tok} {u : Str → Option Value} {base h₀ : Heap} {L : Addr} {s : Shared} {Q : Flow → Shared → Prop} {E : Value → Shared → Prop}
   {seed : Int} {ts : Tok} {nb nl no : Nat} {lvs ovs : List Value} {lst : List Int} {wo ro : Obj} {x : Rm} {y : Wm} {outs : List (Int × Int)} {tl : Led}
   (B : Below callerA base [] h₀) (F : Fr h₀ L s.heap (fun z => if z = Str.ofString "form" then some (.int f tf) else if z = Str.ofString "turn" then some (.int i ti) else lawFr bx rn ot wd x.d td now tn u z)) (X : (lawTop.heap_39 w.params).In h₀) (T : TopF mean mg mb h₀)
   (N : News h₀ L s.heap (ledOf bx ls ot wd rn rd seed ts nb nl no lvs ovs wo ro tl))
   (ok : Ok w ro wo x y tl ovs outs lvs lst seed) (hsm : (wd == sysModules) = false) (hlen : outs.length ≤ 18)
   (e1 : y.d = x.d) (e2 : y.rc = x.rc) (e3 : y.th = x.th) (e4 : y.win = x.win) (hb1 : 0 < x.win) (hb2 : x.win < 2 ^ 20) (hb3 : 0 ≤ x.d) (hb4 : x.d < 2 ^ 20)
   (hsix : Six bx ls ot wd rn rd) (hoff : OwnOff tl [bx, ls, ot, wd, rn, rd]) (hf : f = 4) (hpos : 0 < outs.length) (hc0 : 0 ≤ x.cr) (hc1 : x.cr < 2 ^ 20) (hbt : 0 < y.bot) (hsz : ∀ p ∈ outs, 0 ≤ p.1 ∧ p.1 < 2 ^ 20)
   (hret : EvRet w h₀ L bx ls ot wd rn rd td now tn tl x y outs s Q) :
   wpAny (model PySem.Challenge.rw_no0058_01.row.prog w) (callerA.deeper (lawEnv L fa cd)) (execs caseStmt (lawEnv L fa cd)) Q E s := by
  revert X
  k_fill
  intro X
  with_unfolding_all (show wpAny _ (Around.deeper _ (envOf _ (Scope.mk _ _ _ _ _) _ _ _)) (execs [_] (envOf _ (Scope.mk _ _ _ _ _) _ _ _)) _ _ _)
  obtain ⟨hR, hW, hO, hI, hL, hs0, hs1⟩ := ok
  have hapt := apt_of hsix hoff
  obtain ⟨ap1, ap2, ap3, ap4, ap5, ap6, ap7, ap8, ap9, ap10, ap11, ap12, ap13, ap14, ap15⟩ := hsix.apart
  have hol := hO.length
  have hRR := hR
  obtain ⟨k1, k2, k3, k4, k5, k6, w1, w2, w3, w4, w5, w6, rfl⟩ := hR
  simp only [lawFr] at F
  unfold ledOf at N
  subst hf
  w_top off; k_steps
  rename OutsAre _ _ _ => hO
  obtain ⟨us, v, ws, qs, p, rs, c1, c2, c3, c4, h1, h2, h3⟩ := OutsAre.cut hO (k := 0) hpos
  subst c1 c2
  obtain ⟨ta, u1, u2, un, rfl, hm⟩ := h2
  obtain ⟨hp0, hp1⟩ := hsz p (by simp)
  k_dflt (refine' pop_at ?F ?N (by decide) c3 ?z ?U ?_; (case F => k_asm); (case N => k_asm); (case U => k_upd); (case z => omega))
  intro h' F' N'
  (try dsimp only [List.nil_append, List.cons_append] at N')
  w_top off; k_steps
  rename Fr _ _ _ _ => hFE
  rename News _ _ _ _ => hNE
  rename RenoIs _ _ _ => hRE
  rename WorldIs _ _ _ => hWE
  rename IntsAre _ _ => hIE
  (try dsimp only at hFE hNE ⊢)
  exact hret _ _ _ _ _ _ _ _ _ _ _ _ _ [] _ _ _ (.inr (.inr (.inl ⟨_, _, _, _, rfl, rfl, rfl, rfl⟩))) (rAck_d _ _ _ _) ⟨hRE, hWE, h1.app h3, hIE, by assumption, by assumption, by assumption⟩ (fun _ h => nomatch h) (fun _ h => nomatch h) (fr_law hFE rfl rfl rfl rfl rfl rfl) hNE

-- E3
theorem ev_disc {w : World} {mean : ExcName → Option Value} {mg mb : Str → Option Value} {bx ls rn rd ot wd fa : Addr} {cd : Value} {td : Tok} {now f i : Int} {tn tf ti : Tok} {u : Str → Option Value} {base h₀ : Heap} {L : Addr} {s : Shared} {Q : Flow → Shared → Prop} {E : Value → Shared → Prop}
   {seed : Int} {ts : Tok} {nb nl no : Nat} {lvs ovs : List Value} {lst : List Int} {wo ro : Obj} {x : Rm} {y : Wm} {outs : List (Int × Int)} {tl : Led}
   (B : Below callerA base [] h₀) (F : Fr h₀ L s.heap (fun z => if z = Str.ofString "form" then some (.int f tf) else if z = Str.ofString "turn" then some (.int i ti) else lawFr bx rn ot wd x.d td now tn u z)) (X : (lawTop.heap_39 w.params).In h₀) (T : TopF mean mg mb h₀)
   (N : News h₀ L s.heap (ledOf bx ls ot wd rn rd seed ts nb nl no lvs ovs wo ro tl))
   (ok : Ok w ro wo x y tl ovs outs lvs lst seed) (hsm : (wd == sysModules) = false) (hlen : outs.length ≤ 18)
   (e1 : y.d = x.d) (e2 : y.rc = x.rc) (e3 : y.th = x.th) (e4 : y.win = x.win) (hb1 : 0 < x.win) (hb2 : x.win < 2 ^ 20) (hb3 : 0 ≤ x.d) (hb4 : x.d < 2 ^ 20)
   (hsix : Six bx ls ot wd rn rd) (hoff : OwnOff tl [bx, ls, ot, wd, rn, rd]) (hf : f = 5) (hpos : 0 < outs.length)
   (hret : EvRet w h₀ L bx ls ot wd rn rd td now tn tl x y outs s Q) :
   wpAny (model PySem.Challenge.rw_no0058_01.row.prog w) (callerA.deeper (lawEnv L fa cd)) (execs caseStmt (lawEnv L fa cd)) Q E s := by
  revert X
  k_fill
  intro X
  with_unfolding_all (show wpAny _ (Around.deeper _ (envOf _ (Scope.mk _ _ _ _ _) _ _ _)) (execs [_] (envOf _ (Scope.mk _ _ _ _ _) _ _ _)) _ _ _)
  obtain ⟨hR, hW, hO, hI, hL, hs0, hs1⟩ := ok
  have hapt := apt_of hsix hoff
  obtain ⟨ap1, ap2, ap3, ap4, ap5, ap6, ap7, ap8, ap9, ap10, ap11, ap12, ap13, ap14, ap15⟩ := hsix.apart
  have hol := hO.length
  have hRR := hR
  obtain ⟨k1, k2, k3, k4, k5, k6, w1, w2, w3, w4, w5, w6, rfl⟩ := hR
  simp only [lawFr] at F
  unfold ledOf at N
  subst hf
  w_top off; k_steps
  rename OutsAre _ _ _ => hO
  obtain ⟨us, v, ws, qs, p, rs, c1, c2, c3, c4, h1, h2, h3⟩ := OutsAre.cut hO (k := 0) hpos
  subst c1 c2
  obtain ⟨ta, u1, u2, un, rfl, hm⟩ := h2
  k_dflt (refine' pop_at ?F ?N (by decide) c3 ?z ?U ?_; (case F => k_asm); (case N => k_asm); (case U => k_upd); (case z => omega))
  intro h' F' N'
  (try dsimp only [List.nil_append, List.cons_append] at N')
  w_top off; k_steps
  have hus : us = [] := List.eq_nil_of_length_eq_zero c3
  have hqs : qs = [] := List.eq_nil_of_length_eq_zero c4
  subst hus hqs
  rename Fr _ _ _ _ => hFE
  rename News _ _ _ _ => hNE
  rename RenoIs _ _ _ => hRE
  rename WorldIs _ _ _ => hWE
  rename IntsAre _ _ => hIE
  (try dsimp only at hFE hNE ⊢)
  exact hret _ _ _ _ _ _ _ _ _ _ _ _ _ [] _ _ _ (.inr (.inr (.inr (.inl ⟨_, _, rfl, rfl, rfl, rfl⟩)))) rfl ⟨⟨k1, k2, k3, k4, k5, k6, w1, w2, w3, w4, _, w6, rfl⟩, hWE, h3, hIE, by assumption, by assumption, by assumption⟩ (fun _ h => nomatch h) (fun _ h => nomatch h) (fr_law hFE rfl rfl rfl rfl rfl rfl) hNE

-- E4
theorem ev_mark {w : World} {mean : ExcName → Option Value} {mg mb : Str → Option Value} {bx ls rn rd ot wd fa : Addr} {cd : Value} {td : Tok} {now f i : Int} {tn tf ti : Tok} {u : Str → Option Value} {base h₀ : Heap} {L : Addr} {s : Shared} {Q : Flow → Shared → Prop} {E : Value → Shared → Prop}
   {seed : Int} {ts : Tok} {nb nl no : Nat} {lvs ovs : List Value} {lst : List Int} {wo ro : Obj} {x : Rm} {y : Wm} {outs : List (Int × Int)} {tl : Led}
   (B : Below callerA base [] h₀) (F : Fr h₀ L s.heap (fun z => if z = Str.ofString "form" then some (.int f tf) else if z = Str.ofString "turn" then some (.int i ti) else lawFr bx rn ot wd x.d td now tn u z)) (X : (lawTop.heap_39 w.params).In h₀) (T : TopF mean mg mb h₀)
   (N : News h₀ L s.heap (ledOf bx ls ot wd rn rd seed ts nb nl no lvs ovs wo ro tl))
   (ok : Ok w ro wo x y tl ovs outs lvs lst seed) (hsm : (wd == sysModules) = false) (hlen : outs.length ≤ 18)
   (e1 : y.d = x.d) (e2 : y.rc = x.rc) (e3 : y.th = x.th) (e4 : y.win = x.win) (hb1 : 0 < x.win) (hb2 : x.win < 2 ^ 20) (hb3 : 0 ≤ x.d) (hb4 : x.d < 2 ^ 20)
   (hsix : Six bx ls ot wd rn rd) (hoff : OwnOff tl [bx, ls, ot, wd, rn, rd]) (hf : f = 6) (hpos : 0 < outs.length)
   (hret : EvRet w h₀ L bx ls ot wd rn rd td now tn tl x y outs s Q) :
   wpAny (model PySem.Challenge.rw_no0058_01.row.prog w) (callerA.deeper (lawEnv L fa cd)) (execs caseStmt (lawEnv L fa cd)) Q E s := by
  revert X
  k_fill
  intro X
  with_unfolding_all (show wpAny _ (Around.deeper _ (envOf _ (Scope.mk _ _ _ _ _) _ _ _)) (execs [_] (envOf _ (Scope.mk _ _ _ _ _) _ _ _)) _ _ _)
  obtain ⟨hR, hW, hO, hI, hL, hs0, hs1⟩ := ok
  have hapt := apt_of hsix hoff
  obtain ⟨ap1, ap2, ap3, ap4, ap5, ap6, ap7, ap8, ap9, ap10, ap11, ap12, ap13, ap14, ap15⟩ := hsix.apart
  have hol := hO.length
  have hRR := hR
  obtain ⟨k1, k2, k3, k4, k5, k6, w1, w2, w3, w4, w5, w6, rfl⟩ := hR
  simp only [lawFr] at F
  unfold ledOf at N
  subst hf
  obtain ⟨us, v, ws, qs, p, rs, c1, c2, c3, c4, h1, h2, h3⟩ := OutsAre.cut hO (k := outs.length - 1) (by omega)
  have hwl := h3.length
  have hol2 : (us ++ v :: ws).length = us.length + (ws.length + 1) := by rw [List.length_append, List.length_cons]
  rw [← c1] at hol2
  have hws : ws = [] := List.eq_nil_of_length_eq_zero (by omega)
  subst hws
  subst c1 c2
  obtain ⟨ta, u1, u2, un, rfl, hm⟩ := h2
  have hKeep : OutsAre tl (us ++ [.ref ta]) (qs ++ p :: rs) := hO
  clear h1 h3
  w_top off; k_steps
  rename Fr _ _ _ _ => hFE
  rename News _ _ _ _ => hNE
  rename RenoIs _ _ _ => hRE
  rename WorldIs _ _ _ => hWE
  rename IntsAre _ _ => hIE
  (try dsimp only at hFE hNE ⊢)
  rename OutsAre _ _ _ => hO2
  exact hret _ _ _ _ _ _ _ _ _ _ _ _ _ [] _ _ _ (.inr (.inr (.inr (.inr (.inl ⟨_, rfl, rfl, rfl⟩))))) (rCong_d _ _ _) ⟨hRE, hWE, hO2, hIE, by assumption, by assumption, by assumption⟩ (fun _ h => nomatch h) (fun _ h => nomatch h) (fr_law hFE rfl rfl rfl rfl rfl rfl) hNE

-- E5
theorem ev_send1 {w : World} {mean : ExcName → Option Value} {mg mb : Str → Option Value} {bx ls rn rd ot wd fa : Addr} {cd : Value} {td : Tok} {now f i : Int} {tn tf ti : Tok} {u : Str → Option Value} {base h₀ : Heap} {L : Addr} {s : Shared} {Q : Flow → Shared → Prop} {E : Value → Shared → Prop}
   {seed : Int} {ts : Tok} {nb nl no : Nat} {lvs ovs : List Value} {lst : List Int} {wo ro : Obj} {x : Rm} {y : Wm} {outs : List (Int × Int)} {tl : Led}
   (B : Below callerA base [] h₀) (F : Fr h₀ L s.heap (fun z => if z = Str.ofString "form" then some (.int f tf) else if z = Str.ofString "turn" then some (.int i ti) else lawFr bx rn ot wd x.d td now tn u z)) (X : (lawTop.heap_39 w.params).In h₀) (T : TopF mean mg mb h₀)
   (N : News h₀ L s.heap (ledOf bx ls ot wd rn rd seed ts nb nl no lvs ovs wo ro tl))
   (ok : Ok w ro wo x y tl ovs outs lvs lst seed) (hsm : (wd == sysModules) = false) (hlen : outs.length ≤ 18)
   (e1 : y.d = x.d) (e2 : y.rc = x.rc) (e3 : y.th = x.th) (e4 : y.win = x.win) (hb1 : 0 < x.win) (hb2 : x.win < 2 ^ 20) (hb3 : 0 ≤ x.d) (hb4 : x.d < 2 ^ 20)
   (hsix : Six bx ls ot wd rn rd) (hoff : OwnOff tl [bx, ls, ot, wd, rn, rd]) (hf : 0 ≤ f) (hf2 : f < 2)
   (hret : EvRet w h₀ L bx ls ot wd rn rd td now tn tl x y outs s Q) :
   wpAny (model PySem.Challenge.rw_no0058_01.row.prog w) (callerA.deeper (lawEnv L fa cd)) (execs caseStmt (lawEnv L fa cd)) Q E s := by
  revert X
  k_fill
  intro X
  with_unfolding_all (show wpAny _ (Around.deeper _ (envOf _ (Scope.mk _ _ _ _ _) _ _ _)) (execs [_] (envOf _ (Scope.mk _ _ _ _ _) _ _ _)) _ _ _)
  obtain ⟨hR, hW, hO, hI, hL, hs0, hs1⟩ := ok
  have hapt := apt_of hsix hoff
  obtain ⟨ap1, ap2, ap3, ap4, ap5, ap6, ap7, ap8, ap9, ap10, ap11, ap12, ap13, ap14, ap15⟩ := hsix.apart
  have hol := hO.length
  have hRR := hR
  obtain ⟨k1, k2, k3, k4, k5, k6, w1, w2, w3, w4, w5, w6, rfl⟩ := hR
  simp only [lawFr] at F
  unfold ledOf at N
  w_top off; k_steps
  rename Fr _ _ _ _ => hFE
  rename News _ _ _ _ => hNE
  rename RenoIs _ _ _ => hRE
  rename WorldIs _ _ _ => hWE
  rename IntsAre _ _ => hIE
  (try dsimp only at hFE hNE ⊢)
  with_reducible rename bx < _ ∧ _ => hlt
  obtain ⟨g1, g2, g3, g4, g5, g6, g7⟩ := hlt
  rename Drawn _ _ => hdr
  obtain ⟨d0, d1⟩ := hdr
  rename OutsAre _ _ _ => hO
  simp only [List.push_toArray] at hNE
  exact hret _ _ _ _ _ _ _ _ _ _ _ _ _ [_] _ _ _ (.inl ⟨_, by omega, by omega, rfl, rfl, rfl⟩) rfl ⟨⟨k1, k2, k3, k4, k5, k6, w1, w2, w3, w4, _, w6, rfl⟩, hWE, (hO.mono (fun _ h => .tail _ h)).app (.cons ⟨_, _, _, 0, rfl, .head _⟩ .nil), hIE, by assumption, by assumption, by assumption⟩ (add_off g1 g2 g3 g4 g5 g6) (add_off2 g7) (fr_law hFE rfl rfl rfl rfl rfl rfl) (toEnd hNE)

-- E6
theorem ev_send2 {w : World} {mean : ExcName → Option Value} {mg mb : Str → Option Value} {bx ls rn rd ot wd fa : Addr} {cd : Value} {td : Tok} {now f i : Int} {tn tf ti : Tok} {u : Str → Option Value} {base h₀ : Heap} {L : Addr} {s : Shared} {Q : Flow → Shared → Prop} {E : Value → Shared → Prop}
   {seed : Int} {ts : Tok} {nb nl no : Nat} {lvs ovs : List Value} {lst : List Int} {wo ro : Obj} {x : Rm} {y : Wm} {outs : List (Int × Int)} {tl : Led}
   (B : Below callerA base [] h₀) (F : Fr h₀ L s.heap (fun z => if z = Str.ofString "form" then some (.int f tf) else if z = Str.ofString "turn" then some (.int i ti) else lawFr bx rn ot wd x.d td now tn u z)) (X : (lawTop.heap_39 w.params).In h₀) (T : TopF mean mg mb h₀)
   (N : News h₀ L s.heap (ledOf bx ls ot wd rn rd seed ts nb nl no lvs ovs wo ro tl))
   (ok : Ok w ro wo x y tl ovs outs lvs lst seed) (hsm : (wd == sysModules) = false) (hlen : outs.length ≤ 18)
   (e1 : y.d = x.d) (e2 : y.rc = x.rc) (e3 : y.th = x.th) (e4 : y.win = x.win) (hb1 : 0 < x.win) (hb2 : x.win < 2 ^ 20) (hb3 : 0 ≤ x.d) (hb4 : x.d < 2 ^ 20)
   (hsix : Six bx ls ot wd rn rd) (hoff : OwnOff tl [bx, ls, ot, wd, rn, rd]) (hf : 2 ≤ f) (hf2 : f < 7) (hnil : outs = [])
   (hret : EvRet w h₀ L bx ls ot wd rn rd td now tn tl x y outs s Q) :
   wpAny (model PySem.Challenge.rw_no0058_01.row.prog w) (callerA.deeper (lawEnv L fa cd)) (execs caseStmt (lawEnv L fa cd)) Q E s := by
  revert X
  k_fill
  intro X
  with_unfolding_all (show wpAny _ (Around.deeper _ (envOf _ (Scope.mk _ _ _ _ _) _ _ _)) (execs [_] (envOf _ (Scope.mk _ _ _ _ _) _ _ _)) _ _ _)
  obtain ⟨hR, hW, hO, hI, hL, hs0, hs1⟩ := ok
  have hapt := apt_of hsix hoff
  obtain ⟨ap1, ap2, ap3, ap4, ap5, ap6, ap7, ap8, ap9, ap10, ap11, ap12, ap13, ap14, ap15⟩ := hsix.apart
  have hol := hO.length
  have hRR := hR
  obtain ⟨k1, k2, k3, k4, k5, k6, w1, w2, w3, w4, w5, w6, rfl⟩ := hR
  simp only [lawFr] at F
  unfold ledOf at N
  subst hnil
  cases hO
  have hO : OutsAre tl [] [] := .nil
  w_top off; k_steps
  rename Fr _ _ _ _ => hFE
  rename News _ _ _ _ => hNE
  rename RenoIs _ _ _ => hRE
  rename WorldIs _ _ _ => hWE
  rename IntsAre _ _ => hIE
  (try dsimp only at hFE hNE ⊢)
  with_reducible rename bx < _ ∧ _ => hlt
  obtain ⟨g1, g2, g3, g4, g5, g6, g7⟩ := hlt
  rename Drawn _ _ => hdr
  obtain ⟨d0, d1⟩ := hdr
  rename OutsAre _ _ _ => hO
  simp only [List.push_toArray] at hNE
  exact hret _ _ _ _ _ _ _ _ _ _ _ _ _ [_] _ _ _ (.inl ⟨_, by omega, by omega, rfl, rfl, rfl⟩) rfl ⟨⟨k1, k2, k3, k4, k5, k6, w1, w2, w3, w4, _, w6, rfl⟩, hWE, (hO.mono (fun _ h => .tail _ h)).app (.cons ⟨_, _, _, 0, rfl, .head _⟩ .nil), hIE, by assumption, by assumption, by assumption⟩ (add_off g1 g2 g3 g4 g5 g6) (add_off2 g7) (fr_law hFE rfl rfl rfl rfl rfl rfl) (toEnd hNE)

-- E7
theorem ev_pers0 {w : World} {mean : ExcName → Option Value} {mg mb : Str → Option Value} {bx ls rn rd ot wd fa : Addr} {cd : Value} {td : Tok} {now f i : Int} {tn tf ti : Tok} {u : Str → Option Value} {base h₀ : Heap} {L : Addr} {s : Shared} {Q : Flow → Shared → Prop} {E : Value → Shared → Prop}
   {seed : Int} {ts : Tok} {nb nl no : Nat} {lvs ovs : List Value} {lst : List Int} {wo ro : Obj} {x : Rm} {y : Wm} {outs : List (Int × Int)} {tl : Led}
   (B : Below callerA base [] h₀) (F : Fr h₀ L s.heap (fun z => if z = Str.ofString "form" then some (.int f tf) else if z = Str.ofString "turn" then some (.int i ti) else lawFr bx rn ot wd x.d td now tn u z)) (X : (lawTop.heap_39 w.params).In h₀) (T : TopF mean mg mb h₀)
   (N : News h₀ L s.heap (ledOf bx ls ot wd rn rd seed ts nb nl no lvs ovs wo ro tl))
   (ok : Ok w ro wo x y tl ovs outs lvs lst seed) (hsm : (wd == sysModules) = false) (hlen : outs.length ≤ 18)
   (e1 : y.d = x.d) (e2 : y.rc = x.rc) (e3 : y.th = x.th) (e4 : y.win = x.win) (hb1 : 0 < x.win) (hb2 : x.win < 2 ^ 20) (hb3 : 0 ≤ x.d) (hb4 : x.d < 2 ^ 20)
   (hsix : Six bx ls ot wd rn rd) (hoff : OwnOff tl [bx, ls, ot, wd, rn, rd]) (hf : f = 7) (hi : i.fmod 3 = 2) (hnil : outs = [])
   (hret : EvRet w h₀ L bx ls ot wd rn rd td now tn tl x y outs s Q) :
   wpAny (model PySem.Challenge.rw_no0058_01.row.prog w) (callerA.deeper (lawEnv L fa cd)) (execs caseStmt (lawEnv L fa cd)) Q E s := by
  revert X
  k_fill
  intro X
  with_unfolding_all (show wpAny _ (Around.deeper _ (envOf _ (Scope.mk _ _ _ _ _) _ _ _)) (execs [_] (envOf _ (Scope.mk _ _ _ _ _) _ _ _)) _ _ _)
  obtain ⟨hR, hW, hO, hI, hL, hs0, hs1⟩ := ok
  have hapt := apt_of hsix hoff
  obtain ⟨ap1, ap2, ap3, ap4, ap5, ap6, ap7, ap8, ap9, ap10, ap11, ap12, ap13, ap14, ap15⟩ := hsix.apart
  have hol := hO.length
  have hRR := hR
  obtain ⟨k1, k2, k3, k4, k5, k6, w1, w2, w3, w4, w5, w6, rfl⟩ := hR
  simp only [lawFr] at F
  unfold ledOf at N
  subst hf
  subst hnil
  cases hO
  have hOO : OutsAre tl [] [] := .nil
  have hWW := hW
  obtain ⟨d', rc', th', win', base', top, bot, gr⟩ := y
  obtain ⟨kvs, hdo, hfl⟩ := hW
  simp only at e1 e2 e3 e4
  simp only [Wm.D] at hfl
  w_top off; k_steps
  rename Fr _ _ _ _ => hFE
  rename News _ _ _ _ => hNE
  rename RenoIs _ _ _ => hRE
  rename WorldIs _ _ _ => hWE
  rename IntsAre _ _ => hIE
  (try dsimp only at hFE hNE ⊢)
  exact hret { x with win := 2 * x.d, rc := none, cr := 0 } _ _ _ _ _ _ _ _ _ _ _ _ [] _ _ _ (.inr (.inr (.inr (.inr (.inr (.inl ⟨rfl, rfl, rfl⟩)))))) rfl ⟨hRE, hWE, hOO, hIE, by assumption, by assumption, by assumption⟩ (fun _ h => nomatch h) (fun _ h => nomatch h) (fr_law hFE rfl rfl rfl rfl rfl rfl) hNE
  exact absurd hi (by assumption)

theorem ev_pers1 {w : World} {mean : ExcName → Option Value} {mg mb : Str → Option Value} {bx ls rn rd ot wd fa : Addr} {cd : Value} {td : Tok} {now f i : Int} {tn tf ti : Tok} {u : Str → Option Value} {base h₀ : Heap} {L : Addr} {s : Shared} {Q : Flow → Shared → Prop} {E : Value → Shared → Prop}
   {seed : Int} {ts : Tok} {nb nl no : Nat} {lvs ovs : List Value} {lst : List Int} {wo ro : Obj} {x : Rm} {y : Wm} {outs : List (Int × Int)} {tl : Led}
   (B : Below callerA base [] h₀) (F : Fr h₀ L s.heap (fun z => if z = Str.ofString "form" then some (.int f tf) else if z = Str.ofString "turn" then some (.int i ti) else lawFr bx rn ot wd x.d td now tn u z)) (X : (lawTop.heap_39 w.params).In h₀) (T : TopF mean mg mb h₀)
   (N : News h₀ L s.heap (ledOf bx ls ot wd rn rd seed ts nb nl no lvs ovs wo ro tl))
   (ok : Ok w ro wo x y tl ovs outs lvs lst seed) (hsm : (wd == sysModules) = false) (hlen : outs.length ≤ 18)
   (e1 : y.d = x.d) (e2 : y.rc = x.rc) (e3 : y.th = x.th) (e4 : y.win = x.win) (hb1 : 0 < x.win) (hb2 : x.win < 2 ^ 20) (hb3 : 0 ≤ x.d) (hb4 : x.d < 2 ^ 20)
   (hsix : Six bx ls ot wd rn rd) (hoff : OwnOff tl [bx, ls, ot, wd, rn, rd]) (hf : f = 7) (hi : i.fmod 3 = 2) (hpos : 0 < outs.length)
   (hret : EvRet w h₀ L bx ls ot wd rn rd td now tn tl x y outs s Q) :
   wpAny (model PySem.Challenge.rw_no0058_01.row.prog w) (callerA.deeper (lawEnv L fa cd)) (execs caseStmt (lawEnv L fa cd)) Q E s := by
  revert X
  k_fill
  intro X
  with_unfolding_all (show wpAny _ (Around.deeper _ (envOf _ (Scope.mk _ _ _ _ _) _ _ _)) (execs [_] (envOf _ (Scope.mk _ _ _ _ _) _ _ _)) _ _ _)
  obtain ⟨hR, hW, hO, hI, hL, hs0, hs1⟩ := ok
  have hapt := apt_of hsix hoff
  obtain ⟨ap1, ap2, ap3, ap4, ap5, ap6, ap7, ap8, ap9, ap10, ap11, ap12, ap13, ap14, ap15⟩ := hsix.apart
  have hol := hO.length
  have hRR := hR
  obtain ⟨k1, k2, k3, k4, k5, k6, w1, w2, w3, w4, w5, w6, rfl⟩ := hR
  simp only [lawFr] at F
  unfold ledOf at N
  subst hf
  have hOO := hO
  have hO9 := hO
  have hWW := hW
  obtain ⟨d', rc', th', win', base', top, bot, gr⟩ := y
  obtain ⟨kvs, hdo, hfl⟩ := hW
  simp only at e1 e2 e3 e4
  simp only [Wm.D] at hfl
  w_top off; k_steps
  rename Fr _ _ _ _ => hFE
  rename News _ _ _ _ => hNE
  rename RenoIs _ _ _ => hRE
  rename WorldIs _ _ _ => hWE
  rename IntsAre _ _ => hIE
  (try dsimp only at hFE hNE ⊢)
  exact hret { x with win := 2 * x.d, rc := none, cr := 0 } _ _ _ _ _ _ _ _ _ _ _ _ [] _ _ _ (.inr (.inr (.inr (.inr (.inr (.inl ⟨rfl, rfl, rfl⟩)))))) rfl ⟨hRE, hWE, hOO, hIE, by assumption, by assumption, by assumption⟩ (fun _ h => nomatch h) (fun _ h => nomatch h) (fr_law hFE rfl rfl rfl rfl rfl rfl) hNE
  exact absurd hi (by assumption)

-- E8
theorem ev_none0 {w : World} {mean : ExcName → Option Value} {mg mb : Str → Option Value} {bx ls rn rd ot wd fa : Addr} {cd : Value} {td : Tok} {now f i : Int} {tn tf ti : Tok} {u : Str → Option Value} {base h₀ : Heap} {L : Addr} {s : Shared} {Q : Flow → Shared → Prop} {E : Value → Shared → Prop}
   {seed : Int} {ts : Tok} {nb nl no : Nat} {lvs ovs : List Value} {lst : List Int} {wo ro : Obj} {x : Rm} {y : Wm} {outs : List (Int × Int)} {tl : Led}
   (B : Below callerA base [] h₀) (F : Fr h₀ L s.heap (fun z => if z = Str.ofString "form" then some (.int f tf) else if z = Str.ofString "turn" then some (.int i ti) else lawFr bx rn ot wd x.d td now tn u z)) (X : (lawTop.heap_39 w.params).In h₀) (T : TopF mean mg mb h₀)
   (N : News h₀ L s.heap (ledOf bx ls ot wd rn rd seed ts nb nl no lvs ovs wo ro tl))
   (ok : Ok w ro wo x y tl ovs outs lvs lst seed) (hsm : (wd == sysModules) = false) (hlen : outs.length ≤ 18)
   (e1 : y.d = x.d) (e2 : y.rc = x.rc) (e3 : y.th = x.th) (e4 : y.win = x.win) (hb1 : 0 < x.win) (hb2 : x.win < 2 ^ 20) (hb3 : 0 ≤ x.d) (hb4 : x.d < 2 ^ 20)
   (hsix : Six bx ls ot wd rn rd) (hoff : OwnOff tl [bx, ls, ot, wd, rn, rd]) (hf : f = 7) (hi : i.fmod 3 ≠ 2) (hnil : outs = [])
   (hret : EvRet w h₀ L bx ls ot wd rn rd td now tn tl x y outs s Q) :
   wpAny (model PySem.Challenge.rw_no0058_01.row.prog w) (callerA.deeper (lawEnv L fa cd)) (execs caseStmt (lawEnv L fa cd)) Q E s := by
  revert X
  k_fill
  intro X
  with_unfolding_all (show wpAny _ (Around.deeper _ (envOf _ (Scope.mk _ _ _ _ _) _ _ _)) (execs [_] (envOf _ (Scope.mk _ _ _ _ _) _ _ _)) _ _ _)
  obtain ⟨hR, hW, hO, hI, hL, hs0, hs1⟩ := ok
  have hapt := apt_of hsix hoff
  obtain ⟨ap1, ap2, ap3, ap4, ap5, ap6, ap7, ap8, ap9, ap10, ap11, ap12, ap13, ap14, ap15⟩ := hsix.apart
  have hol := hO.length
  have hRR := hR
  obtain ⟨k1, k2, k3, k4, k5, k6, w1, w2, w3, w4, w5, w6, rfl⟩ := hR
  simp only [lawFr] at F
  unfold ledOf at N
  subst hf
  subst hnil
  cases hO
  have hOO : OutsAre tl [] [] := .nil
  w_top off; k_steps
  exact absurd (by assumption) hi
  rename Fr _ _ _ _ => hFE
  rename News _ _ _ _ => hNE
  rename IntsAre _ _ => hIE
  (try dsimp only at hFE hNE ⊢)
  exact hret _ _ _ _ _ _ _ _ _ _ _ _ _ [] _ _ _ (.inr (.inr (.inr (.inr (.inr (.inr ⟨rfl, rfl, rfl⟩)))))) rfl ⟨hRR, hW, hOO, hIE, by assumption, by assumption, by assumption⟩ (fun _ h => nomatch h) (fun _ h => nomatch h) (fr_law hFE rfl rfl rfl rfl rfl rfl) hNE

theorem ev_none1 {w : World} {mean : ExcName → Option Value} {mg mb : Str → Option Value} {bx ls rn rd ot wd fa : Addr} {cd : Value} {td : Tok} {now f i : Int} {tn tf ti : Tok} {u : Str → Option Value} {base h₀ : Heap} {L : Addr} {s : Shared} {Q : Flow → Shared → Prop} {E : Value → Shared → Prop}
   {seed : Int} {ts : Tok} {nb nl no : Nat} {lvs ovs : List Value} {lst : List Int} {wo ro : Obj} {x : Rm} {y : Wm} {outs : List (Int × Int)} {tl : Led}
   (B : Below callerA base [] h₀) (F : Fr h₀ L s.heap (fun z => if z = Str.ofString "form" then some (.int f tf) else if z = Str.ofString "turn" then some (.int i ti) else lawFr bx rn ot wd x.d td now tn u z)) (X : (lawTop.heap_39 w.params).In h₀) (T : TopF mean mg mb h₀)
   (N : News h₀ L s.heap (ledOf bx ls ot wd rn rd seed ts nb nl no lvs ovs wo ro tl))
   (ok : Ok w ro wo x y tl ovs outs lvs lst seed) (hsm : (wd == sysModules) = false) (hlen : outs.length ≤ 18)
   (e1 : y.d = x.d) (e2 : y.rc = x.rc) (e3 : y.th = x.th) (e4 : y.win = x.win) (hb1 : 0 < x.win) (hb2 : x.win < 2 ^ 20) (hb3 : 0 ≤ x.d) (hb4 : x.d < 2 ^ 20)
   (hsix : Six bx ls ot wd rn rd) (hoff : OwnOff tl [bx, ls, ot, wd, rn, rd]) (hf : f = 7) (hi : i.fmod 3 ≠ 2) (hpos : 0 < outs.length)
   (hret : EvRet w h₀ L bx ls ot wd rn rd td now tn tl x y outs s Q) :
   wpAny (model PySem.Challenge.rw_no0058_01.row.prog w) (callerA.deeper (lawEnv L fa cd)) (execs caseStmt (lawEnv L fa cd)) Q E s := by
  revert X
  k_fill
  intro X
  with_unfolding_all (show wpAny _ (Around.deeper _ (envOf _ (Scope.mk _ _ _ _ _) _ _ _)) (execs [_] (envOf _ (Scope.mk _ _ _ _ _) _ _ _)) _ _ _)
  obtain ⟨hR, hW, hO, hI, hL, hs0, hs1⟩ := ok
  have hapt := apt_of hsix hoff
  obtain ⟨ap1, ap2, ap3, ap4, ap5, ap6, ap7, ap8, ap9, ap10, ap11, ap12, ap13, ap14, ap15⟩ := hsix.apart
  have hol := hO.length
  have hRR := hR
  obtain ⟨k1, k2, k3, k4, k5, k6, w1, w2, w3, w4, w5, w6, rfl⟩ := hR
  simp only [lawFr] at F
  unfold ledOf at N
  subst hf
  have hOO := hO
  have hO9 := hO
  w_top off; k_steps
  exact absurd (by assumption) hi
  rename Fr _ _ _ _ => hFE
  rename News _ _ _ _ => hNE
  rename IntsAre _ _ => hIE
  (try dsimp only at hFE hNE ⊢)
  exact hret _ _ _ _ _ _ _ _ _ _ _ _ _ [] _ _ _ (.inr (.inr (.inr (.inr (.inr (.inr ⟨rfl, rfl, rfl⟩)))))) rfl ⟨hRR, hW, hOO, hIE, by assumption, by assumption, by assumption⟩ (fun _ h => nomatch h) (fun _ h => nomatch h) (fr_law hFE rfl rfl rfl rfl rfl rfl) hNE

theorem ev_eight0 {w : World} {mean : ExcName → Option Value} {mg mb : Str → Option Value} {bx ls rn rd ot wd fa : Addr} {cd : Value} {td : Tok} {now f i : Int} {tn tf ti : Tok} {u : Str → Option Value} {base h₀ : Heap} {L : Addr} {s : Shared} {Q : Flow → Shared → Prop} {E : Value → Shared → Prop}
   {seed : Int} {ts : Tok} {nb nl no : Nat} {lvs ovs : List Value} {lst : List Int} {wo ro : Obj} {x : Rm} {y : Wm} {outs : List (Int × Int)} {tl : Led}
   (B : Below callerA base [] h₀) (F : Fr h₀ L s.heap (fun z => if z = Str.ofString "form" then some (.int f tf) else if z = Str.ofString "turn" then some (.int i ti) else lawFr bx rn ot wd x.d td now tn u z)) (X : (lawTop.heap_39 w.params).In h₀) (T : TopF mean mg mb h₀)
   (N : News h₀ L s.heap (ledOf bx ls ot wd rn rd seed ts nb nl no lvs ovs wo ro tl))
   (ok : Ok w ro wo x y tl ovs outs lvs lst seed) (hsm : (wd == sysModules) = false) (hlen : outs.length ≤ 18)
   (e1 : y.d = x.d) (e2 : y.rc = x.rc) (e3 : y.th = x.th) (e4 : y.win = x.win) (hb1 : 0 < x.win) (hb2 : x.win < 2 ^ 20) (hb3 : 0 ≤ x.d) (hb4 : x.d < 2 ^ 20)
   (hsix : Six bx ls ot wd rn rd) (hoff : OwnOff tl [bx, ls, ot, wd, rn, rd]) (hf : f = 8) (hnil : outs = [])
   (hret : EvRet w h₀ L bx ls ot wd rn rd td now tn tl x y outs s Q) :
   wpAny (model PySem.Challenge.rw_no0058_01.row.prog w) (callerA.deeper (lawEnv L fa cd)) (execs caseStmt (lawEnv L fa cd)) Q E s := by
  revert X
  k_fill
  intro X
  with_unfolding_all (show wpAny _ (Around.deeper _ (envOf _ (Scope.mk _ _ _ _ _) _ _ _)) (execs [_] (envOf _ (Scope.mk _ _ _ _ _) _ _ _)) _ _ _)
  obtain ⟨hR, hW, hO, hI, hL, hs0, hs1⟩ := ok
  have hapt := apt_of hsix hoff
  obtain ⟨ap1, ap2, ap3, ap4, ap5, ap6, ap7, ap8, ap9, ap10, ap11, ap12, ap13, ap14, ap15⟩ := hsix.apart
  have hol := hO.length
  have hRR := hR
  obtain ⟨k1, k2, k3, k4, k5, k6, w1, w2, w3, w4, w5, w6, rfl⟩ := hR
  simp only [lawFr] at F
  unfold ledOf at N
  subst hf
  subst hnil
  cases hO
  have hOO : OutsAre tl [] [] := .nil
  w_top off; k_steps
  rename Fr _ _ _ _ => hFE
  rename News _ _ _ _ => hNE
  rename IntsAre _ _ => hIE
  (try dsimp only at hFE hNE ⊢)
  exact hret _ _ _ _ _ _ _ _ _ _ _ _ _ [] _ _ _ (.inr (.inr (.inr (.inr (.inr (.inr ⟨rfl, rfl, rfl⟩)))))) rfl ⟨hRR, hW, hOO, hIE, by assumption, by assumption, by assumption⟩ (fun _ h => nomatch h) (fun _ h => nomatch h) (fr_law hFE rfl rfl rfl rfl rfl rfl) hNE

theorem ev_eight1 {w : World} {mean : ExcName → Option Value} {mg mb : Str → Option Value} {bx ls rn rd ot wd fa : Addr} {cd : Value} {td : Tok} {now f i : Int} {tn tf ti : Tok} {u : Str → Option Value} {base h₀ : Heap} {L : Addr} {s : Shared} {Q : Flow → Shared → Prop} {E : Value → Shared → Prop}
   {seed : Int} {ts : Tok} {nb nl no : Nat} {lvs ovs : List Value} {lst : List Int} {wo ro : Obj} {x : Rm} {y : Wm} {outs : List (Int × Int)} {tl : Led}
   (B : Below callerA base [] h₀) (F : Fr h₀ L s.heap (fun z => if z = Str.ofString "form" then some (.int f tf) else if z = Str.ofString "turn" then some (.int i ti) else lawFr bx rn ot wd x.d td now tn u z)) (X : (lawTop.heap_39 w.params).In h₀) (T : TopF mean mg mb h₀)
   (N : News h₀ L s.heap (ledOf bx ls ot wd rn rd seed ts nb nl no lvs ovs wo ro tl))
   (ok : Ok w ro wo x y tl ovs outs lvs lst seed) (hsm : (wd == sysModules) = false) (hlen : outs.length ≤ 18)
   (e1 : y.d = x.d) (e2 : y.rc = x.rc) (e3 : y.th = x.th) (e4 : y.win = x.win) (hb1 : 0 < x.win) (hb2 : x.win < 2 ^ 20) (hb3 : 0 ≤ x.d) (hb4 : x.d < 2 ^ 20)
   (hsix : Six bx ls ot wd rn rd) (hoff : OwnOff tl [bx, ls, ot, wd, rn, rd]) (hf : f = 8) (hpos : 0 < outs.length)
   (hret : EvRet w h₀ L bx ls ot wd rn rd td now tn tl x y outs s Q) :
   wpAny (model PySem.Challenge.rw_no0058_01.row.prog w) (callerA.deeper (lawEnv L fa cd)) (execs caseStmt (lawEnv L fa cd)) Q E s := by
  revert X
  k_fill
  intro X
  with_unfolding_all (show wpAny _ (Around.deeper _ (envOf _ (Scope.mk _ _ _ _ _) _ _ _)) (execs [_] (envOf _ (Scope.mk _ _ _ _ _) _ _ _)) _ _ _)
  obtain ⟨hR, hW, hO, hI, hL, hs0, hs1⟩ := ok
  have hapt := apt_of hsix hoff
  obtain ⟨ap1, ap2, ap3, ap4, ap5, ap6, ap7, ap8, ap9, ap10, ap11, ap12, ap13, ap14, ap15⟩ := hsix.apart
  have hol := hO.length
  have hRR := hR
  obtain ⟨k1, k2, k3, k4, k5, k6, w1, w2, w3, w4, w5, w6, rfl⟩ := hR
  simp only [lawFr] at F
  unfold ledOf at N
  subst hf
  have hOO := hO
  have hO9 := hO
  w_top off; k_steps
  rename Fr _ _ _ _ => hFE
  rename News _ _ _ _ => hNE
  rename IntsAre _ _ => hIE
  (try dsimp only at hFE hNE ⊢)
  exact hret _ _ _ _ _ _ _ _ _ _ _ _ _ [] _ _ _ (.inr (.inr (.inr (.inr (.inr (.inr ⟨rfl, rfl, rfl⟩)))))) rfl ⟨hRR, hW, hOO, hIE, by assumption, by assumption, by assumption⟩ (fun _ h => nomatch h) (fun _ h => nomatch h) (fr_law hFE rfl rfl rfl rfl rfl rfl) hNE

-- M1
/-! the plain law: integers alone -/
theorem ca_lower {w c D m c2 B U : Int} (hw : 0 < w) (hB : 0 < B) (hm : 0 ≤ m) (hc : 0 ≤ c2) (e : c + D = m * w + c2) (h : (w * w + c) * B ≤ U * w) :
    ((w + m) * (w + m) + c2) * (B * w) ≤ (U * w + D * B) * (w + m) := by
  have h1 : (w * (w + m) + c2) * B ≤ U * w + D * B := by
    have e1 : (w * (w + m) + c2) * B = (w * w + c) * B + D * B := by
      have : c2 = c + D - m * w := by omega
      subst this
      grind
    omega
  have h2 := Int.mul_le_mul_of_nonneg_right h1 (show 0 ≤ w + m by omega)
  have h3 : 0 ≤ c2 * m * B := Int.mul_nonneg (Int.mul_nonneg hc hm) (Int.le_of_lt hB)
  have e2 : (w * (w + m) + c2) * B * (w + m) = ((w + m) * (w + m) + c2) * (B * w) + c2 * m * B := by grind
  omega
theorem ca_upper {w c D m c2 B U k : Int} (hw : 0 < w) (hB : 0 < B) (hm : 0 ≤ m) (hc : 0 ≤ c2) (hc2 : c2 ≤ w) (hk : 79 * m ≤ 21 * w) (e : c + D = m * w + c2)
    (h : 100 * (U * w) ≤ (100 * (w * w + c) + 21 * k * w) * B) :
    100 * ((U * w + D * B) * (w + m)) ≤ (100 * ((w + m) * (w + m) + c2) + 21 * (k + 1) * (w + m)) * (B * w) := by
  have h1 : 100 * (U * w + D * B) ≤ (100 * (w * (w + m) + c2) + 21 * k * w) * B := by
    have e1 : (100 * (w * (w + m) + c2) + 21 * k * w) * B = (100 * (w * w + c) + 21 * k * w) * B + 100 * (D * B) := by
      have : c2 = c + D - m * w := by omega
      subst this
      grind
    omega
  have h2 := Int.mul_le_mul_of_nonneg_right h1 (show 0 ≤ w + m by omega)
  have h3 : 100 * (c2 * m) ≤ 21 * (w * (w + m)) := by
    have a1 : c2 * m ≤ w * m := Int.mul_le_mul_of_nonneg_right hc2 hm
    have a2 : w * (100 * m) ≤ w * (21 * (w + m)) := Int.mul_le_mul_of_nonneg_left (by omega) (Int.le_of_lt hw)
    have a3 : w * (100 * m) = 100 * (w * m) := by grind
    have a4 : w * (21 * (w + m)) = 21 * (w * (w + m)) := by grind
    omega
  have h4 := Int.mul_le_mul_of_nonneg_right h3 (Int.le_of_lt hB)
  have e2 : (100 * (w * (w + m) + c2) + 21 * k * w) * B * (w + m) + 21 * (w * (w + m)) * B = (100 * ((w + m) * (w + m) + c2) + 21 * (k + 1) * (w + m)) * (B * w) + 100 * (c2 * m) * B := by grind
  have e3 : 100 * (U * w + D * B) * (w + m) = 100 * ((U * w + D * B) * (w + m)) := by grind
  omega
/-- the step of the widening is small -/
theorem ca_more {w c d s m c2 : Int} (hd : 1200 ≤ d) (hw : 2 * d ≤ w) (hs0 : 0 ≤ s) (hs : s ≤ d) (hc : c < w) (hc2 : 0 ≤ c2) (e : c + d * s = m * w + c2) : 2 * m ≤ d + 2 := by
  false_or_by_contra
  rename_i hn
  have h1 : d * s ≤ d * d := Int.mul_le_mul_of_nonneg_left hs (by omega)
  have h2 : (d + 3) * w ≤ (2 * m) * w := Int.mul_le_mul_of_nonneg_right (by omega) (by omega)
  have h3 : (d + 1) * (2 * d) ≤ (d + 1) * w := Int.mul_le_mul_of_nonneg_left hw (by omega)
  have e1 : (2 * m) * w = 2 * (m * w) := by grind
  have e2 : (d + 3) * w = (d + 1) * w + 2 * w := by grind
  have e3 : (d + 1) * (2 * d) = 2 * (d * d) + 2 * d := by grind
  omega
/-- the two bounds give the law's two octets -/
theorem ca_fits {w c k base top B : Int} (hw : 0 < w) (hB : 0 < B) (hc : 0 ≤ c) (hc2 : c < w) (hk0 : 0 ≤ k) (hk : k ≤ 9)
    (h1 : (w * w + c) * B ≤ (base * B + top) * w) (h2 : 100 * ((base * B + top) * w) ≤ (100 * (w * w + c) + 21 * k * w) * B) :
    base + top.fdiv B - 2 ≤ w ∧ w ≤ base + top.fdiv B := by
  -- q = top // B : q * B ≤ top < (q + 1) * B
  have hq : top.fdiv B = top / B := Int.fdiv_eq_ediv_of_nonneg _ (Int.le_of_lt hB)
  rw [hq]
  have q1 : top / B * B ≤ top := Int.ediv_mul_le _ (by omega)
  have q2 : top < (top / B + 1) * B := Int.lt_ediv_add_one_mul_self top hB
  generalize top / B = q at q1 q2
  constructor
  · -- base + q - 2 ≤ w : else (w + 3) * B ≤ (base + q) * B ≤ U
    false_or_by_contra
    rename_i hn
    have a1 : (w + 3) * B ≤ (base + q) * B := Int.mul_le_mul_of_nonneg_right (by omega) (Int.le_of_lt hB)
    have a2 : (base + q) * B = base * B + q * B := by grind
    have a3 : (w + 3) * B ≤ base * B + top := by omega
    have a4 := Int.mul_le_mul_of_nonneg_right a3 (Int.le_of_lt hw)
    have a5 : k * w ≤ 9 * w := Int.mul_le_mul_of_nonneg_right hk (Int.le_of_lt hw)
    have a6 : 100 * (w * w + c) + 21 * (k * w) ≤ 100 * (w * w) + 100 * w + 189 * w := by omega
    have a7 := Int.mul_le_mul_of_nonneg_right a6 (Int.le_of_lt hB)
    have a8 : (100 * (w * w + c) + 21 * (k * w)) * B = (100 * (w * w + c) + 21 * k * w) * B := by grind
    have a9 : (100 * (w * w) + 100 * w + 189 * w) * B + 11 * (w * B) = 100 * ((w + 3) * B * w) := by grind
    have a10 : 0 < w * B := Int.mul_pos hw hB
    omega
  · false_or_by_contra
    rename_i hn
    -- base + q + 1 ≤ w, so U < (base + q + 1) * B ≤ w * B
    have a1 : (base + q + 1) * B ≤ w * B := Int.mul_le_mul_of_nonneg_right (by omega) (Int.le_of_lt hB)
    have a2 : (base + q + 1) * B = base * B + (q + 1) * B := by grind
    have a3 : base * B + top + 1 ≤ w * B := by omega
    have a4 := Int.mul_le_mul_of_nonneg_right a3 (Int.le_of_lt hw)
    have a5 : (base * B + top + 1) * w = (base * B + top) * w + w := by grind
    have a6 : (w * w + c) * B = w * B * w + c * B := by grind
    have a7 : 0 ≤ c * B := Int.mul_nonneg hc (Int.le_of_lt hB)
    omega

-- M2
/-- congestion avoidance: exact shares since the restart, k of them -/
def Ca (k : Nat) (x : Rm) (y : Wm) : Prop :=
  0 < y.bot ∧ y.bot ≤ 2 ^ (20 * k) ∧ 0 ≤ x.cr ∧ x.cr < x.win ∧ (x.win * x.win + x.cr) * y.bot ≤ (y.base * y.bot + y.top) * x.win ∧
  100 * ((y.base * y.bot + y.top) * x.win) ≤ (100 * (x.win * x.win + x.cr) + 21 * (k : Int) * x.win) * y.bot ∧
  (y.gr = true → ∃ t, x.th = some t ∧ t ≤ x.win) ∧ (y.gr = false → x.cr = 0)

structure Inv (i : Nat) (x : Rm) (y : Wm) (outs : List (Int × Int)) : Prop where
  dd : x.d = 1200 ∨ x.d = 1472 ∨ x.d = 9000
  e1 : y.d = x.d
  e2 : y.rc = x.rc
  e3 : y.th = x.th
  e4 : y.win = x.win
  lo : 2 * x.d ≤ x.win
  hi : x.win ≤ 20000 + 9000 * (i : Int)
  fl : x.fl = (outs.map (·.1)).sum
  sz : ∀ p ∈ outs, x.d - 40 ≤ p.1 ∧ p.1 ≤ x.d
  ca : ∃ k : Nat, 2 * k + outs.length ≤ i ∧ Ca k x y

/-- behind a restart at a window -/
theorem ca_restart {x : Rm} {y : Wm} (hw : 0 < x.win) (hb : y.base = x.win) (ht : y.top = 0) (hB : y.bot = 1) (hc : x.cr = 0) (hg : y.gr = false) : Ca 0 x y := by
  unfold Ca
  rw [hb, ht, hB, hc, hg]
  refine ⟨by decide, by decide, by decide, hw, ?_, ?_, (fun h => nomatch h), fun _ => rfl⟩
  · have e : (x.win * x.win + 0) * 1 = (x.win * 1 + 0) * x.win := by grind
    omega
  · have e : 100 * ((x.win * 1 + 0) * x.win) = (100 * (x.win * x.win + 0) + 21 * ((0 : Nat) : Int) * x.win) * 1 := by grind
    omega

theorem half_lo (w d : Int) : 2 * d ≤ half w d := by unfold half; split <;> omega
theorem half_hi {w d : Int} (h : 2 * d ≤ w) (hw : 0 ≤ w) : half w d ≤ w := by
  unfold half
  have e : w.fdiv 2 = w / 2 := Int.fdiv_eq_ediv_of_nonneg _ (by decide)
  rw [e]
  split <;> omega

theorem sum_cut (qs rs : List (Int × Int)) (p : Int × Int) : ((qs ++ p :: rs).map (·.1)).sum = ((qs ++ rs).map (·.1)).sum + p.1 := by
  simp only [List.map_append, List.map_cons, List.sum_append, List.sum_cons]
  omega
theorem mem_cut {qs rs : List (Int × Int)} {p q : Int × Int} (h : q ∈ qs ++ rs) : q ∈ qs ++ p :: rs := by
  rcases List.mem_append.mp h with h | h
  · exact List.mem_append.mpr (.inl h)
  · exact List.mem_append.mpr (.inr (.tail _ h))
theorem len_cut (qs rs : List (Int × Int)) (p : Int × Int) : (qs ++ p :: rs).length = (qs ++ rs).length + 1 := by
  simp only [List.length_append, List.length_cons]
  omega

/-- congestion keeps all -/
theorem inv_cong {i : Nat} {x : Rm} {y : Wm} {outs outs' : List (Int × Int)} {sent now fl' : Int} (h : Inv i x y outs) (hf : fl' = (outs'.map (·.1)).sum) (hs : ∀ p ∈ outs', p ∈ outs) (hl : outs'.length ≤ outs.length) :
    Inv (i + 1) (rCong { x with fl := fl' } sent now) (wCong y sent now) outs' := by
  obtain ⟨dd, e1, e2, e3, e4, lo, hi, fl, sz, k, hk, ca⟩ := h
  have hd : 0 < x.d := by omega
  have new : Inv (i + 1) (rNew { x with fl := fl' } now) (wNew y now) outs' := by
    have hh := half_lo (x.win * 1) x.d
    have hh2 := half_hi (w := x.win * 1) (d := x.d) (by omega) (by omega)
    have e5 : half y.win y.d = half (x.win * 1) x.d := by rw [e1, e4, Int.mul_one]
    refine ⟨dd, e1, rfl, ?_, ?_, hh, ?_, hf, fun p hp => sz p (hs p hp), 0, ?_, ca_restart ?_ ?_ rfl rfl rfl rfl⟩
    · exact congrArg some e5
    · exact e5
    · show half (x.win * 1) x.d ≤ _
      push_cast
      omega
    · omega
    · show 0 < half (x.win * 1) x.d
      omega
    · exact e5
  have old : Inv (i + 1) { x with fl := fl' } y outs' := ⟨dd, e1, e2, e3, e4, lo, by push_cast; omega, hf, fun p hp => sz p (hs p hp), k, by omega, ca⟩
  have hcase : x.rc = none ∨ ∃ r, x.rc = some r := by cases x.rc with
    | none => exact .inl rfl
    | some r => exact .inr ⟨r, rfl⟩
  rcases hcase with hr | ⟨r, hr⟩
  · have a : rCong { x with fl := fl' } sent now = rNew { x with fl := fl' } now := by unfold rCong; simp only [hr]
    have b : wCong y sent now = wNew y now := by unfold wCong; simp only [e2, hr]
    rw [a, b]
    exact new
  · by_cases hle : sent ≤ r
    · have a : rCong { x with fl := fl' } sent now = { x with fl := fl' } := by unfold rCong; simp only [hr]; rw [if_pos hle]
      have b : wCong y sent now = y := by unfold wCong; simp only [e2, hr]; rw [if_pos hle]
      rw [a, b]
      exact old
    · have a : rCong { x with fl := fl' } sent now = rNew { x with fl := fl' } now := by unfold rCong; simp only [hr]; rw [if_neg hle]
      have b : wCong y sent now = wNew y now := by unfold wCong; simp only [e2, hr]; rw [if_neg hle]
      rw [a, b]
      exact new

theorem inv_keep {i : Nat} {x : Rm} {y : Wm} {outs outs' : List (Int × Int)} {fl' : Int} (h : Inv i x y outs) (hf : fl' = (outs'.map (·.1)).sum) (hs : ∀ p ∈ outs', x.d - 40 ≤ p.1 ∧ p.1 ≤ x.d) (hl : outs'.length ≤ outs.length + 1) :
    Inv (i + 1) { x with fl := fl' } y outs' := by
  obtain ⟨dd, e1, e2, e3, e4, lo, hi, fl, sz, k, hk, ca⟩ := h
  exact ⟨dd, e1, e2, e3, e4, lo, by push_cast; omega, hf, hs, k, by omega, ca⟩

theorem inv_ack {i : Nat} {x : Rm} {y : Wm} {qs rs : List (Int × Int)} {p : Int × Int} {lim : Bool} (h : Inv i x y (qs ++ p :: rs)) (hi18 : i ≤ 18) :
    Inv (i + 1) (rAck x p.1 p.2 lim) (wAck y (rAck x p.1 p.2 lim).win p.1 p.2 lim) (qs ++ rs) := by
  have hfl : x.fl - p.1 = ((qs ++ rs).map (·.1)).sum := by rw [h.fl, sum_cut]; omega
  have hl := len_cut qs rs p
  have hsz : ∀ q ∈ qs ++ rs, x.d - 40 ≤ q.1 ∧ q.1 ≤ x.d := fun q hq => h.sz q (mem_cut hq)
  have hp := h.sz p (by simp)
  cases hc : (inRec x.rc p.2 || !lim) with
  | true =>
    have hc' : (inRec y.rc p.2 || !lim) = true := by rw [h.e2]; exact hc
    rw [rAck_rec hc, wAck_rec hc']
    exact inv_keep h hfl hsz (by omega)
  | false =>
    have hc' : (inRec y.rc p.2 || !lim) = false := by rw [h.e2]; exact hc
    cases hs : slow x.th x.win with
    | true =>
      have hs' : slow y.th y.win = true := by rw [h.e3, h.e4]; exact hs
      rw [rAck_slow hc hs, wAck_slow hc' hs']
      obtain ⟨dd, e1, e2, e3, e4, lo, hi, fl, sz, k, hk, ca⟩ := h
      have hcr : x.cr = 0 := by
        obtain ⟨_, _, _, _, _, _, c7, c8⟩ := ca
        cases hg : y.gr with
        | false => exact c8 hg
        | true =>
          obtain ⟨t, ht, hle⟩ := c7 hg
          rw [ht] at hs
          unfold slow at hs
          have := of_decide_eq_true hs
          omega
      refine ⟨dd, e1, e2, e3, ?_, ?_, ?_, hfl, hsz, 0, ?_, ca_restart ?_ ?_ rfl rfl hcr rfl⟩
      · show y.win + p.1 = x.win + p.1
        rw [e4]
      · show 2 * x.d ≤ x.win + p.1
        omega
      · show x.win + p.1 ≤ _
        push_cast
        omega
      · omega
      · show 0 < x.win + p.1
        omega
      · show y.win + p.1 = x.win + p.1
        rw [e4]
    | false =>
      have hs' : slow y.th y.win = false := by rw [h.e3, h.e4]; exact hs
      rw [rAck_wide hc hs, wAck_wide hc' hs']
      obtain ⟨dd, e1, e2, e3, e4, lo, hi, fl, sz, k, hk, ca⟩ := h
      obtain ⟨cB, cB2, c0, c1, cl, cu, c7, c8⟩ := ca
      have hw : 0 < x.win := by omega
      -- the division
      have hf : (x.cr + x.d * p.1).fdiv x.win = (x.cr + x.d * p.1) / x.win := Int.fdiv_eq_ediv_of_nonneg _ (Int.le_of_lt hw)
      have hm0 : 0 ≤ (x.cr + x.d * p.1) / x.win := Int.ediv_nonneg (by have := Int.mul_nonneg (show 0 ≤ x.d by omega) (show 0 ≤ p.1 by omega); omega) (Int.le_of_lt hw)
      have q1 : (x.cr + x.d * p.1) / x.win * x.win ≤ x.cr + x.d * p.1 := Int.ediv_mul_le _ (by omega)
      have q2 : x.cr + x.d * p.1 < ((x.cr + x.d * p.1) / x.win + 1) * x.win := Int.lt_ediv_add_one_mul_self _ hw
      have q3 : ((x.cr + x.d * p.1) / x.win + 1) * x.win = (x.cr + x.d * p.1) / x.win * x.win + x.win := by grind
      have key : ∀ m c2 : Int, m = (x.cr + x.d * p.1).fdiv x.win → c2 = (x.cr + x.d * p.1) - (x.cr + x.d * p.1).fdiv x.win * x.win →
          Inv (i + 1) { x with fl := x.fl - p.1, cr := c2, win := x.win + m } { y with top := y.top * y.win + y.d * p.1 * y.bot, bot := y.bot * y.win, win := x.win + m, gr := true } (qs ++ rs) := by
        intro m c2 hm hc2
        rw [hf] at hm hc2
        rw [← hm] at hm0 q1 q2 q3 hc2
        have hc20 : 0 ≤ c2 := by omega
        have hc21 : c2 < x.win := by omega
        have e : x.cr + x.d * p.1 = m * x.win + c2 := by omega
        have hm1 : 2 * m ≤ x.d + 2 := ca_more (by omega) lo (by omega) hp.2 c1 hc20 e
        have hm2 : 79 * m ≤ 21 * x.win := by omega
        have hth : ∃ t, x.th = some t ∧ t ≤ x.win := by
          cases ht : x.th with
          | none => rw [ht] at hs; cases hs
          | some t =>
            rw [ht] at hs
            unfold slow at hs
            have := of_decide_eq_false hs
            exact ⟨t, rfl, by omega⟩
        obtain ⟨t, ht, hle⟩ := hth
        have eU : y.base * (y.bot * x.win) + (y.top * x.win + x.d * p.1 * y.bot) = (y.base * y.bot + y.top) * x.win + x.d * p.1 * y.bot := by grind
        refine ⟨dd, e1, e2, e3, rfl, ?_, ?_, hfl, hsz, k + 1, by omega, ?_, ?_, hc20, ?_, ?_, ?_, fun _ => ⟨t, ht, ?_⟩, fun h => nomatch h⟩
        · show 2 * x.d ≤ x.win + m
          omega
        · show x.win + m ≤ _
          push_cast
          omega
        · show 0 < y.bot * y.win
          rw [e4]
          exact Int.mul_pos cB hw
        · show y.bot * y.win ≤ 2 ^ (20 * (k + 1))
          rw [e4]
          have hb : x.win ≤ 2 ^ 20 := by omega
          have hmul : y.bot * x.win ≤ 2 ^ (20 * k) * 2 ^ 20 := Int.mul_le_mul cB2 hb (Int.le_of_lt hw) (Int.pow_nonneg (by decide))
          have hpow : (2 : Int) ^ (20 * (k + 1)) = 2 ^ (20 * k) * 2 ^ 20 := by
            rw [Nat.mul_add, Nat.mul_one, Int.pow_add]
          rw [hpow]
          exact hmul
        · show c2 < x.win + m
          omega
        · show ((x.win + m) * (x.win + m) + c2) * (y.bot * y.win) ≤ (y.base * (y.bot * y.win) + (y.top * y.win + y.d * p.1 * y.bot)) * (x.win + m)
          rw [e4, e1, eU]
          exact ca_lower hw cB hm0 hc20 e cl
        · show 100 * ((y.base * (y.bot * y.win) + (y.top * y.win + y.d * p.1 * y.bot)) * (x.win + m)) ≤ (100 * ((x.win + m) * (x.win + m) + c2) + 21 * ((k + 1 : Nat) : Int) * (x.win + m)) * (y.bot * y.win)
          rw [e4, e1, eU]
          have := ca_upper hw cB hm0 hc20 (Int.le_of_lt hc21) hm2 e cu
          push_cast
          exact this
        · show t ≤ x.win + m
          omega
      exact key _ _ rfl rfl

/-- one turn keeps the invariant -/
theorem inv_step {i : Nat} {x x' : Rm} {y y' : Wm} {outs outs' : List (Int × Int)} {now : Int} (h : Inv i x y outs) (hi18 : i ≤ 18) (st : Step x y outs now x' y' outs') : Inv (i + 1) x' y' outs' := by
  rcases st with ⟨size, s1, s2, rfl, rfl, rfl⟩ | ⟨qs, p, rs, rfl, rfl, rfl, rfl⟩ | ⟨qs, p, rs, lim, rfl, rfl, rfl, rfl⟩ | ⟨p, rs, rfl, rfl, rfl, rfl⟩ | ⟨sent, rfl, rfl, rfl⟩ | ⟨rfl, rfl, rfl⟩ | ⟨rfl, rfl, rfl⟩
  · refine inv_keep h ?_ ?_ ?_
    · rw [h.fl]
      simp
    · intro p hp
      rcases List.mem_append.mp hp with hp | hp
      · exact h.sz p hp
      · rw [List.mem_singleton.mp hp]
        exact ⟨s1, s2⟩
    · simp
  · refine inv_cong h ?_ (fun q hq => mem_cut hq) (by rw [len_cut]; omega)
    rw [h.fl, sum_cut]
    omega
  · exact inv_ack h hi18
  · refine inv_keep h ?_ (fun q hq => h.sz q (.tail _ hq)) (by simp; omega)
    rw [h.fl]
    simp only [List.map_cons, List.sum_cons]
    omega
  · exact inv_cong (x := x) (fl' := x.fl) h h.fl (fun _ hp => hp) (Nat.le_refl _)
  · obtain ⟨dd, e1, e2, e3, e4, lo, hi, fl, sz, k, hk, ca⟩ := h
    refine ⟨dd, e1, rfl, e3, rfl, ?_, ?_, fl, sz, 0, by omega, ca_restart ?_ rfl rfl rfl rfl rfl⟩
    · show 2 * x.d ≤ 2 * x.d
      omega
    · show 2 * x.d ≤ _
      push_cast
      omega
    · show 0 < 2 * x.d
      omega
  · have q := inv_keep h h.fl h.sz (Nat.le_succ _)
    exact q

/-- what the turn's end asks -/
theorem inv_fits {i : Nat} {x : Rm} {y : Wm} {outs : List (Int × Int)} (h : Inv i x y outs) (hi : i ≤ 18) :
    y.base + y.top.fdiv y.bot - 2 ≤ x.win ∧ x.win ≤ y.base + y.top.fdiv y.bot := by
  obtain ⟨dd, e1, e2, e3, e4, lo, hi', fl, sz, k, hk, cB, cB2, c0, c1, cl, cu, c7, c8⟩ := h
  exact ca_fits (k := (k : Int)) (by omega) cB c0 c1 (by omega) (by omega) cl cu
theorem inv_bot {i : Nat} {x : Rm} {y : Wm} {outs : List (Int × Int)} (h : Inv i x y outs) (hi : i ≤ 18) : 0 < y.bot ∧ y.bot < 2 ^ 200 := by
  obtain ⟨dd, e1, e2, e3, e4, lo, hi', fl, sz, k, hk, cB, cB2, c0, c1, cl, cu, c7, c8⟩ := h
  refine ⟨cB, ?_⟩
  have h1 : (2 : Int) ^ (20 * k) ≤ 2 ^ 180 := by
    have := Nat.pow_le_pow_right (show 0 < 2 by decide) (show 20 * k ≤ 180 by omega)
    exact_mod_cast this
  have h2 : (2 : Int) ^ 180 < 2 ^ 200 := by decide
  omega

-- X1
theorem ev_all {w : World} {mean : ExcName → Option Value} {mg mb : Str → Option Value} {bx ls rn rd ot wd fa : Addr} {cd : Value} {td : Tok} {now f i : Int} {tn tf ti : Tok} {u : Str → Option Value} {base h₀ : Heap} {L : Addr} {s : Shared} {Q : Flow → Shared → Prop} {E : Value → Shared → Prop}
   {seed : Int} {ts : Tok} {nb nl no : Nat} {lvs ovs : List Value} {lst : List Int} {wo ro : Obj} {x : Rm} {y : Wm} {outs : List (Int × Int)} {tl : Led} {n : Nat}
   (B : Below callerA base [] h₀) (F : Fr h₀ L s.heap (fun z => if z = Str.ofString "form" then some (.int f tf) else if z = Str.ofString "turn" then some (.int i ti) else lawFr bx rn ot wd x.d td now tn u z)) (X : (lawTop.heap_39 w.params).In h₀) (T : TopF mean mg mb h₀)
   (N : News h₀ L s.heap (ledOf bx ls ot wd rn rd seed ts nb nl no lvs ovs wo ro tl))
   (ok : Ok w ro wo x y tl ovs outs lvs lst seed) (hsm : (wd == sysModules) = false) (hI : Inv n x y outs) (hn : n < 18)
   (hsix : Six bx ls ot wd rn rd) (hoff : OwnOff tl [bx, ls, ot, wd, rn, rd]) (hf0 : 0 ≤ f) (hf1 : f < 9)
   (hret : EvRet w h₀ L bx ls ot wd rn rd td now tn tl x y outs s Q) :
   wpAny (model PySem.Challenge.rw_no0058_01.row.prog w) (callerA.deeper (lawEnv L fa cd)) (execs caseStmt (lawEnv L fa cd)) Q E s := by
  obtain ⟨dd, e1, e2, e3, e4, lo, hi, fl, sz, k, hk, cB, cB2, c0, c1, cl, cu, c7, c8⟩ := hI
  have hlen : outs.length ≤ 18 := by omega
  have hb1 : 0 < x.win := by omega
  have hb2 : x.win < 2 ^ 20 := by omega
  have hb3 : 0 ≤ x.d := by omega
  have hb4 : x.d < 2 ^ 20 := by omega
  have hc1 : x.cr < 2 ^ 20 := by omega
  have hsz : ∀ p ∈ outs, 0 ≤ p.1 ∧ p.1 < 2 ^ 20 := fun p hp => by
    have := sz p hp
    omega
  have h1 : f < 2 ∨ f = 2 ∨ f = 3 ∨ f = 4 ∨ f = 5 ∨ f = 6 ∨ f = 7 ∨ f = 8 := by omega
  have h2 : outs = [] ∨ 0 < outs.length := by
    cases outs with
    | nil => exact .inl rfl
    | cons a r => exact .inr (Nat.succ_pos _)
  rcases h1 with h | h | h | h | h | h | h | h
  · exact ev_send1 B F X T N ok hsm hlen e1 e2 e3 e4 hb1 hb2 hb3 hb4 hsix hoff hf0 h hret
  · rcases h2 with h2 | h2
    · exact ev_send2 B F X T N ok hsm hlen e1 e2 e3 e4 hb1 hb2 hb3 hb4 hsix hoff (by omega) (by omega) h2 hret
    · exact ev_lost B F X T N ok hsm hlen e1 e2 e3 e4 hb1 hb2 hb3 hb4 hsix hoff h h2 hret
  · rcases h2 with h2 | h2
    · exact ev_send2 B F X T N ok hsm hlen e1 e2 e3 e4 hb1 hb2 hb3 hb4 hsix hoff (by omega) (by omega) h2 hret
    · exact ev_ack3 B F X T N ok hsm hlen e1 e2 e3 e4 hb1 hb2 hb3 hb4 hsix hoff h h2 c0 hc1 cB hsz hret
  · rcases h2 with h2 | h2
    · exact ev_send2 B F X T N ok hsm hlen e1 e2 e3 e4 hb1 hb2 hb3 hb4 hsix hoff (by omega) (by omega) h2 hret
    · exact ev_ack4 B F X T N ok hsm hlen e1 e2 e3 e4 hb1 hb2 hb3 hb4 hsix hoff h h2 c0 hc1 cB hsz hret
  · rcases h2 with h2 | h2
    · exact ev_send2 B F X T N ok hsm hlen e1 e2 e3 e4 hb1 hb2 hb3 hb4 hsix hoff (by omega) (by omega) h2 hret
    · exact ev_disc B F X T N ok hsm hlen e1 e2 e3 e4 hb1 hb2 hb3 hb4 hsix hoff h h2 hret
  · rcases h2 with h2 | h2
    · exact ev_send2 B F X T N ok hsm hlen e1 e2 e3 e4 hb1 hb2 hb3 hb4 hsix hoff (by omega) (by omega) h2 hret
    · exact ev_mark B F X T N ok hsm hlen e1 e2 e3 e4 hb1 hb2 hb3 hb4 hsix hoff h h2 hret
  · by_cases hi3 : i.fmod 3 = 2
    · rcases h2 with h2 | h2
      · exact ev_pers0 B F X T N ok hsm hlen e1 e2 e3 e4 hb1 hb2 hb3 hb4 hsix hoff h hi3 h2 hret
      · exact ev_pers1 B F X T N ok hsm hlen e1 e2 e3 e4 hb1 hb2 hb3 hb4 hsix hoff h hi3 h2 hret
    · rcases h2 with h2 | h2
      · exact ev_none0 B F X T N ok hsm hlen e1 e2 e3 e4 hb1 hb2 hb3 hb4 hsix hoff h hi3 h2 hret
      · exact ev_none1 B F X T N ok hsm hlen e1 e2 e3 e4 hb1 hb2 hb3 hb4 hsix hoff h hi3 h2 hret
  · rcases h2 with h2 | h2
    · exact ev_eight0 B F X T N ok hsm hlen e1 e2 e3 e4 hb1 hb2 hb3 hb4 hsix hoff h h2 hret
    · exact ev_eight1 B F X T N ok hsm hlen e1 e2 e3 e4 hb1 hb2 hb3 hb4 hsix hoff h h2 hret

-- X2
section
variable {M : Model} {A : Around} {E : Value → Shared → Prop} {env : Env}
theorem execs_app_wp {Γ : Ctx} (hΓ : Γ.In A) {l2 : List Stmt} {Q : Flow → Shared → Prop} : ∀ (l1 : List Stmt) (p : Pos) (s : Shared),
    Sem.wp M Γ (execs l1 env) (fun f _ s' => match f with | .next => wpAny M A (execs l2 env) Q E s' | f => Q f s') (fun e _ s' => E e s') p s →
    Sem.wp M Γ (execs (l1 ++ l2) env) (fun f _ s' => Q f s') (fun e _ s' => E e s') p s
  | [], p, s, h => h Γ p hΓ
  | st :: rest, p, s, h => by
    rw [execs_cons, Sem.wp_bind'] at h
    show Sem.wp M Γ (execs (st :: (rest ++ l2)) env) _ _ p s
    rw [execs_cons, Sem.wp_bind']
    refine Sem.wp_mono M Γ _ (fun f p' s' h' => ?_) (fun _ _ _ h' => h') _ _ h
    cases f with
    | next => exact execs_app_wp hΓ rest p' s' h'
    | ret v => exact h'
    | brk => exact h'
    | cont => exact h'
theorem execs_app {l1 l2 : List Stmt} {Q : Flow → Shared → Prop} {s : Shared} (h : wpAny M A (execs l1 env) (fun f s' => match f with | .next => wpAny M A (execs l2 env) Q E s' | f => Q f s') E s) :
    wpAny M A (execs (l1 ++ l2) env) Q E s := fun Γ p hΓ => execs_app_wp hΓ l1 p s (h Γ p hΓ)
end

theorem fr_form {h₀ h : Heap} {L bx rn ot wd : Addr} {d : Int} {td : Tok} {now f i : Int} {tn tf ti : Tok} {m : Str → Option Value} (F : Fr h₀ L h m) (hf : m (Str.ofString "form") = some (.int f tf)) (ht : m (Str.ofString "turn") = some (.int i ti)) (h1 : m (Str.ofString "now") = some (.int now tn)) (h2 : m (Str.ofString "box") = some (.ref bx)) (h3 : m (Str.ofString "datagram") = some (.int d td))
    (h4 : m (Str.ofString "reno") = some (.ref rn)) (h5 : m (Str.ofString "out") = some (.ref ot)) (h6 : m (Str.ofString "world") = some (.ref wd)) :
    Fr h₀ L h (fun z => if z = Str.ofString "form" then some (.int f tf) else if z = Str.ofString "turn" then some (.int i ti) else lawFr bx rn ot wd d td now tn m z) := by
  have e : m = fun z => if z = Str.ofString "form" then some (.int f tf) else if z = Str.ofString "turn" then some (.int i ti) else lawFr bx rn ot wd d td now tn m z := by
    funext z
    by_cases a : z = Str.ofString "form"
    · rw [if_pos a, a]; exact hf
    · rw [if_neg a]
      by_cases b : z = Str.ofString "turn"
      · rw [if_pos b, b]; exact ht
      · rw [if_neg b, ← lawFr_of h1 h2 h3 h4 h5 h6]
  rw [← e]
  exact F

theorem draw_ok {w : World} {mean : ExcName → Option Value} {mg mb : Str → Option Value} {bx ls rn rd ot wd fa : Addr} {cd : Value} {d : Int} {td : Tok} {now i : Int} {tn ti : Tok} {u : Str → Option Value} {base h₀ : Heap} {L : Addr} {s : Shared} {Q : Flow → Shared → Prop} {E : Value → Shared → Prop}
   {seed : Int} {ts : Tok} {nb nl no : Nat} {lvs ovs : List Value} {lst : List Int} {wo ro : Obj} {tl : Led}
   (B : Below callerA base [] h₀) (F : Fr h₀ L s.heap (fun z => if z = Str.ofString "turn" then some (.int i ti) else lawFr bx rn ot wd d td now tn u z)) (X : (lawTop.heap_39 w.params).In h₀) (T : TopF mean mg mb h₀)
   (N : News h₀ L s.heap (ledOf bx ls ot wd rn rd seed ts nb nl no lvs ovs wo ro tl))
   (hI : IntsAre lvs lst) (hL : lst.length ≤ 24) (hs0 : 0 ≤ seed) (hs1 : seed < 2147483647) (hsix : Six bx ls ot wd rn rd) (hoff : OwnOff tl [bx, ls, ot, wd, rn, rd])
   (hret : ∀ f now' tf' tn' seed' ts' nb' nl' lvs' lst' u' h' tk', 0 ≤ f → f < 9 → IntsAre lvs' lst' → lst'.length ≤ 24 → 0 ≤ seed' → seed' < 2147483647 →
     Fr h₀ L h' (fun z => if z = Str.ofString "form" then some (.int f tf') else if z = Str.ofString "turn" then some (.int i ti) else lawFr bx rn ot wd d td now' tn' u' z) →
     News h₀ L h' (ledOf bx ls ot wd rn rd seed' ts' nb' nl' no lvs' ovs wo ro tl) → Q .next { s with heap := h', toks := tk' }) :
   wpAny (model PySem.Challenge.rw_no0058_01.row.prog w) (callerA.deeper (lawEnv L fa cd)) (execs drawStmt (lawEnv L fa cd)) Q E s := by
  revert X
  k_fill
  intro X
  with_unfolding_all (show wpAny _ (Around.deeper _ (envOf _ (Scope.mk _ _ _ _ _) _ _ _)) (execs [_] (envOf _ (Scope.mk _ _ _ _ _) _ _ _)) _ _ _)
  have hapt := apt_of hsix hoff
  obtain ⟨ap1, ap2, ap3, ap4, ap5, ap6, ap7, ap8, ap9, ap10, ap11, ap12, ap13, ap14, ap15⟩ := hsix.apart
  simp only [lawFr] at F
  unfold ledOf at N
  w_top off; k_steps
  rename Fr _ _ _ _ => hFE
  rename News _ _ _ _ => hNE
  rename IntsAre _ _ => hIE
  (try dsimp only at hFE hNE ⊢)
  with_reducible rename Drawn _ 9 => hdr
  exact hret _ _ _ _ _ _ _ _ _ _ _ _ _ hdr.lo hdr.hi hIE (by assumption) (by assumption) (by assumption) (fr_form hFE rfl rfl rfl rfl rfl rfl rfl rfl) (drop1 hNE)

-- X3
theorem OutsAre.drop {tl tl' : Led} {vs : List Value} {ps : List (Int × Int)} (h : OutsAre tl vs ps) (hs : ∀ v p, OutIs tl v p → OutIs tl' v p) : OutsAre tl' vs ps := by
  induction h with
  | nil => exact .nil
  | cons h _ ih => exact .cons (hs _ _ h) ih
theorem off_app {a l : Led} {adr : List Addr} (h : ∀ q ∈ a, ∀ b ∈ adr, q.1 ≠ b) (hl : OwnOff l adr) : OwnOff (a ++ l) adr := by
  intro p hp b hb
  rcases List.mem_append.mp hp with hp | hp
  · exact h p hp b hb
  · exact hl p hp b hb

theorem turn_ok {w : World} {mean : ExcName → Option Value} {mg mb : Str → Option Value} {bx ls rn rd ot wd fa : Addr} {cd : Value} {td : Tok} {now i : Int} {tn ti : Tok} {u : Str → Option Value} {base h₀ : Heap} {L : Addr} {s : Shared} {Q : Flow → Shared → Prop} {E : Value → Shared → Prop}
   {seed : Int} {ts : Tok} {nb nl no : Nat} {lvs ovs : List Value} {lst : List Int} {wo ro : Obj} {x : Rm} {y : Wm} {outs : List (Int × Int)} {tl : Led} {n : Nat}
   (B : Below callerA base [] h₀) (F : Fr h₀ L s.heap (fun z => if z = Str.ofString "turn" then some (.int i ti) else lawFr bx rn ot wd x.d td now tn u z)) (X : (lawTop.heap_39 w.params).In h₀) (T : TopF mean mg mb h₀)
   (N : News h₀ L s.heap (ledOf bx ls ot wd rn rd seed ts nb nl no lvs ovs wo ro tl))
   (ok : Ok w ro wo x y tl ovs outs lvs lst seed) (hsm : (wd == sysModules) = false) (hI : Inv n x y outs) (hn : n < 18)
   (hsix : Six bx ls ot wd rn rd) (hoff : OwnOff tl [bx, ls, ot, wd, rn, rd])
   (hret : ∀ x' y' outs' now' tn' ro' wo' ovs' no' seed' ts' nb' nl' lvs' lst' add u' h' tk', Inv (n + 1) x' y' outs' → x'.d = x.d → Ok w ro' wo' x' y' (add ++ tl) ovs' outs' lvs' lst' seed' →
     (∀ q ∈ add, ∀ b ∈ [bx, ls, ot, wd, rn, rd], q.1 ≠ b) → (∀ q ∈ add, ∀ p ∈ tl, p.1 ≠ q.1) →
     Fr h₀ L h' (lawFr bx rn ot wd x.d td now' tn' u') → News h₀ L h' (ledOf bx ls ot wd rn rd seed' ts' nb' nl' no' lvs' ovs' wo' ro' (add ++ tl)) → Q .next { s with heap := h', toks := tk' }) :
   wpAny (model PySem.Challenge.rw_no0058_01.row.prog w) (callerA.deeper (lawEnv L fa cd)) (execs loopBody (lawEnv L fa cd)) Q E s := by
  have hsplit : loopBody = drawStmt ++ (caseStmt ++ tailStmts) := by with_unfolding_all rfl
  rw [hsplit]
  refine execs_app (draw_ok B F X T N ok.okI ok.okL ok.okA ok.okB hsix hoff ?_)
  intro f now' tf' tn' seed' ts' nb' nl' lvs' lst' u' h' tk' hf0 hf1 hi hl h0 h1 F' N'
  refine execs_app (ev_all B F' X T N' ⟨ok.okR, ok.okW, ok.okO, hi, hl, h0, h1⟩ hsm hI hn hsix hoff hf0 hf1 ?_)
  intro x' y' outs' ro' wo' ovs' no' seed2 ts2 nb2 nl2 lvs2 lst2 add u2 h2 tk2 st hd ok' a1 a2 F2 N2
  have hI' := inv_step hI (by omega) st
  have hoff' := off_app a1 hoff
  have hapt := apt_of hsix hoff'
  have hfit := inv_fits hI' (by omega)
  obtain ⟨hb1, hb2⟩ := inv_bot hI' (by omega)
  have hlen : outs'.length ≤ 18 := by
    obtain ⟨k, hk, _⟩ := hI'.ca
    omega
  have hdd := hI'.dd
  rw [← hd] at F2
  refine tail_ok B F2 X T N2 ok'.okR ok'.okW hsm ok'.okO hlen hI'.e3 hI'.e4 hI'.fl hI'.lo (by omega) (by omega) hb1 hb2 (fun _ => hfit) hapt.rr hapt.rw hapt.dw hoff' (hapt.both _ _ _) ?_
  intro u3 h3 tk3 F3 N3
  rw [hd] at F3
  exact hret x' y' outs' now' tn' ro' wo' ovs' no' seed2 ts2 nb2 nl2 lvs2 lst2 add u3 h3 tk3 hI' hd ok' a1 a2 F3 N3

/-- not a packet -/
def NoTup (own : Led) : Prop := ∀ p ∈ own, ∀ a b n, p.2 ≠ tupOf a b n

section
variable {prog : Program} {w : World} {A : Around} {E : Value → Shared → Prop} {s : Shared} {env : Env} {h₀ : Heap} {x : Str} {body : List Stmt} {Q : Flow → Shared → Prop}
/-- eighteen turns over a range; what the loop owns is no packet -/
theorem loop18 {r : Addr} {t₀ u₀ v₀ : Tok} {m₀ : Str → Option Value} {news : Led} (J : Nat → (Str → Option Value) → Led → Prop)
    (hh : A.handled = none) (hr : IsRange s.heap r 0 18 1 t₀ u₀ v₀) (F : Fr h₀ env.locals s.heap m₀) (N : News h₀ env.locals s.heap news) (hj : J 0 m₀ news)
    (turn : ∀ (i : Nat) t m₁ nx h tk own, i < 18 → OwnOff own (nx.map (·.1)) → NoTup own → J i m₁ nx → Fr h₀ env.locals h (fun y => if y = x then some (.int (i : Int) t) else m₁ y) → News h₀ env.locals h (nx ++ own) →
      wpAny (model prog w) A (execs body env) (InvPostG h₀ env.locals (J (i + 1)) own { s with heap := h, toks := tk } Q) E { s with heap := h, toks := tk })
    (done : ∀ m₁ nx h tk, J 18 m₁ nx → Fr h₀ env.locals h m₁ → News h₀ env.locals h nx → Q .next { s with heap := h, toks := tk }) :
    wpAny (model prog w) A (pyIter (.ref r)) (fun it s₂ => LoopAtV prog w A h₀ env x body Q E it s₂) E s := by
  have hsz : Builtin.Range.rangeSize 0 18 1 = ((18 : Nat) : Int) := by decide
  refine wpAny_pyIter_range hr (by decide) ?_
  have W : Walks prog w A s.heap.objs.size [s.heap.objs.size] [s.heap.objs.size] 18 (fun i v => i < 18 ∧ ∃ t, v = .int ((0 : Int) + i * 1) t)
      (fun i h => IsRangeIter h s.heap.objs.size ((0 : Int) + (i : Nat) * 1) (((18 : Nat) : Int) - (i : Nat)) 1) := (Walks.range hh _ 0 1 18).bound
  have hlt : ∀ p ∈ news, p.1 ∉ [s.heap.objs.size] := by
    intro p hp hI
    exact absurd (Heap.lt_size (N p hp).1) ((List.mem_singleton.mp hI) ▸ Nat.lt_irrefl _)
  refine ⟨_, _, _, 18, _, _, m₀, news, J, rfl, W, ?_, ?_, hlt, (by show IsRangeIter _ _ _ _ _; rw [hsz]; simpa using Heap.get?_push_size _ rfl), F.push _, (fun p hp => ⟨Heap.get?_push_of_some _ (N p hp).1, (N p hp).2⟩), hj, ?_, ?_⟩
  · intro hm
    exact absurd F.ns.lt ((List.mem_singleton.mp hm) ▸ Nat.lt_irrefl _)
  · intro b hb
    rw [List.mem_singleton.mp hb]
    exact next_is_new F
  · rintro i v m₁ nx s₁ own ⟨hh', tk', rfl⟩ hin ⟨_, t, rfl⟩ hJ hoff hown _ hmem hst' F₁ N₁
    have e1 : (0 : Int) + (i : Int) * 1 = (i : Int) := by omega
    rw [e1] at F₁
    have hsep : OwnOff own (nx.map (·.1)) := by
      intro p hp b hb e
      obtain ⟨q, hq, rfl⟩ := List.mem_map.mp hb
      exact hoff q hq (e ▸ hown p hp)
    have hno : NoTup own := by
      intro p hp a b n e
      have h1 := (N₁ p (List.mem_append.mpr (.inl hp))).1
      rw [List.mem_singleton.mp (hown p hp), e] at h1
      have h2 := congrArg Obj.cls (Option.some.inj (h1.symm.trans hst'))
      have h3 : Value.type "tuple" = Value.type "range_iterator" := h2
      injection h3 with h4
      exact absurd h4 (by decide)
    have N₂ : News h₀ env.locals hh' (nx ++ own) := fun p hp => N₁ p ((List.mem_append.mp hp).elim (fun h => List.mem_append.mpr (.inr h)) fun h => List.mem_append.mpr (.inl h))
    refine wpAny_mono (turn i t m₁ nx hh' tk' own hin hsep hno hJ F₁ N₂) (fun f s₂ p => ?_) fun _ _ e => e
    have fin : InvEndG h₀ env.locals (J (i + 1)) own { s with heap := hh', toks := tk' } s₂ → LoopStepU h₀ env.locals [s.heap.objs.size] own (J (i + 1)) { s with heap := hh', toks := tk' } .next s₂ := by
      rintro ⟨h', tk, m', news', nx', e, F', N', hn, ho, ha, hm⟩
      refine ⟨rfl, h', tk, m', nx', e, F', fun p hp => N' p ((List.mem_append.mp hp).elim (ho p) (hn p)), fun p hp hq => ?_, hm⟩
      have hmine := hmem _ (List.mem_singleton.mpr rfl) (next_is_new F) _ hst'
      exact ha _ hmine _ (List.mem_map.mpr ⟨p, hp, rfl⟩) (List.mem_singleton.mp hq).symm
    cases f with
    | ret v => exact .ret p
    | brk => exact .brk p
    | next => exact .next (fin p)
    | cont => exact .cont (fin p)
  · rintro h' tk m' news' F' N' _ hJ
    exact done m' news' h' tk hJ F' N'
end

/-- what holds between the turns -/
def J (w : World) (bx ls ot wd rn rd : Addr) (d : Int) (td : Tok) (i : Nat) (m : Str → Option Value) (nx : Led) : Prop :=
  ∃ x y outs now tn ro wo ovs no seed ts nb nl lvs lst tl u, m = lawFr bx rn ot wd d td now tn u ∧ nx = ledOf bx ls ot wd rn rd seed ts nb nl no lvs ovs wo ro tl ∧ x.d = d ∧ OwnOff tl [bx, ls, ot, wd, rn, rd] ∧
    Ok w ro wo x y tl ovs outs lvs lst seed ∧ Inv i x y outs

theorem turn_J {w : World} {mean : ExcName → Option Value} {mg mb : Str → Option Value} {bx ls rn rd ot wd fa : Addr} {cd : Value} {d : Int} {td : Tok} {base h₀ : Heap} {L : Addr} {s : Shared} {Q : Flow → Shared → Prop} {E : Value → Shared → Prop}
   (B : Below callerA base [] h₀) (X : (lawTop.heap_39 w.params).In h₀) (T : TopF mean mg mb h₀) (hsm : (wd == sysModules) = false) (hsix : Six bx ls ot wd rn rd)
   (i : Nat) (t : Tok) (m₁ : Str → Option Value) (nx : Led) (h : Heap) (tk : Nat) (own : Led) (hi : i < 18) (hown : OwnOff own (nx.map (·.1))) (hno : NoTup own) (hJ : J w bx ls ot wd rn rd d td i m₁ nx)
   (F : Fr h₀ L h (fun y => if y = Str.ofString "turn" then some (.int (i : Int) t) else m₁ y)) (N : News h₀ L h (nx ++ own)) :
   wpAny (model PySem.Challenge.rw_no0058_01.row.prog w) (callerA.deeper (lawEnv L fa cd)) (execs loopBody (lawEnv L fa cd)) (InvPostG h₀ L (J w bx ls ot wd rn rd d td (i + 1)) own { s with heap := h, toks := tk } Q) E { s with heap := h, toks := tk } := by
  obtain ⟨x, y, outs, now, tn, ro, wo, ovs, no, seed, ts, nb, nl, lvs, lst, tl, u, rfl, rfl, rfl, htl, ok, hI⟩ := hJ
  have hadr : ∀ b ∈ [bx, ls, ot, wd, rn, rd], b ∈ (ledOf bx ls ot wd rn rd seed ts nb nl no lvs ovs wo ro tl).map (·.1) := by
    intro b hb
    simp only [List.mem_cons, List.not_mem_nil, or_false] at hb
    simp only [ledOf, List.map_cons, List.mem_cons]
    rcases hb with rfl | rfl | rfl | rfl | rfl | rfl <;> simp
  have hownA : OwnOff own [bx, ls, ot, wd, rn, rd] := fun p hp b hb => hown p hp b (hadr b hb)
  have hoff : OwnOff (tl ++ own) [bx, ls, ot, wd, rn, rd] := by
    intro p hp b hb
    rcases List.mem_append.mp hp with hp | hp
    · exact htl p hp b hb
    · exact hownA p hp b hb
  have ok2 : Ok w ro wo x y (tl ++ own) ovs outs lvs lst seed := ⟨ok.okR, ok.okW, ok.okO.mono (fun q hq => List.mem_append.mpr (.inl hq)), ok.okI, ok.okL, ok.okA, ok.okB⟩
  refine turn_ok (s := { s with heap := h, toks := tk }) (n := i) B F X T N ok2 hsm hI hi hsix hoff ?_
  intro x' y' outs' now' tn' ro' wo' ovs' no' seed' ts' nb' nl' lvs' lst' add u' h' tk' hI' hd' ok' a1 a2 F' N'
  show InvEndG h₀ L _ own { s with heap := h, toks := tk } _
  have hout : OutsAre (add ++ tl) ovs' outs' := by
    refine ok'.okO.drop fun v p hv => ?_
    obtain ⟨a, t1, t2, n, e, hm⟩ := hv
    refine ⟨a, t1, t2, n, e, ?_⟩
    rcases List.mem_append.mp hm with hm | hm
    · exact List.mem_append.mpr (.inl hm)
    · rcases List.mem_append.mp hm with hm | hm
      · exact List.mem_append.mpr (.inr hm)
      · exact absurd rfl (hno _ hm _ _ _)
  have htl' : OwnOff (add ++ tl) [bx, ls, ot, wd, rn, rd] := off_app a1 htl
  have N2 : News h₀ L h' (ledOf bx ls ot wd rn rd seed' ts' nb' nl' no' lvs' ovs' wo' ro' (add ++ tl) ++ own) := by
    have e : ledOf bx ls ot wd rn rd seed' ts' nb' nl' no' lvs' ovs' wo' ro' (add ++ tl) ++ own = ledOf bx ls ot wd rn rd seed' ts' nb' nl' no' lvs' ovs' wo' ro' (add ++ (tl ++ own)) := by
      simp only [ledOf, List.cons_append, List.append_assoc]
    rw [e]
    exact N'
  refine InvEndG.intro (nx := ledOf bx ls ot wd rn rd seed' ts' nb' nl' no' lvs' ovs' wo' ro' (add ++ tl)) F' N2 ?_ ?_ (fun p hp => List.mem_append.mpr (.inl hp)) (fun p hp => List.mem_append.mpr (.inr hp))
  · exact ⟨x', y', outs', now', tn', ro', wo', ovs', no', seed', ts', nb', nl', lvs', lst', add ++ tl, u', rfl, rfl, hd', htl', ⟨ok'.okR, ok'.okW, hout, ok'.okI, ok'.okL, ok'.okA, ok'.okB⟩, hI'⟩
  · intro p hp b hb
    simp only [ledOf, List.map_cons, List.map_append, List.mem_cons, List.mem_append] at hb
    rcases hb with rfl | rfl | rfl | rfl | rfl | rfl | hb
    · exact hownA p hp _ (by simp)
    · exact hownA p hp _ (by simp)
    · exact hownA p hp _ (by simp)
    · exact hownA p hp _ (by simp)
    · exact hownA p hp _ (by simp)
    · exact hownA p hp _ (by simp)
    · rcases hb with hb | hb
      · obtain ⟨q, hq, rfl⟩ := List.mem_map.mp hb
        exact a2 q hq p (List.mem_append.mpr (.inr hp))
      · obtain ⟨q, hq, rfl⟩ := List.mem_map.mp hb
        refine hown p hp _ ?_
        simp only [ledOf, List.map_cons, List.mem_cons]
        exact .inr (.inr (.inr (.inr (.inr (.inr (List.mem_map.mpr ⟨q, hq, rfl⟩))))))

-- X4
noncomputable section
def preStmts : List Stmt := (lawBody.drop 2).take 4
def forStmts : List Stmt := ((lawBody.drop 2).drop 4).take 1
def endStmts : List Stmt := (lawBody.drop 2).drop 5
end
/-- the window at the start -/
def startW (d : Int) : Int := if (if 2 * d > 14720 then 2 * d else 14720) < 10 * d then (if 2 * d > 14720 then 2 * d else 14720) else 10 * d

/-- six places, each made after the last -/
theorem six_of {bx ls ot wd rn rd : Nat} (h0 : bx ≠ ls) (h1 : bx < rd ∧ ls < rd) (h2 : rd < rn) (h3 : rn < ot) (h4 : ot < wd) : Six bx ls ot wd rn rd :=
  have b1 := Nat.lt_trans h1.1 h2
  have b2 := Nat.lt_trans b1 h3
  have b3 := Nat.lt_trans b2 h4
  have l1 := Nat.lt_trans h1.2 h2
  have l2 := Nat.lt_trans l1 h3
  have l3 := Nat.lt_trans l2 h4
  have r2 := Nat.lt_trans h2 h3
  have r3 := Nat.lt_trans r2 h4
  have n3 := Nat.lt_trans h3 h4
  ⟨h0, Nat.ne_of_lt b2, Nat.ne_of_lt b3, Nat.ne_of_lt b1, Nat.ne_of_lt h1.1, Nat.ne_of_lt l2, Nat.ne_of_lt l3, Nat.ne_of_lt l1, Nat.ne_of_lt h1.2, Nat.ne_of_lt h4, Nat.ne_of_gt h3, Nat.ne_of_gt r2, Nat.ne_of_gt n3, Nat.ne_of_gt r3, Nat.ne_of_gt h2⟩

theorem pre_ok {w : World} {mean : ExcName → Option Value} {mg mb : Str → Option Value} {bx ls fa : Addr} {cd : Value} {d : Int} {td : Tok} {u : Str → Option Value} {base h₀ : Heap} {L : Addr} {s : Shared} {Q : Flow → Shared → Prop} {E : Value → Shared → Prop}
   {seed : Int} {ts : Tok} {nb nl : Nat} {lvs : List Value}
   (B : Below callerA base [] h₀) (F : Fr h₀ L s.heap (fun z => if z = Str.ofString "datagram" then some (.int d td) else if z = Str.ofString "box" then some (.ref bx) else u z)) (X : (lawTop.heap_39 w.params).In h₀) (T : TopF mean mg mb h₀)
   (N : News h₀ L s.heap [(bx, listOf #[.ref ls, .int seed ts] nb), (ls, listOf lvs.toArray nl)]) (hbl : @Ne Nat bx ls)
   (hd : d = 1200 ∨ d = 1472 ∨ d = 9000)
   (hret : ∀ rn rd ot wd td' tn ro wo no u' h' tk', Six bx ls ot wd rn rd → (wd == sysModules) = false → RenoIs w ro ⟨d, startW d, none, none, 0, 0⟩ → WorldIs w wo ⟨d, none, none, startW d, startW d, 0, 1, false⟩ →
     Fr h₀ L h' (lawFr bx rn ot wd d td' 100 tn u') → News h₀ L h' (ledOf bx ls ot wd rn rd seed ts nb nl no lvs [] wo ro []) → Q .next { s with heap := h', toks := tk' }) :
   wpAny (model PySem.Challenge.rw_no0058_01.row.prog w) (callerA.deeper (lawEnv L fa cd)) (execs preStmts (lawEnv L fa cd)) Q E s := by
  revert X
  k_fill
  intro X
  with_unfolding_all (show wpAny _ (Around.deeper _ (envOf _ (Scope.mk _ _ _ _ _) _ _ _)) (execs [_, _, _, _] (envOf _ (Scope.mk _ _ _ _ _) _ _ _)) _ _ _)
  have hd0 : 0 ≤ d := by omega
  have hd1 : d < 2 ^ 20 := by omega
  w_top off; k_steps
  · exact absurd rfl (by assumption)
  · exact absurd rfl (by assumption)
  with_reducible rename bx < _ ∧ ls < _ => hq1
  with_reducible rename _ < _ ∧ _ < _ ∧ bx < _ ∧ ls < _ => hq3
  with_reducible rename (_ : Nat) < _ => hq2
  with_reducible rename _ < _ ∧ _ < _ ∧ _ < _ ∧ _ < _ ∧ bx < _ ∧ ls < _ => hq5
  rename Fr _ _ _ _ => hFE
  rename News _ _ _ _ => hNE
  rename Obj.IsDictOf _ _ _ => hdE
  rename PyProof.V.FlatPairs _ _ _ => hfE
  (try dsimp only at hFE hNE ⊢)
  refine' hret _ _ _ _ _ _ _ _ _ _ _ _ ?six ?sm ?R ⟨_, hdE, flat_of hfE (by kernel_rfl)⟩ (fr_law hFE rfl rfl rfl rfl rfl rfl) ?N
  case N => exact cb_drop hNE (by kcj_all)
  case six => exact six_of hbl hq1 hq2 hq3.1 hq5.2.1
  case sm => assumption
  case R => exact ⟨_, _, _, _, _, _, _, _, 0, 0, _, _, rfl⟩

-- X5
theorem for_ok {w : World} {mean : ExcName → Option Value} {mg mb : Str → Option Value} {bx ls rn rd ot wd fa : Addr} {cd : Value} {d : Int} {td : Tok} {base h₀ : Heap} {L : Addr} {s : Shared} {Q : Flow → Shared → Prop} {E : Value → Shared → Prop} {m₀ : Str → Option Value} {news : Led}
   (B : Below callerA base [] h₀) (F : Fr h₀ L s.heap m₀) (X : (lawTop.heap_39 w.params).In h₀) (T : TopF mean mg mb h₀) (N : News h₀ L s.heap news) (hsm : (wd == sysModules) = false) (hsix : Six bx ls ot wd rn rd)
   (hE : PassesOwn (model PySem.Challenge.rw_no0058_01.row.prog w) (callerA.deeper (lawEnv L fa cd)) (lawEnv L fa cd) E)
   (hJ : J w bx ls ot wd rn rd d td 0 m₀ news)
   (hret : ∀ h' tk' m', Fr h₀ L h' m' → Q .next { s with heap := h', toks := tk' }) :
   wpAny (model PySem.Challenge.rw_no0058_01.row.prog w) (callerA.deeper (lawEnv L fa cd)) (execs forStmts (lawEnv L fa cd)) Q E s := by
  revert X
  k_fill
  intro X
  with_unfolding_all (show wpAny _ (Around.deeper _ (envOf _ (Scope.mk _ _ _ _ _) _ _ _)) (execs [_] (envOf _ (Scope.mk _ _ _ _ _) _ _ _)) _ _ _)
  refine wpAny_execs_cons ?_
  refine For_invVF F rfl rfl ?_ (by intro _; rfl) hE
  iterate 7 walk1
  rename Fr _ _ _ _ => hFE
  rename News _ _ _ _ => hNE
  rename IsRange _ _ _ _ _ _ _ _ => hrg
  refine loop18 (J w bx ls ot wd rn rd d td) rfl hrg hFE hNE hJ (fun i t m₁ nx h tk own hi hown hno hJ' F' N' => turn_J B X T hsm hsix i t m₁ nx h tk own hi hown hno hJ' F' N') ?_
  intro m₁ nx h tk _ F' _
  exact wpAny_execs_nil (hret _ _ _ F')

theorem start_inv {d : Int} (hd : d = 1200 ∨ d = 1472 ∨ d = 9000) : Inv 0 ⟨d, startW d, none, none, 0, 0⟩ ⟨d, none, none, startW d, startW d, 0, 1, false⟩ [] := by
  have h1 : 2 * d ≤ startW d ∧ startW d ≤ 20000 := by
    rcases hd with rfl | rfl | rfl <;> decide
  refine ⟨hd, rfl, rfl, rfl, rfl, h1.1, ?_, rfl, (fun _ hp => nomatch hp), 0, by decide, ca_restart ?_ rfl rfl rfl rfl rfl⟩
  · show startW d ≤ _
    have := h1.2
    omega
  · show 0 < startW d
    have := h1.1
    omega

theorem rest_ok {w : World} {mean : ExcName → Option Value} {mg mb : Str → Option Value} {bx ls fa : Addr} {cd : Value} {d : Int} {td : Tok} {u : Str → Option Value} {base h₀ : Heap} {L : Addr} {s : Shared} {Q : Flow → Shared → Prop} {E : Value → Shared → Prop}
   {seed : Int} {ts : Tok} {nb nl : Nat} {lvs : List Value} {lst : List Int}
   (B : Below callerA base [] h₀) (F : Fr h₀ L s.heap (fun z => if z = Str.ofString "datagram" then some (.int d td) else if z = Str.ofString "box" then some (.ref bx) else u z)) (X : (lawTop.heap_39 w.params).In h₀) (T : TopF mean mg mb h₀)
   (N : News h₀ L s.heap [(bx, listOf #[.ref ls, .int seed ts] nb), (ls, listOf lvs.toArray nl)]) (hbl : @Ne Nat bx ls)
   (hI : IntsAre lvs lst) (hL : lst.length ≤ 24) (hs0 : 0 ≤ seed) (hs1 : seed < 2147483647)
   (hE : PassesOwn (model PySem.Challenge.rw_no0058_01.row.prog w) (callerA.deeper (lawEnv L fa cd)) (lawEnv L fa cd) E)
   (hd : d = 1200 ∨ d = 1472 ∨ d = 9000)
   (hret : ∀ h' tk' m', Fr h₀ L h' m' → Q (.ret (.bool true)) { s with heap := h', toks := tk' }) :
   wpAny (model PySem.Challenge.rw_no0058_01.row.prog w) (callerA.deeper (lawEnv L fa cd)) (execs (lawBody.drop 2) (lawEnv L fa cd)) Q E s := by
  have hsplit : lawBody.drop 2 = preStmts ++ (forStmts ++ endStmts) := by with_unfolding_all rfl
  rw [hsplit]
  refine execs_app (pre_ok B F X T N hbl hd ?_)
  intro rn rd ot wd td' tn ro wo no u' h' tk' hsix hsm hR hW F' N'
  refine execs_app (for_ok B F' X T N' hsm hsix hE ⟨_, _, [], 100, tn, ro, wo, [], no, seed, ts, nb, nl, lvs, lst, [], u', rfl, rfl, rfl, fun _ hp => (nomatch hp), ⟨hR, hW, .nil, hI, hL, hs0, hs1⟩, start_inv hd⟩ ?_)
  intro h2 tk2 m2 F2
  with_unfolding_all (show wpAny _ (Around.deeper _ (envOf _ (Scope.mk _ _ _ _ _) _ _ _)) (execs [_] (envOf _ (Scope.mk _ _ _ _ _) _ _ _)) _ _ _)
  refine wpAny_execs_cons (wpAny_Return_some ?_)
  walk1
  exact hret _ _ _ F2

-- X6
theorem rot3 {h₀ h : Heap} {L : Addr} {a b c : Addr × Obj} (N : News h₀ L h [a, b, c]) : News h₀ L h [b, c, a] := fun p hp => N p (by
  simp only [List.mem_cons, List.not_mem_nil, or_false] at hp ⊢
  rcases hp with h | h | h <;> simp [h])
theorem off1 {l bx ls : Nat} {o : Obj} (g : bx < l ∧ ls < l) : OwnOff [((l, o) : Addr × Obj)] [bx, ls] := by
  intro p hp b hb
  rw [List.mem_singleton.mp hp]
  simp only [List.mem_cons, List.not_mem_nil, or_false] at hb
  show l ≠ b
  rcases hb with rfl | rfl <;> omega
theorem take12 {h₀ h : Heap} {L : Addr} {a b c : Addr × Obj} (N : News h₀ L h [a, b, c]) : News h₀ L h [a, b] := fun p hp => N p (by
  simp only [List.mem_cons, List.not_mem_nil, or_false] at hp ⊢
  rcases hp with h | h <;> simp [h])
theorem menu3 {r : Int} (h : Drawn r 3) : [1200, 1472, 9000].getD r.toNat (0 : Int) = 1200 ∨ [1200, 1472, 9000].getD r.toNat (0 : Int) = 1472 ∨ [1200, 1472, 9000].getD r.toNat (0 : Int) = 9000 := by
  obtain ⟨h0, h1⟩ := h
  have h2 : r = 0 ∨ r = 1 ∨ r = 2 := by omega
  rcases h2 with rfl | rfl | rfl <;> simp
noncomputable def datStmts : List Stmt := (lawBody.drop 1).take 1
section
variable {w : World} {mean : ExcName → Option Value} {mg mb : Str → Option Value} {A : Around} {h₀ : Heap} {L : Addr} {m : Str → Option Value} {s : Shared} {Q E : Value → Shared → Prop}
theorem use_take3 {l bx ls : Addr} {o : Obj} {seed wide : Int} {ts tw : Tok} {nb nl : Nat} {lvs : List Value} {lst : List Int} {vs : List Value} (hv : vs = [.ref bx, .int wide tw]) (F : Fr h₀ L s.heap m) (H : Here w mean mg mb 1 A h₀ L)
   (N : News h₀ L s.heap [(l, o), (bx, listOf #[.ref ls, .int seed ts] nb), (ls, listOf lvs.toArray nl)]) (g : bx < l ∧ ls < l) (hbl : @Ne Nat bx ls) (hi : IntsAre lvs lst) (hlen : lst.length ≤ 24) (hs0 : 0 ≤ seed) (hs1 : seed < 2147483647) (hw : 0 < wide) (hw2 : wide < 2 ^ 60)
   (ret : ∀ h' tk' r t seed' ts' nb' nl' lvs' lst', 0 ≤ r → r < wide → Drawn r wide → IntsAre lvs' lst' → lst'.length ≤ 24 → 0 ≤ seed' → seed' < 2147483647 → Fr h₀ L h' m →
     News h₀ L h' [(bx, listOf #[.ref ls, .int seed' ts'] nb'), (ls, listOf lvs'.toArray nl'), (l, o)] → Q (.int r t) { s with heap := h', toks := tk' }) :
   wpAny (model PySem.Challenge.rw_no0058_01.row.prog w) A (call (.ref 126) vs) Q E s :=
  hv ▸ Ct.run H F (rot3 N) (take_ct hi hlen hs0 hs1 hw hw2 hbl (off1 g)) fun v n' h' tk' hp F' N' => by
    obtain ⟨_, _, _, _, _, _, _, _, rfl, g1, g2, g3, g4, g5, g6, rfl⟩ := hp
    exact ret _ _ _ _ _ _ _ _ _ _ g1 g2 ⟨g1, g2⟩ g3 g4 g5 g6 F' N'
end
local macro_rules | `(tactic| walk_at "call ref") => `(tactic| ((with_reducible apply use_take3) <;> walk_at "uses"))

theorem dat_ok {w : World} {mean : ExcName → Option Value} {mg mb : Str → Option Value} {bx ls fa : Addr} {cd : Value} {u : Str → Option Value} {base h₀ : Heap} {L : Addr} {s : Shared} {Q : Flow → Shared → Prop} {E : Value → Shared → Prop}
   {seed : Int} {ts : Tok} {nb nl : Nat} {lvs : List Value} {lst : List Int}
   (B : Below callerA base [] h₀) (F : Fr h₀ L s.heap (fun z => if z = Str.ofString "box" then some (.ref bx) else u z)) (X : (lawTop.heap_39 w.params).In h₀) (T : TopF mean mg mb h₀)
   (N : News h₀ L s.heap [(bx, listOf #[.ref ls, .int seed ts] nb), (ls, listOf lvs.toArray nl)]) (hbl : @Ne Nat bx ls)
   (hI : IntsAre lvs lst) (hL : lst.length ≤ 24) (hs0 : 0 ≤ seed) (hs1 : seed < 2147483647)
   (hret : ∀ d td seed' ts' nb' nl' lvs' lst' h' tk', (d = 1200 ∨ d = 1472 ∨ d = 9000) → IntsAre lvs' lst' → lst'.length ≤ 24 → 0 ≤ seed' → seed' < 2147483647 →
     Fr h₀ L h' (fun z => if z = Str.ofString "datagram" then some (.int d td) else if z = Str.ofString "box" then some (.ref bx) else u z) →
     News h₀ L h' [(bx, listOf #[.ref ls, .int seed' ts'] nb'), (ls, listOf lvs'.toArray nl')] → Q .next { s with heap := h', toks := tk' }) :
   wpAny (model PySem.Challenge.rw_no0058_01.row.prog w) (callerA.deeper (lawEnv L fa cd)) (execs datStmts (lawEnv L fa cd)) Q E s := by
  revert X
  k_fill
  intro X
  with_unfolding_all (show wpAny _ (Around.deeper _ (envOf _ (Scope.mk _ _ _ _ _) _ _ _)) (execs [_] (envOf _ (Scope.mk _ _ _ _ _) _ _ _)) _ _ _)
  w_top off; k_steps
  rename Fr _ _ _ _ => hFE
  rename News _ _ _ _ => hNE
  rename IntsAre _ _ => hIE
  rename Drawn _ _ => hdr
  (try dsimp only at hFE hNE ⊢)
  exact hret _ _ _ _ _ _ _ _ _ _ (menu3 hdr) hIE (by assumption) (by assumption) (by assumption) hFE (take12 hNE)

-- the joint
theorem take24 {h₀ h : Heap} {L : Addr} {a b c d : Addr × Obj} (N : News h₀ L h [a, b, c, d]) : News h₀ L h [a, b] := fun p hp => N p (by
  simp only [List.mem_cons, List.not_mem_nil, or_false] at hp ⊢
  rcases hp with h | h <;> simp [h])
end Mine
open Mine
theorem PySem.Challenge.cw_no0058_01_holds : PySem.Challenge.rw_no0058_01.Holds := by
  refine lawTop (by
    k_with "pyIter ref" => k_state (fun pre s => 0 ≤ s ∧ s < 2147483647) "seed_here"
    k_go0
    all_goals try k_fold
    rename Below _ _ _ _ => hBE
    refine execs_app (l1 := lawBody.take 1) (l2 := lawBody.drop 1) ?_
    generalize hl2 : List.drop 1 lawBody = l2
    with_unfolding_all (show wpAny _ _ (execs [_] _) _ _ _)
    w_top off; k_steps
    subst hl2
    have hsp : List.drop 1 lawBody = datStmts ++ List.drop 2 lawBody := by with_unfolding_all rfl
    rw [hsp]
    rename Fr _ _ _ _ => hFE
    rename News _ _ _ _ => hNE
    (try dsimp only at hFE hNE ⊢)
    refine execs_app ?_
    refine' dat_ok hBE hFE ?X ?T (take24 hNE) ?hbl ?hI ?hL ?hs0 ?hs1 ?_
    case X => assumption
    case T => assumption
    case hbl => omega
    case hI => assumption
    case hL => (rw [List.length_take]; omega)
    case hs0 => assumption
    case hs1 => assumption
    intro d td seed' ts' nb' nl' lvs' lst' h' tk' hd hi hl h0 h1 F' N'
    refine' rest_ok hBE F' ?X ?T N' ?hbl hi hl h0 h1 ?hE hd ?_
    case X => assumption
    case T => assumption
    case hbl => omega
    case hE => passes_own
    intro h2 tk2 m2 F2
    (try dsimp only)
    k_steps)
